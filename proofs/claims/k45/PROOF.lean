import PyProof.Rows.All
import Wide.All
import OpenK.AllK
import Wide.FinOn
import HandS.ForMost
import HandS.TupAny
import HandS.TupLe
import HandS.Dict
import KE.KDictPairs
import KE.LtSeq
import PyProof.NeKinds
import HandS.IsInst
import HandS.Codes
import HandS.More
import HandS.RaiseMore
import HandS.IterVal
import KE.DatumOrd
import HandS.Replace
import HandS.Zip
import HandS.Comp
import HandS.ExcOwn
import HandS.Rev
import HandS.RevTup
import PyProof.ListRange
import HandS.Set
import HandS.Strs
import PyProof.Rows.SortShellAny
import HandS.Style
import HandS.Deep
import HandS.SortRule
import HandS.SortKw
import HandS.Keys
import HandS.TryOnly
import HandS.Small
import HandS.ExcCtx
import HandS.Defaults
import HandS.Head0
import HandS.Head1
import HandS.Head2
import HandS.HeadEnd
import HandS.HeadHook1
import HandS.HeadHook2
import HandS.EndBits
import HandS.Words
import HandS.Head3
import PySem.Challenge.RW_stretchbook_k45_lifted
set_option Elab.async false
set_option linter.all false
set_option maxRecDepth 100000
set_option maxHeartbeats 40000000


namespace L2
open PySem PySem.Spec PyProof.Rows


def Bare (K : PySem.W.Frag) (H : Hp) (a : Addr) : Prop := (∃ o xs, H a = some (.frz o (.tup xs)) ∧ o.dict = none) ∨ ∃ o, K.lookup a = some o ∧ o.dict = none

def NewT (H : Hp) (xs : List V) (Q : VK) : Prop := ∀ p o, H p = none → o.dict = none → Q (.ref p) (upd H p (.frz o (.tup xs)))
section
variable {X : Cx}
theorem tup_new {pins : List (Addr × Obj)} {σ : St} {H : Hp} {s : Shared} {xs : List V} {us : List Value} {Q : VK} (I : Inv X pins σ H s) (z : xs.length ≤ sizeLine) (r : Vals xs us) (q : NewT H xs Q) :
    EP X pins σ Q (.ref s.heap.objs.size) { s with heap := s.heap.push { cls := .type "tuple", data := .seq us.toArray } } := by
  have at0 : (s.heap.push { cls := .type "tuple", data := .seq us.toArray }).get? s.heap.objs.size = some { cls := .type "tuple", data := .seq us.toArray } := Heap.get?_push_size _ rfl
  have J := I.laid (t' := s.toks) (o := .frz { cls := .type "tuple", data := .seq us.toArray } (.tup xs)) (fun b ob e => Heap.get?_push_of_some _ e) (Nat.le_refl _) ⟨at0, z, us, r, _, at0, rfl, _, rfl⟩
  exact ⟨.ref s.heap.objs.size, _, J, rfl, q _ _ (I.hok.fresh (Nat.le_refl _)) rfl⟩
def tTupN (t : TA) : TE := fun σ H Q => t σ H fun xs H1 => xs.length ≤ sizeLine ∧ NewT H1 xs Q
theorem pe_tupN {es : List Expr} {t : TA} {pos : Pos} {k} (h : PA X es t) : PE X (.Tuple es k pos) (tTupN t) :=
  ⟨fun pins s σ H Q I hq => wpAny_Tuple_spliced (thn (h.run pos pins s σ H _ I hq) fun us s1 got => by
    obtain ⟨xs, H1, I1, r, z, q⟩ := got
    exact ⟨r.length ▸ z, tup_new I1 z r q⟩)⟩
def rCatN (K : PySem.W.Frag) : R2 := fun x y H Q => ∃ a b xs ys, x = .ref a ∧ y = .ref b ∧ SqT K H a xs ∧ SqT K H b ys ∧ xs.length + ys.length ≤ sizeLine ∧
  (xs = [] → Q (.ref b) H) ∧ (xs ≠ [] → ys = [] → Q (.ref a) H) ∧ (xs ≠ [] → ys ≠ [] → NewT H (xs ++ ys) Q)
theorem op_catN : OpR X (binaryOp .Add) (rCatN X.K) := fun pins s σ H x y v u Q I rx ry h => by
  obtain ⟨a, b, xs, ys, rfl, rfl, ha, hb, hz, q0, q1, q2⟩ := h
  by_cases hx : xs = []
  · exact op_catA pins s σ H _ _ v u Q I rx ry ⟨a, b, xs, ys, rfl, rfl, ha, hb, hz, q0, q1, fun h => absurd hx h⟩
  · cases rx
    cases ry
    obtain ⟨i1, r1, p1, _⟩ := I.tuple ha
    obtain ⟨i2, r2, p2, _⟩ := I.tuple hb
    have nx : i1.toArray.toList ≠ [] := fun z => hx (r1.nil_iff.mp z)
    have sz : i1.toArray.size + i2.toArray.size ≤ sizeLine := by rw [List.size_toArray, List.size_toArray, ← r1.length, ← r2.length]; exact hz
    exact HT.cat_tup p1 p2 (fun z => hx (r1.nil_iff.mp z)) (fun z => ⟨.ref a, H, I, rfl, q1 hx (r2.nil_iff.mp z)⟩)
      (fun z => tup_new I (by rw [List.length_append]; exact hz) (r1.append r2) (q2 hx fun w => z (r2.nil_iff.mpr w))) (by rw [← r1.length, ← r2.length]; exact hz)
def rSlN (K : PySem.W.Frag) : V → Option Int → Option Int → Hp → VK → Prop := fun x lo hi H Q => ∃ a xs, x = .ref a ∧ SqT K H a xs ∧
  (HT.sIx xs.length 0 lo = 0 ∧ HT.sIx xs.length xs.length hi = xs.length → Q (.ref a) H) ∧ (¬ (HT.sIx xs.length 0 lo = 0 ∧ HT.sIx xs.length xs.length hi = xs.length) → NewT H (cutV xs lo hi) Q)
theorem sl_tupN : SlR X (rSlN X.K) := fun pins s σ H x v vl vu lo hi sl Q I rx hs pl pu h => by
  obtain ⟨a, xs, rfl, hx, q1, q2⟩ := h
  by_cases hw : HT.sIx xs.length 0 lo = 0 ∧ HT.sIx xs.length xs.length hi = xs.length
  · exact sl_tupA pins s σ H _ v vl vu lo hi sl Q I rx hs pl pu ⟨a, xs, rfl, hx, q1, fun n => absurd hw n⟩
  · cases rx
    obtain ⟨its, r, ht, hz⟩ := I.tuple hx
    have e : its.toArray.size = xs.length := by rw [List.size_toArray, ← r.length]
    have q := tup_new I (Nat.le_trans (cutV_length xs lo hi) hz) ((r.drop (HT.sIx xs.length 0 lo)).take (HT.sIx xs.length xs.length hi - HT.sIx xs.length 0 lo)) (q2 hw)
    refine ⟨_, _, slot_tuple_getitem.lookup, ht.typeIs, HT.getItem_tuple_cut ht hs pl pu (by rw [e]; exact hw) ?_ (by rw [e]; exact hz)⟩
    rw [e]
    exact q
theorem call_tupN : CallR X (.type "tuple") (fun xs H Q => ∃ p ys, xs = [.ref p] ∧ ((SqL X.K H p ys ∧ NewT H ys Q) ∨ (SqT X.K H p ys ∧ Q (.ref p) H))) := fun pins s σ H xs us Q I r h => by
  obtain ⟨p, ys, rfl, h | h⟩ := h
  · obtain ⟨hq, q⟩ := h
    obtain ⟨u, rfl, rx⟩ := vals1 r
    cases rx
    obtain ⟨its, r1, pl, hz⟩ := I.list hq
    exact call_tuple_list pl.isList (fun h' kp => tup_new (I.kept (t' := s.toks) kp) hz r1 q) (by rw [List.size_toArray, ← r1.length]; exact hz)
  · exact call_tuple_of pins s σ H _ us Q I r ⟨p, ys, rfl, .inr h⟩


theorem bare_at {pins : List (Addr × Obj)} {σ : St} {H : Hp} {s : Shared} {a : Addr} (I : Inv X pins σ H s) (h : Bare X.K H a) : ∃ o, s.heap.get? a = some o ∧ o.dict = none := by
  rcases h with ⟨o, xs, e, d⟩ | ⟨o, e, d⟩
  · exact ⟨o, (I.hok a _ e).1, d⟩
  · exact ⟨o, I.kIn a o e, d⟩
theorem nodup_merged {kvs : List (Key × V)} : ∀ {acc : List (Key × V)}, ((acc ++ kvs).map (·.1)).Nodup → mergeK acc kvs = acc ++ kvs := by
  induction kvs with
  | nil => intro acc _; simp [mergeK]
  | cons p r ih =>
    intro acc h
    have ha : ∀ q ∈ acc, q.1 ≠ p.1 := fun q hq e => by
      rw [List.map_append, List.nodup_append] at h
      exact h.2.2 q.1 (List.mem_map.mpr ⟨q, hq, rfl⟩) p.1 (by simp) e
    have e : putK acc p.1 p.2 = acc ++ [p] := by
      unfold putK
      rw [if_neg]
      intro k
      obtain ⟨q, hq, eq⟩ := List.any_eq_true.mp k
      exact ha q hq (by simpa using eq)
    show mergeK (putK acc p.1 p.2) r = _
    rw [e, ih (by rw [List.append_assoc]; exact h), List.append_assoc]; rfl
theorem pairs_at {pins : List (Addr × Obj)} {σ : St} {H : Hp} {s : Shared} (I : Inv X pins σ H s) : ∀ {ps : List Addr} {kvs : List (Key × V)}, Paired (fun p kv => SqT X.K H p [kV kv.1, kv.2]) ps kvs →
    ∃ prs : List (Key × Value × Value), KV kvs (prs.map fun q => (q.1, q.2.2)) ∧ prs.length = ps.length ∧ ∀ (j : Nat) (q : Key × Value × Value), prs[j]? = some q → ∃ b : Addr, ps[j]? = some b ∧ IsTup s.heap b #[q.2.1, q.2.2] ∧ keyIs q.1 q.2.1 = true
  | _, _, .nil => ⟨[], .nil, rfl, fun j q e => by simp at e⟩
  | _, _, .cons (a := p) (b := kv) h t => by
    obtain ⟨prs, r, hl, hp⟩ := pairs_at I t
    obtain ⟨its, rv, ht, _⟩ := I.tuple h
    obtain ⟨u, y, rfl, ru, ry⟩ := vals2 rv
    refine ⟨(kv.1, u, y) :: prs, .cons ⟨rfl, ry⟩ r, by simp [hl], fun j q e => ?_⟩
    match j with
    | 0 =>
      obtain rfl : (kv.1, u, y) = q := by simpa using e
      exact ⟨p, rfl, ht, kV_is (P := X.prog) (w := X.w) ru⟩
    | j + 1 =>
      obtain ⟨b, e1, e2⟩ := hp j q (by simpa using e)
      exact ⟨b, by simpa using e1, e2⟩
theorem call_dictN (hcalm : X.calm = true) : CallR X (.type "dict") (fun xs H Q => ∃ (a : Addr) (ps : List Addr) (kvs : List (Key × V)), xs = [.ref a] ∧ SqT X.K H a (ps.map V.ref) ∧ Bare X.K H a ∧ Paired (fun p kv => SqT X.K H p [kV kv.1, kv.2]) ps kvs ∧
    (kvs.map (·.1)).Nodup ∧ ∀ p, H p = none → Q (.ref p) (upd H p (.dK kvs))) := fun pins s σ H xs us Q I r q => by
  obtain ⟨a, ps, kvs, rfl, hq, hb, hp, nd, q⟩ := q
  obtain ⟨u, rfl, rx⟩ := vals1 r
  cases rx
  obtain ⟨its, rv, pl, hz⟩ := I.tuple hq
  obtain ⟨ob, hob, hd⟩ := bare_at I hb
  obtain ⟨o, ho, hc, n, hdat⟩ := id pl
  obtain rfl : ob = o := by rw [hob] at ho; exact Option.some.inj ho
  have ei := refs_at rv
  subst ei
  rw [List.length_map] at hz
  obtain ⟨prs, rel, hl, hpr⟩ := pairs_at I hp
  refine PySem.call_dict_pairs (knd := mixKind X.prog X.w) (kvs := prs.map fun q => (q.1, q.2.2)) (PairArg.tuple a (ps.map Value.ref).toArray (fun j => ps.getD j 0) (prs.map fun q => q.2)) (I.ok.hd hcalm)
    ⟨⟨ob, n, hob, hc, hd, hdat⟩, by simp [hl], fun j k v e => ?_⟩ ⟨by simp, fun i k v e => ?_⟩ (by rw [List.length_map, hl]; exact hz) fun h' tk hd' kp => ?_
  · obtain ⟨q, eq, e⟩ := List.getElem?_map .. ▸ e |> Option.map_eq_some_iff.mp
    obtain ⟨b, e1, e2, e3⟩ := hpr j q eq
    have eb : ps.getD j 0 = b := by rw [List.getD_eq_getElem?_getD, e1]; rfl
    refine ⟨by simp [e1], .inl ?_⟩
    show s.heap.IsTuple (ps.getD j 0) #[k, v]
    rw [eb]
    rw [e] at e2
    exact e2
  · have e : (prs.map fun q => q.2)[i]? = some (k, v) := e
    rw [List.getElem?_map] at e
    obtain ⟨q, eq, e⟩ := Option.map_eq_some_iff.mp e
    obtain ⟨b, e1, e2, e3⟩ := hpr i q eq
    refine ⟨q.1, ?_, ?_⟩
    · rw [List.getElem?_map, eq]
      show some (q.1, q.2.2) = _
      rw [e]
    · rw [show k = q.2.1 from by rw [e]]
      exact e3
  · have big : (s.heap.objs.size == sysModules) = false := beq_eq_false_iff_ne.mpr (Nat.ne_of_gt I.big)
    have em : mergeK [] kvs = kvs := nodup_merged (acc := []) nd
    have km := KV.merge rel .nil
    rw [em] at km
    have len : kvs.length ≤ sizeLine := by rw [rel.length, List.length_map, hl]; exact hz
    exact ⟨.ref s.heap.objs.size, _, I.laid (t' := tk) (o := .dK kvs) (fun b o e => kp b o (by simp) e) (Nat.le_refl _) ⟨len, big, _, km, hd'⟩, rfl, q _ (I.hok.fresh (Nat.le_refl _))⟩
end
end L2


namespace Rf
open PySem L2


inductive D where
  | non | bl (b : Bool) | int (i : Int) | str (x : Str) | tup (xs : List D) | lst (xs : List D) | ref (n : Nat) | fro (ns : List Int)
namespace D
mutual
def dec : (a b : D) → Decidable (a = b)
  | .non, .non => .isTrue rfl
  | .bl a, .bl b => if h : a = b then .isTrue (by rw [h]) else .isFalse (fun q => h (by injection q))
  | .int a, .int b => if h : a = b then .isTrue (by rw [h]) else .isFalse (fun q => h (by injection q))
  | .str a, .str b => if h : a = b then .isTrue (by rw [h]) else .isFalse (fun q => h (by injection q))
  | .tup a, .tup b => match decs a b with
    | .isTrue h => .isTrue (by rw [h])
    | .isFalse h => .isFalse (fun q => h (by injection q))
  | .lst a, .lst b => match decs a b with
    | .isTrue h => .isTrue (by rw [h])
    | .isFalse h => .isFalse (fun q => h (by injection q))
  | .ref a, .ref b => if h : a = b then .isTrue (by rw [h]) else .isFalse (fun q => h (by injection q))
  | .fro a, .fro b => if h : a = b then .isTrue (by rw [h]) else .isFalse (fun q => h (by injection q))
  | .non, .bl _ | .non, .int _ | .non, .str _ | .non, .tup _ | .non, .lst _ | .non, .ref _ | .non, .fro _ => .isFalse (fun q => by cases q)
  | .bl _, .non | .bl _, .int _ | .bl _, .str _ | .bl _, .tup _ | .bl _, .lst _ | .bl _, .ref _ | .bl _, .fro _ => .isFalse (fun q => by cases q)
  | .int _, .non | .int _, .bl _ | .int _, .str _ | .int _, .tup _ | .int _, .lst _ | .int _, .ref _ | .int _, .fro _ => .isFalse (fun q => by cases q)
  | .str _, .non | .str _, .bl _ | .str _, .int _ | .str _, .tup _ | .str _, .lst _ | .str _, .ref _ | .str _, .fro _ => .isFalse (fun q => by cases q)
  | .tup _, .non | .tup _, .bl _ | .tup _, .int _ | .tup _, .str _ | .tup _, .lst _ | .tup _, .ref _ | .tup _, .fro _ => .isFalse (fun q => by cases q)
  | .lst _, .non | .lst _, .bl _ | .lst _, .int _ | .lst _, .str _ | .lst _, .tup _ | .lst _, .ref _ | .lst _, .fro _ => .isFalse (fun q => by cases q)
  | .ref _, .non | .ref _, .bl _ | .ref _, .int _ | .ref _, .str _ | .ref _, .tup _ | .ref _, .lst _ | .ref _, .fro _ => .isFalse (fun q => by cases q)
  | .fro _, .non | .fro _, .bl _ | .fro _, .int _ | .fro _, .str _ | .fro _, .tup _ | .fro _, .lst _ | .fro _, .ref _ => .isFalse (fun q => by cases q)
def decs : (a b : List D) → Decidable (a = b)
  | [], [] => .isTrue rfl
  | x :: xs, y :: ys => match dec x y with
    | .isTrue h => (match decs xs ys with
      | .isTrue k => .isTrue (by rw [h, k])
      | .isFalse k => .isFalse (fun q => k (by injection q)))
    | .isFalse h => .isFalse (fun q => h (by injection q))
  | [], _ :: _ | _ :: _, [] => .isFalse (fun q => by cases q)
end
instance : DecidableEq D := dec
instance : Inhabited D := ⟨.non⟩
end D
inductive O where
  | lst (xs : List D) | dic (kvs : List (D × D)) | dks (ks xs : List D)
deriving DecidableEq
abbrev Store := List O
abbrev Env := List (Option D)
structure Exn where
  cls : Str
  fs : List (Str × D)
inductive Res (α : Type) where
  | ok (a : α) | ex (e : Exn) (r : Env) (S : Store) | bad
abbrev RD := Res (D × Store)
abbrev RDs := Res (List D × Store)
def Res.bd {α β : Type} (r : Res (α × Store)) (f : α → Store → Res β) : Res β :=
  match r with
  | .ok (a, S) => f a S
  | .ex e r S => .ex e r S
  | .bad => .bad
def Res.of {α : Type} (o : Option α) (S : Store) : Res (α × Store) :=
  match o with
  | some a => .ok (a, S)
  | none => .bad


inductive Bi where
  | len | all | any | tuple | int | str | max | min | sum
  | join | startswith | partition | find | count | index
deriving DecidableEq
inductive Mu where
  | append | extend | insert | clear | reverse | pop
deriving DecidableEq
inductive Lm where
  | count | index
deriving DecidableEq
inductive CT where
  | nm (i : Nat) | tp (is : List Nat)
deriving DecidableEq
mutual
inductive CE where
  | non | bl (b : Bool) | int (i : Int) | str (x : Str)
  | var (i : Nat) | con (x : Str)
  | bin (op : Operator) (a b : CE)
  | neg (a : CE)
  | cmp (op : CmpOp) (a b : CE)
  | chain (op op' : CmpOp) (a b c : CE)
  | and (a b : CE) | or (a b : CE) | not (a : CE) | ite (c a b : CE)
  | tup (es : CEs)
  | idx (a i : CE) | slc (a : CE) (lo hi : CO)
  | call (f : Str) (es : CEs)
  | bi (b : Bi) (es : CEs)
  | met (b : Bi) (o : CE) (es : CEs)
  | isi (a : CE) (t : String)
  | mut (m : Mu) (o : CE) (es : CEs)
  | lm (m : Lm) (o : CE) (a : CE)
  | slr (a : CE)
  | dnew | dget (o : CE) (es : CEs)
  | dlit (k v : CE) | dat (o i : CE) | dof (a : CE)
  | new (st : Bool) (l : CL)
inductive CEs where
  | nil | cons (e : CE) (es : CEs)
inductive CO where
  | non | som (e : CE)
inductive CL where
  | disp (es : CEs)
  | comp (tg : CT) (it : CI) (cond : CO) (elt : CE)
  | cat (a b : CE)
  | rep (a b : CE)
  | slc (a : CE) (lo hi : CO)
  | list (a : CE)
  | split (a b : CE)
  | sorted (a : CE)
  | sortk (f : Str) (a : CE)
  | revl (a : CL)
  | slr (a : CE)
  | sset (a : CE)
inductive CI where
  | seq (e : CE) | range (es : CEs) | zip (a b : CE) | enum (a : CE) | rev (a : CE)
end
mutual
inductive CS where
  | asg (i : Nat) (e : CE)
  | asgt (is : List Nat) (e : CE)
  | asgl (is : List Nat) (e : CE)
  | asgs (o i : CE) (e : CE)
  | dput (o : CE) (es : CEs) (e : CE)
  | dset (o i : CE) (e : CE)
  | expr (e : CE)
  | ret (e : CE) | retN
  | ite (c : CE) (a b : CSs)
  | for_ (t : CT) (it : CI) (b : CSs)
  | while_ (k : Nat) (c : CE) (b : CSs)
  | pass | brk | cont | never
inductive CSs where
  | nil | cons (s : CS) (r : CSs)
end


namespace D
mutual

def eqv : D → D → Bool
  | .non, .non => true
  | .bl a, .bl b => a == b
  | .bl a, .int j => (if a then 1 else 0) == j
  | .int i, .bl b => i == (if b then 1 else 0)
  | .int i, .int j => i == j
  | .str x, .str y => x == y
  | .lst xs, .lst ys => eqvs xs ys
  | .tup xs, .tup ys => eqvs xs ys
  | .non, .bl _ | .non, .int _ | .non, .str _ | .non, .tup _ | .non, .lst _ | .non, .ref _ | .non, .fro _ => false
  | .bl _, .non | .bl _, .str _ | .bl _, .tup _ | .bl _, .lst _ | .bl _, .ref _ | .bl _, .fro _ => false
  | .int _, .non | .int _, .str _ | .int _, .tup _ | .int _, .lst _ | .int _, .ref _ | .int _, .fro _ => false
  | .str _, .non | .str _, .bl _ | .str _, .int _ | .str _, .tup _ | .str _, .lst _ | .str _, .ref _ | .str _, .fro _ => false
  | .tup _, .non | .tup _, .bl _ | .tup _, .int _ | .tup _, .str _ | .tup _, .lst _ | .tup _, .ref _ | .tup _, .fro _ => false
  | .lst _, .non | .lst _, .bl _ | .lst _, .int _ | .lst _, .str _ | .lst _, .tup _ | .lst _, .ref _ | .lst _, .fro _ => false
  | .ref _, _ | .fro _, _ => false
def eqvs : List D → List D → Bool
  | [], [] => true
  | x :: xs, y :: ys => eqv x y && eqvs xs ys
  | [], _ :: _ | _ :: _, [] => false
end
mutual

def okd : Nat → D → Bool
  | 0, _ => false
  | _ + 1, .non | _ + 1, .bl _ | _ + 1, .int _ | _ + 1, .str _ => true
  | n + 1, .tup xs => okds n xs
  | n + 1, .lst xs => okds n xs
  | _ + 1, .ref _ | _ + 1, .fro _ => false
def okds : Nat → List D → Bool
  | _, [] => true
  | n, x :: xs => okd n x && okds n xs
end
mutual

def ltv : D → D → Option Bool
  | .int i, .int j => some (decide (i < j))
  | .bl i, .bl j => some (!i && j)
  | .str x, .str y => some (decide (x.cps.toList < y.cps.toList))
  | .tup xs, .tup ys => ltvs xs ys
  | .lst xs, .lst ys => ltvs xs ys
  | _, _ => none
def ltvs : List D → List D → Option Bool
  | [], [] => some false
  | [], _ :: _ => some true
  | _ :: _, [] => some false
  | x :: xs, y :: ys => match ltvs xs ys with
    | none => none
    | some k => if eqv x y = true then some k else ltv x y
end

def pairS : D → Bool
  | .tup [.str _, _] => true
  | _ => false

def objS : D → Bool
  | .lst _ | .ref _ => true
  | _ => false

def need (xs : List D) : Bool := xs.all pairS
mutual

def mapR (g : Nat → Option D) : D → Option D
  | .non => some .non
  | .bl b => some (.bl b)
  | .int i => some (.int i)
  | .str x => some (.str x)
  | .tup xs => (mapRs g xs).map .tup
  | .lst xs => (mapRs g xs).map .lst
  | .ref n => g n
  | .fro ns => some (.fro ns)
def mapRs (g : Nat → Option D) : List D → Option (List D)
  | [] => some []
  | x :: xs => match mapR g x, mapRs g xs with
    | some y, some ys => some (y :: ys)
    | _, _ => none
end
end D


def deep : Nat := 40

def rs (S : Store) : D → D
  | .ref n => match S[n]? with
    | some (.lst xs) => .lst xs
    | _ => .ref n
  | d => d
def items (S : Store) : D → Option (List D)
  | .tup xs => some xs
  | .lst xs => some xs
  | .fro ns => some (ns.map .int)
  | .ref n => match S[n]? with
    | some (.lst xs) => some xs
    | _ => none
  | _ => none
def litems (S : Store) : D → Option (List D)
  | .lst xs => some xs
  | .ref n => match S[n]? with
    | some (.lst xs) => some xs
    | _ => none
  | _ => none

def ritems (S : Store) : D → Option (List D)
  | .lst xs => some xs
  | .fro ns => some (ns.map .int)
  | .ref n => match S[n]? with
    | some (.lst xs) => some xs
    | _ => none
  | _ => none
def truth (S : Store) : D → Option Bool
  | .non => some false
  | .bl b => some b
  | .int i => some (i != 0)
  | .str x => if x.length ≤ sizeLine then some ((x.length : Int) != 0) else none
  | .tup xs => some (!xs.isEmpty)
  | .lst xs => some (!xs.isEmpty)
  | .fro ns => some (!ns.isEmpty)
  | .ref n => match S[n]? with
    | some (.lst xs) => some (!xs.isEmpty)
    | _ => none
def inR (i : Int) : Bool := decide (-(2 ^ 64) < i) && decide (i < 2 ^ 64)
def binD (op : Operator) : D → D → Option D
  | .int i, .int j => match op with
    | .Add => some (.int (i + j))
    | .Sub => some (.int (i - j))
    | .Mult => if inR i || inR j then some (.int (i * j)) else none
    | .FloorDiv => if 0 < j && j < 1073741824 then some (.int (i / j)) else none
    | .Mod => if 0 < j then some (.int (i % j)) else none
    | .Pow => if 0 ≤ j ∧ j ≤ 1000000 ∧ i.natAbs < 2 ^ 64 then some (.int (i ^ j.toNat)) else none
    | .LShift => if 0 ≤ j ∧ j ≤ 1000000 ∧ i.natAbs < 2 ^ 64 then some (.int (i * 2 ^ j.toNat)) else none
    | .RShift => if 0 ≤ j then some (.int (i / 2 ^ j.toNat)) else none
    | .BitAnd => some (.int (Builtin.bitAnd i j))
    | _ => none
  | .str x, .str y => match op with
    | .Add => if x.length + y.length ≤ sizeLine then some (.str (x ++ y)) else none
    | _ => none
  | .tup xs, .tup ys => match op with
    | .Add => if xs.length + ys.length ≤ sizeLine then some (.tup (xs ++ ys)) else none
    | _ => none
  | _, _ => none
def inStr (x y : Str) : Bool := !(Builtin.Str.occurrences y x 0 y.length 1).isEmpty
def inSeq (S : Store) (a b : D) : Option Bool := (items S b).bind fun ys => if D.okd deep (rs S a) && D.okds deep ys then some (ys.any fun y => D.eqv y (rs S a)) else none
def keyB1 : D → Bool
  | .int _ => true
  | .str _ => true
  | _ => false

def inRef (S : Store) (a : D) (n : Nat) : Option Bool :=
  match S[n]? with
  | some (.dks ks _) => if keyB1 a = true then some (decide (a ∈ ks)) else none
  | _ => inSeq S a (.ref n)
def inD (S : Store) (a b : D) : Option Bool :=
  match b with
  | .str y => match a with
    | .str x => some (inStr x y)
    | _ => none
  | .ref n => inRef S a n
  | b => inSeq S a b
def cmpD (S : Store) (op : CmpOp) (a b : D) : Option Bool :=
  match op with
  | .Eq => if D.okd deep (rs S a) && D.okd deep (rs S b) then some (D.eqv (rs S a) (rs S b)) else none
  | .NotEq => if D.okd deep (rs S a) && D.okd deep (rs S b) then some (!D.eqv (rs S a) (rs S b)) else none
  | .Lt => match a, b with
    | .int i, .int j => some (decide (i < j))
    | a, b => if D.okd deep (rs S a) && D.okd deep (rs S b) then D.ltv (rs S a) (rs S b) else none
  | .LtE => match a, b with
    | .int i, .int j => some (decide (i ≤ j))
    | _, _ => none
  | .Gt => match a, b with
    | .int i, .int j => some (decide (j < i))
    | _, _ => none
  | .GtE => match a, b with
    | .int i, .int j => some (decide (j ≤ i))
    | _, _ => none
  | .In => inD S a b
  | .NotIn => (inD S a b).map (!·)
  | .Is => match b with
    | .non => some (decide (a = .non))
    | .bl c => match a with
      | .bl d => some (decide (d = c))
      | _ => none
    | _ => none
  | .IsNot => match b with
    | .non => some (!decide (a = .non))
    | .bl c => match a with
      | .bl d => some (!decide (d = c))
      | _ => none
    | _ => none
def idxD (S : Store) (a i : D) : Option D :=
  match i with
  | .int k => match a with
    | .str z => if z.length ≤ sizeLine then (atI z.cps.toList k).map fun c => .str ⟨#[c]⟩ else none
    | a => match items S a with
      | some xs => atI xs k
      | none => none
  | _ => none
def cutD {α : Type} (xs : List α) (lo hi : Option Int) : List α := (xs.drop (HT.sIx xs.length 0 lo)).take (HT.sIx xs.length xs.length hi - HT.sIx xs.length 0 lo)
def slcD (a : D) (l h : Option Int) : Option D :=
  match a with
  | .str z => if z.length ≤ sizeLine then some (.str (Txt.slice z l h)) else none
  | .tup xs => some (.tup (cutD xs l h))
  | _ => none
def slrD (a : D) : Option D :=
  match a with
  | .tup xs => if D.need xs then none else some (.tup xs.reverse)
  | _ => none

def lmD (m : Lm) (S : Store) (o x : D) : Option D :=
  (litems S o).bind fun xs => if D.okd deep (rs S x) && D.okds deep xs then (match m with
    | .count => some (.int (xs.countP fun y => D.eqv y (rs S x) : Nat))
    | .index => (xs.findIdx? fun y => D.eqv y (rs S x)).map fun j => .int (j : Nat)) else none
def bls : List D → Option (List Bool)
  | [] => some []
  | .bl b :: r => (bls r).map (b :: ·)
  | _ :: _ => none
def intL : List D → Option (List Int)
  | [] => some []
  | .int i :: r => (intL r).map (i :: ·)
  | _ :: _ => none
def strL : List D → Option (List Str)
  | [] => some []
  | .str x :: r => (strL r).map (x :: ·)
  | _ :: _ => none
def maxL : List Int → Option Int
  | [] => none
  | x :: r => some (r.foldl max x)
def minL : List Int → Option Int
  | [] => none
  | x :: r => some (r.foldl min x)
def biD (b : Bi) (S : Store) (vs : List D) : Option D :=
  match b with
  | .len => match vs with
    | [.str z] => if z.length ≤ sizeLine then some (.int z.length) else none
    | [a] => match items S a with
      | some xs => some (.int xs.length)
      | none => none
    | _ => none
  | .all => match vs with
    | [a] => match litems S a with
      | some xs => (bls xs).map fun bs => .bl (bs.all id)
      | none => none
    | _ => none
  | .any => match vs with
    | [a] => match litems S a with
      | some xs => (bls xs).map fun bs => .bl (bs.any id)
      | none => none
    | _ => none
  | .tuple => match vs with
    | [a] => (items S a).map .tup
    | _ => none
  | .int => match vs with
    | [.int i] => some (.int i)
    | [.bl k] => some (.int (if k then 1 else 0))
    | [.str a] => if a.length ≤ 640 then (PySem.intText? a).map .int else none
    | _ => none
  | .str => match vs with
    | [.int i] => if i.natAbs.log2 < 1920 then some (.str (toString i)) else none
    | [.str a] => some (.str a)
    | _ => none
  | .max => match vs with
    | [.int i, .int j] => some (.int (if j > i then j else i))
    | [a] => (items S a).bind fun xs => (intL xs).bind fun is => (maxL is).map .int
    | _ => none
  | .min => match vs with
    | [.int i, .int j] => some (.int (if j < i then j else i))
    | [a] => (items S a).bind fun xs => (intL xs).bind fun is => (minL is).map .int
    | _ => none
  | .sum => match vs with
    | [a] => match litems S a with
      | some xs => (intL xs).map fun is => .int is.sum
      | none => none
    | _ => none
  | .join => match vs with
    | [.str a, b] => match items S b with
      | some xs => (strL xs).bind fun ys => if (ys.map (·.length)).sum + ys.length * a.length ≤ 16777216 then some (.str (Txt.join a ys)) else none
      | none => none
    | _ => none
  | .startswith => match vs with
    | [.str a, .str b] => some (.bl (Txt.startswith a b))
    | _ => none
  | .partition => match vs with
    | [.str a, .str b] => if (b.length == 0) = false ∧ a.length ≤ sizeLine then some (.tup [.str (Txt.partition a b).1, .str (Txt.partition a b).2.1, .str (Txt.partition a b).2.2]) else none
    | _ => none
  | .find => match vs with
    | [.str a, .str b] => some (.int (Txt.find a b))
    | _ => none
  | .index => match vs with
    | [.str a, .str b] => match Builtin.Str.occurrences a b 0 a.length 1 with
      | i :: _ => some (.int (i : Nat))
      | [] => none
    | _ => none
  | .count => match vs with
    | [.str a, .str b] => some (.int (Txt.count a b))
    | _ => none
def catL (S : Store) (x y : D) : Option (List D) := (litems S x).bind fun xs => (litems S y).bind fun ys => if xs.length + ys.length ≤ sizeLine then some (xs ++ ys) else none
def repL (S : Store) (x : D) : D → Option (List D)
  | .int k => (litems S x).bind fun xs => if 0 ≤ k ∧ k < 1000 ∧ xs.length < 1000 then some (List.replicate k.toNat xs).flatten else none
  | _ => none
def splitL : D → D → Option (List D)
  | .str a, .str b => if (b.length == 0) = false ∧ a.length + 2 ≤ sizeLine then some ((Txt.split a b).map .str) else none
  | _, _ => none
def isiD (S : Store) (t : String) (a : D) : Option Bool :=
  match a with
  | .non => some false
  | .bl _ => some (t == "bool" || t == "int")
  | .int _ => some (t == "int")
  | .str _ => some (t == "str")
  | .tup _ => some (t == "tuple")
  | .lst _ => some (t == "list")
  | .fro _ => some (t == "list")
  | .ref n => match S[n]? with
    | some (.lst _) => some (t == "list")
    | _ => none
def mutD (m : Mu) (S : Store) (o : D) (vs : List D) : Option (D × Store) :=
  match o with
  | .ref n => match S[n]? with
    | some (.lst xs) => match m, vs with
      | .append, [y] => if xs.length < sizeLine then some (.non, S.set n (.lst (xs ++ [y]))) else none
      | .extend, [a] => (litems S a).bind fun ys => if xs.length + ys.length ≤ sizeLine then some (.non, S.set n (.lst (xs ++ ys))) else none
      | .insert, [.int i, y] => if xs.length < sizeLine ∧ 0 ≤ i ∧ i < 2 ^ 63 then some (.non, S.set n (.lst (xs.take i.toNat ++ [y] ++ xs.drop i.toNat))) else none
      | .clear, [] => some (.non, S.set n (.lst []))
      | .reverse, [] => some (.non, S.set n (.lst xs.reverse))
      | .pop, [] => match xs.getLast? with
        | some y => some (y, S.set n (.lst xs.dropLast))
        | none => none
      | _, _ => none
    | _ => none
  | _ => none
def setD (S : Store) (o i v : D) : Option Store :=
  match o, i with
  | .ref n, .int k => match S[n]? with
    | some (.lst xs) => match ixN xs.length k with
      | some j => some (S.set n (.lst (xs.set j v)))
      | none => none
    | _ => none
  | _, _ => none


def pairL : List D → Option (List D × List D)
  | [] => some ([], [])
  | .tup [.str k, v] :: r => (pairL r).map fun q => (.str k :: q.1, v :: q.2)
  | _ => none
def dofD : D → Option (List D × List D)
  | .tup ps => (pairL ps).bind fun q => if q.1.Nodup then some q else none
  | _ => none
def datD (S : Store) (o i : D) : Option D :=
  match o with
  | .ref n => match S[n]? with
    | some (.dks ks xs) => if keyB1 i = true then ((ks.zip xs).find? fun p => decide (p.1 = i)).map (·.2) else none
    | _ => none
  | _ => none
def dlitD (S : Store) (n : Nat) (i v : D) : Option Store := if S[n]? = some (.dks [] []) ∧ keyB1 i = true then some (S.set n (.dks [i] [v])) else none
def dsetD (S : Store) (o i v : D) : Option Store :=
  match o with
  | .ref n => match S[n]? with
    | some (.dks ks xs) => if keyB1 i = true ∧ i ∉ ks ∧ ks.length < 100000 then some (S.set n (.dks (ks ++ [i]) (xs ++ [v]))) else none
    | _ => none
  | _ => none

def keyB : D → Bool
  | .int _ | .str _ => true
  | _ => false
def flatB : D → Bool
  | .non | .bl _ | .int _ | .str _ => true
  | _ => false
def keysB (xs : List D) : Bool := xs.all keyB && decide (xs.length ≤ 100)
def getDic (kvs : List (D × D)) (k : D) : Option D := (kvs.find? fun p => decide (p.1 = k)).map (·.2)
def putDic (kvs : List (D × D)) (k v : D) : List (D × D) :=
  if (kvs.any fun p => decide (p.1 = k)) = true then kvs.map (fun p => if p.1 = k then (p.1, v) else p) else kvs ++ [(k, v)]
def dgetD (S : Store) (o : D) (xs : List D) : Option D :=
  match o with
  | .ref n => match S[n]? with
    | some (.dic kvs) => if keysB xs = true then getDic kvs (.tup xs) else none
    | _ => none
  | _ => none
def dputD (S : Store) (o : D) (xs : List D) (v : D) : Option Store :=
  match o with
  | .ref n => match S[n]? with
    | some (.dic kvs) => if keysB xs = true ∧ flatB v = true ∧ kvs.length < sizeLine then some (S.set n (.dic (putDic kvs (.tup xs) v))) else none
    | _ => none
  | _ => none

def bindT (t : CT) (x : D) (r : Env) : Option Env :=
  match t with
  | .nm i => some (r.set i (some x))
  | .tp is => match x with
    | .tup xs => if xs.length = is.length then some ((is.zip xs).foldl (fun r p => r.set p.1 (some p.2)) r) else none
    | _ => none
def wipeT (t : CT) (r : Env) : Env :=
  match t with
  | .nm i => r.set i none
  | .tp is => is.foldr (fun i r => r.set i none) r


def ltB (a b : D) : Bool := decide (D.ltv a b = some true)

def okSort (ks : List D) : Bool := ks.all fun x => !ltB x x && ks.all fun y => (D.ltv x y).isSome && ks.all fun z =>
  (!(ltB x y && ltB y z) || ltB x z) && (ltB x y || ltB y z || !ltB x z)
def insK (x : D × D) : List (D × D) → List (D × D)
  | [] => [x]
  | y :: r => if ltB y.1 x.1 = true then y :: insK x r else x :: y :: r
def sortK (l : List (D × D)) : List (D × D) := l.foldr insK []
def insS (x : Str) : List Str → List Str
  | [] => [x]
  | y :: l => if x = y then y :: l else if x.cps.toList < y.cps.toList then x :: y :: l else y :: insS x l

def ssetL (xs : List Str) : List Str := xs.foldr insS []
def ssetD (S : Store) (x : D) : Option (List D) := (litems S x).bind fun xs => (strL xs).bind fun ss => if ss.length < 4000 then some ((ssetL ss).map .str) else none
def sortD (ks xs : List D) : Option (List D) := if D.okds deep ks = true ∧ okSort ks = true then some ((sortK (ks.zip xs)).map (·.2)) else none

def tupK : D → Bool
  | .tup (.int _ :: _) => true
  | _ => false
def sortT (ks xs : List D) : Option (List D) := if ks.all tupK = true then sortD ks xs else none


structure Cfg where
  call : Str → List D → Store → RD
  con : Str → Option D
inductive Fl where
  | nx | rt (d : D) | bk | ct
abbrev RS := Res ((Fl × Env) × Store)

def Res.nox {α : Type} (r : Res α) : Res α :=
  match r with
  | .ok a => .ok a
  | .ex _ _ _ => .bad
  | .bad => .bad
def conso (y : Option D) (ys : List D) : List D :=
  match y with
  | some d => d :: ys
  | none => ys
def compL (w : Store → Bool) (f : D → Store → Res (Option D × Store)) : List D → Store → RDs
  | [], S => if w S = true then .ok ([], S) else .bad
  | x :: xs, S => if w S = true then (f x S).nox.bd fun y S1 => (compL w f xs S1).bd fun ys S2 => .ok (conso y ys, S2) else .bad
def forL (w : Store → Bool) (body : D → Env → Store → RS) : List D → Env → Store → RS
  | [], r, S => if w S = true then .ok ((.nx, r), S) else .bad
  | x :: xs, r, S => if w S = true then (body x r S).bd fun p S' => match p.1 with
    | .nx => forL w body xs p.2 S'
    | .ct => forL w body xs p.2 S'
    | .bk => .ok ((.nx, p.2), S')
    | .rt d => .ok ((.rt d, p.2), S') else .bad
def whileN (test : Env → Store → Res (Bool × Store)) (body : Env → Store → RS) : Nat → Env → Store → RS
  | 0, _, _ => .bad
  | k + 1, r, S => (test r S).bd fun b S1 => if b = true then (body r S1).bd fun p S' => match p.1 with
    | .nx => whileN test body k p.2 S'
    | .ct => whileN test body k p.2 S'
    | .bk => .ok ((.nx, p.2), S')
    | .rt d => .ok ((.rt d, p.2), S') else .ok ((.nx, r), S1)
def isMut (S : Store) : D → Bool
  | .ref n => match S[n]? with
    | some (.lst _) => true
    | _ => false
  | _ => false
def isLs (S : Store) : D → Bool
  | .lst _ => true
  | .ref n => match S[n]? with
    | some (.lst _) => true
    | _ => false
  | _ => false
def isStr : D → Bool
  | .str _ => true
  | _ => false

def seqI (S : Store) : D → Option (List D × (Store → Bool))
  | .tup xs => some (xs, fun _ => true)
  | .lst xs => some (xs, fun _ => true)
  | .fro ns => some (ns.map .int, fun _ => true)
  | .str z => some (z.cps.toList.map fun c => .str ⟨#[c]⟩, fun _ => true)
  | .ref n => match S[n]? with
    | some (.lst xs) => some (xs, fun S' => decide (S'[n]? = some (.lst xs)))
    | _ => none
  | _ => none
def inRng (i : Int) : Bool := decide (-(2 ^ 62) ≤ i) && decide (i < 2 ^ 62)
def rangeL (lo : Int) (n : Nat) : List D := (List.range n).map fun (k : Nat) => .int (lo + (k : Int))

def stepN (i j c : Int) : Nat := if i < j then ((j - i - 1) / c + 1).toNat else 0
def rangeI : List D → Option (List D)
  | [.int j] => if inRng j then some (rangeL 0 j.toNat) else none
  | [.int i, .int j] => if inRng i && inRng j then some (rangeL i (j - i).toNat) else none
  | [.int i, .int j, .int c] => if inRng i && inRng j && decide (c = -1) then some ((List.range (i - j).toNat).map fun (k : Nat) => .int (i - (k : Int)))
    else if inRng i && inRng j && decide (0 < c) && decide (c < 1000) then some ((List.range (stepN i j c)).map fun (k : Nat) => .int (i + (k : Int) * c)) else none
  | _ => none
def zipL : D → D → Option (List D)
  | .lst xs, .lst ys => if ys.any D.pairS then none else some ((xs.zip ys).map fun p => .tup [p.1, p.2])
  | .tup xs, .tup ys => if ys.any D.pairS then none else some ((xs.zip ys).map fun p => .tup [p.1, p.2])
  | _, _ => none
def enumL : D → Option (List D)
  | .lst xs => some (((List.range xs.length).zip xs).map fun p => .tup [.int ((p.1 : Nat) : Int), p.2])
  | _ => none
def revI : D → Option (List D)
  | .lst xs => some xs.reverse
  | _ => none
mutual
def evalE (c : Cfg) : CE → Env → Store → RD
  | .non, _, S => .ok (.non, S)
  | .bl b, _, S => .ok (.bl b, S)
  | .int i, _, S => .ok (.int i, S)
  | .str x, _, S => .ok (.str x, S)
  | .var i, r, S => match r[i]? with
    | some (some d) => .ok (d, S)
    | _ => .bad
  | .con x, _, S => .of (c.con x) S
  | .bin op a b, r, S => (evalE c a r S).bd fun x S1 => (evalE c b r S1).bd fun y S2 => .of (binD op x y) S2
  | .neg a, r, S => (evalE c a r S).bd fun x S1 => match x with
    | .int i => .ok (.int (-i), S1)
    | _ => .bad
  | .cmp op a b, r, S => (evalE c a r S).bd fun x S1 => (evalE c b r S1).bd fun y S2 => .of ((cmpD S2 op x y).map .bl) S2
  | .chain op op' a b d, r, S => (evalE c a r S).bd fun x S1 => (evalE c b r S1).bd fun y S2 => match cmpD S2 op x y with
    | some true => (evalE c d r S2).bd fun z S3 => .of ((cmpD S3 op' y z).map .bl) S3
    | some false => .ok (.bl false, S2)
    | none => .bad
  | .and a b, r, S => (evalE c a r S).bd fun x S1 => match x with
    | .bl true => evalE c b r S1
    | .bl false => .ok (.bl false, S1)
    | _ => .bad
  | .or a b, r, S => (evalE c a r S).bd fun x S1 => match x with
    | .bl true => .ok (.bl true, S1)
    | .bl false => evalE c b r S1
    | _ => .bad
  | .not a, r, S => (evalE c a r S).bd fun x S1 => match x with
    | .bl k => .ok (.bl (!k), S1)
    | _ => .bad
  | .ite t a b, r, S => (evalT c t r S).bd fun k S1 => if k = true then evalE c a r S1 else evalE c b r S1
  | .tup es, r, S => (evalEs c es r S).bd fun xs S1 => if xs.length ≤ sizeLine then .ok (.tup xs, S1) else .bad
  | .idx a i, r, S => (evalE c a r S).bd fun x S1 => (evalE c i r S1).bd fun y S2 => .of (idxD S2 x y) S2
  | .slc a lo hi, r, S => (evalE c a r S).bd fun x S1 => (evalO c lo r S1).bd fun l S2 => (evalO c hi r S2).bd fun h S3 => .of (slcD x l h) S3
  | .call f es, r, S => (evalEs c es r S).bd fun xs S1 => match c.call f xs S1 with
    | .ok z => .ok z
    | .ex e _ S' => .ex e r S'
    | .bad => .bad
  | .bi b es, r, S => (evalEs c es r S).bd fun xs S1 => .of (biD b S1 xs) S1
  | .isi a t, r, S => (evalE c a r S).bd fun x S1 => .of ((isiD S1 t x).map .bl) S1
  | .met b o es, r, S => (evalE c o r S).bd fun x S1 => if isStr x = true then (evalEs c es r S1).bd fun xs S2 => .of (biD b S2 (x :: xs)) S2 else .bad
  | .mut m o es, r, S => (evalE c o r S).bd fun x S1 => if isMut S1 x = true then (evalEs c es r S1).bd fun ys S2 => match mutD m S2 x ys with
    | some z => .ok z
    | none => .bad else .bad
  | .lm m o a, r, S => (evalE c o r S).bd fun x S1 => if isLs S1 x = true then (evalE c a r S1).bd fun y S2 => .of (lmD m S2 x y) S2 else .bad
  | .slr a, r, S => (evalE c a r S).bd fun x S1 => .of (slrD x) S1
  | .dnew, _, S => .ok (.ref S.length, S ++ [.dic []])
  | .dlit k v, r, S => (evalE c k r (S ++ [.dks [] []])).bd fun x S1 => (evalE c v r S1).bd fun y S2 => match dlitD S2 S.length x y with
    | some S3 => .ok (.ref S.length, S3)
    | none => .bad
  | .dof a, r, S => (evalE c a r S).bd fun x S1 => match dofD x with
    | some q => .ok (.ref S1.length, S1 ++ [.dks q.1 q.2])
    | none => .bad
  | .dat o i, r, S => (evalE c o r S).bd fun x S1 => (evalE c i r S1).bd fun y S2 => .of (datD S2 x y) S2
  | .dget o es, r, S => (evalE c o r S).bd fun x S1 => (evalEs c es r S1).bd fun xs S2 => .of (dgetD S2 x xs) S2
  | .new st l, r, S => (evalL c l r S).bd fun xs S1 => if st = true then .ok (.ref S1.length, S1 ++ [.lst xs]) else .ok (.lst xs, S1)
def evalEs (c : Cfg) : CEs → Env → Store → RDs
  | .nil, _, S => .ok ([], S)
  | .cons e es, r, S => (evalE c e r S).bd fun x S1 => (evalEs c es r S1).bd fun xs S2 => .ok (x :: xs, S2)
def evalO (c : Cfg) : CO → Env → Store → Res (Option Int × Store)
  | .non, _, S => .ok (none, S)
  | .som e, r, S => (evalE c e r S).bd fun x S1 => match x with
    | .int i => .ok (some i, S1)
    | _ => .bad

def evalT (c : Cfg) : CE → Env → Store → Res (Bool × Store)
  | .and a b, r, S => (evalT c a r S).bd fun k S1 => if k = true then evalT c b r S1 else .ok (false, S1)
  | .or a b, r, S => (evalT c a r S).bd fun k S1 => if k = true then .ok (true, S1) else evalT c b r S1
  | .not a, r, S => (evalT c a r S).bd fun k S1 => .ok (!k, S1)
  | .cmp op a b, r, S => (evalE c a r S).bd fun x S1 => (evalE c b r S1).bd fun y S2 => .of (cmpD S2 op x y) S2
  | .chain op op' a b d, r, S => (evalE c a r S).bd fun x S1 => (evalE c b r S1).bd fun y S2 => match cmpD S2 op x y with
    | some true => (evalE c d r S2).bd fun z S3 => .of (cmpD S3 op' y z) S3
    | some false => .ok (false, S2)
    | none => .bad
  | .var i, r, S => match r[i]? with
    | some (some d) => .of (truth S d) S
    | _ => .bad
  | .call f es, r, S => (evalEs c es r S).bd fun xs S1 => match c.call f xs S1 with
    | .ok (d, S2) => .of (truth S2 d) S2
    | .ex e _ S' => .ex e r S'
    | .bad => .bad
  | .bi b es, r, S => (evalEs c es r S).bd fun xs S1 => .of ((biD b S1 xs).bind (truth S1)) S1
  | .met b o es, r, S => (evalE c o r S).bd fun x S1 => if isStr x = true then (evalEs c es r S1).bd fun xs S2 => .of ((biD b S2 (x :: xs)).bind (truth S2)) S2 else .bad
  | .isi a t, r, S => (evalE c a r S).bd fun x S1 => .of (isiD S1 t x) S1
  | .idx a i, r, S => (evalE c a r S).bd fun x S1 => (evalE c i r S1).bd fun y S2 => .of ((idxD S2 x y).bind (truth S2)) S2
  | .slc a lo hi, r, S => (evalE c a r S).bd fun x S1 => (evalO c lo r S1).bd fun l S2 => (evalO c hi r S2).bd fun h S3 => .of ((slcD x l h).bind (truth S3)) S3
  | .bin op a b, r, S => (evalE c a r S).bd fun x S1 => (evalE c b r S1).bd fun y S2 => .of ((binD op x y).bind (truth S2)) S2
  | .dget o es, r, S => (evalE c o r S).bd fun x S1 => (evalEs c es r S1).bd fun xs S2 => .of ((dgetD S2 x xs).bind (truth S2)) S2
  | .bl b, _, S => .ok (b, S)
  | _, _, _ => .bad
def evalL (c : Cfg) : CL → Env → Store → RDs
  | .disp es, r, S => (evalEs c es r S).bd fun xs S1 => if xs.length ≤ sizeLine then .ok (xs, S1) else .bad
  | .comp tg it cond elt, r, S => (evalI c it r S).bd fun p S1 => if p.1.length ≤ sizeLine then compL p.2 (fun x S2 => match bindT tg x (wipeT tg r) with
      | some r' => (evalC c cond r' S2).bd fun k S3 => if k = true then (evalE c elt r' S3).bd fun d S4 => .ok (some d, S4) else .ok (none, S3)
      | none => .bad) p.1 S1 else .bad
  | .cat a b, r, S => (evalE c a r S).bd fun x S1 => (evalE c b r S1).bd fun y S2 => .of (catL S2 x y) S2
  | .rep a b, r, S => (evalE c a r S).bd fun x S1 => (evalE c b r S1).bd fun y S2 => .of (repL S2 x y) S2
  | .slc a lo hi, r, S => (evalE c a r S).bd fun x S1 => (evalO c lo r S1).bd fun l S2 => (evalO c hi r S2).bd fun h S3 => .of ((ritems S3 x).map fun xs => cutD xs l h) S3
  | .list a, r, S => (evalE c a r S).bd fun x S1 => .of (items S1 x) S1
  | .split a b, r, S => (evalE c a r S).bd fun x S1 => if isStr x = true then (evalE c b r S1).bd fun y S2 => .of (splitL x y) S2 else .bad
  | .sorted a, r, S => (evalE c a r S).bd fun x S1 => match litems S1 x with
    | some xs => .of (sortD xs xs) S1
    | none => .bad
  | .sortk f a, r, S => (evalE c a r S).bd fun x S1 => match litems S1 x with
    | some xs => (compL (fun _ => true) (fun x S2 => (c.call f [x] S2).bd fun k S3 => if S3 = S2 then .ok (some k, S3) else .bad) xs S1).bd fun ks S2 => .of (sortT ks xs) S2
    | none => .bad
  | .revl l, r, S => (evalL c l r S).bd fun xs S1 => .ok (xs.reverse, S1)
  | .slr a, r, S => (evalE c a r S).bd fun x S1 => .of ((litems S1 x).map List.reverse) S1
  | .sset a, r, S => (evalE c a r S).bd fun x S1 => .of (ssetD S1 x) S1
def evalC (c : Cfg) : CO → Env → Store → Res (Bool × Store)
  | .non, _, S => .ok (true, S)
  | .som e, r, S => evalT c e r S
def evalI (c : Cfg) : CI → Env → Store → Res ((List D × (Store → Bool)) × Store)
  | .seq e, r, S => (evalE c e r S).bd fun x S1 => .of (seqI S1 x) S1
  | .range es, r, S => (evalEs c es r S).bd fun xs S1 => .of ((rangeI xs).map fun l => (l, fun _ => true)) S1
  | .zip a b, r, S => (evalE c a r S).bd fun x S1 => (evalE c b r S1).bd fun y S2 => .of ((zipL x y).map fun l => (l, fun _ => true)) S2
  | .enum a, r, S => (evalE c a r S).bd fun x S1 => .of ((enumL x).map fun l => (l, fun _ => true)) S1
  | .rev a, r, S => (evalE c a r S).bd fun x S1 => .of ((revI x).map fun l => (l, fun _ => true)) S1
end
mutual
def execS (c : Cfg) : CS → Env → Store → RS
  | .asg i e, r, S => (evalE c e r S).bd fun x S1 => .ok ((.nx, r.set i (some x)), S1)
  | .asgt is e, r, S => (evalE c e r S).bd fun x S1 => match bindT (.tp is) x r with
    | some r' => .ok ((.nx, r'), S1)
    | none => .bad
  | .asgl is e, r, S => (evalE c e r S).bd fun x S1 => match (litems S1 x).bind fun xs => bindT (.tp is) (.tup xs) r with
    | some r' => .ok ((.nx, r'), S1)
    | none => .bad
  | .asgs o i e, r, S => (evalE c e r S).bd fun v S1 => (evalE c o r S1).bd fun x S2 => (evalE c i r S2).bd fun y S3 => match setD S3 x y v with
    | some S4 => .ok ((.nx, r), S4)
    | none => .bad
  | .dset o i e, r, S => (evalE c e r S).bd fun v S1 => (evalE c o r S1).bd fun x S2 => (evalE c i r S2).bd fun y S3 => match dsetD S3 x y v with
    | some S4 => .ok ((.nx, r), S4)
    | none => .bad
  | .dput o es e, r, S => (evalE c e r S).bd fun v S1 => (evalE c o r S1).bd fun x S2 => (evalEs c es r S2).bd fun xs S3 => match dputD S3 x xs v with
    | some S4 => .ok ((.nx, r), S4)
    | none => .bad
  | .expr e, r, S => (evalE c e r S).bd fun _ S1 => .ok ((.nx, r), S1)
  | .ret e, r, S => (evalE c e r S).bd fun x S1 => .ok ((.rt x, r), S1)
  | .retN, r, S => .ok ((.rt .non, r), S)
  | .ite t a b, r, S => (evalT c t r S).bd fun k S1 => if k = true then execs c a r S1 else execs c b r S1
  | .for_ t it b, r, S => (evalI c it r S).bd fun p S1 => forL p.2 (fun x r S2 => match bindT t x r with
      | some r' => execs c b r' S2
      | none => .bad) p.1 r S1
  | .while_ k t b, r, S => whileN (fun r S => evalT c t r S) (fun r S => execs c b r S) k r S
  | .pass, r, S => .ok ((.nx, r), S)
  | .brk, r, S => .ok ((.bk, r), S)
  | .cont, r, S => .ok ((.ct, r), S)
  | .never, _, _ => .bad
def execs (c : Cfg) : CSs → Env → Store → RS
  | .nil, r, S => .ok ((.nx, r), S)
  | .cons s rest, r, S => (execS c s r S).bd fun p S1 => match p.1 with
    | .nx => execs c rest p.2 S1
    | f => .ok ((f, p.2), S1)
end

structure FD where
  ps : Nat
  n : Nat
  body : CSs
  keep : Bool
structure Gam where
  fns : List (Str × FD)
  con : List (Str × D)

def fzr (S : Store) (n0 : Nat) : Nat → Nat → Option D
  | 0, _ => none
  | j + 1, n => if n < n0 then some (.ref n) else match S[n]? with
    | some (.lst xs) => (D.mapRs (fzr S n0 j) xs).map .lst
    | _ => none
def freeze (S0 S : Store) (d : D) : D × Store :=
  if S.take S0.length = S0 then match D.mapR (fzr S S0.length 4) d with
    | some d' => (d', S0)
    | none => (d, S)
  else (d, S)

def oldR (n0 : Nat) (k : Nat) : Option D := if k < n0 then some (.ref k) else none
def keepR (S0 S : Store) (n : Nat) : Option (D × Store) :=
  if S.take S0.length = S0 ∧ S0.length ≤ n then match S[n]? with
    | some (.lst xs) => match D.mapRs (oldR S0.length) xs with
      | some ys => some (.ref S0.length, S0 ++ [.lst ys])
      | none => none
    | _ => none
  else none
def FD.fin (fd : FD) (S0 S : Store) (d : D) : D × Store :=
  match fd.keep with
  | false => freeze S0 S d
  | true => match d with
    | .ref n => match keepR S0 S n with
      | some z => z
      | none => freeze S0 S d
    | d => freeze S0 S d
def startE (n : Nat) (vs : List D) : Env := vs.map some ++ List.replicate (n - vs.length) none
def runB (c : Cfg) (fd : FD) (vs : List D) (S : Store) : RD :=
  if vs.length = fd.ps ∧ fd.ps ≤ fd.n then (execs c fd.body (startE fd.n vs) S).bd fun p S' => match p.1 with
    | .nx => .ok (.non, S')
    | .rt d => .ok (d, S')
    | _ => .bad
  else .bad
def callF (G : Gam) : Nat → Str → List D → Store → RD
  | 0, _, _, _ => .bad
  | n + 1, f, vs, S => match List.lookup f G.fns with
    | some fd => (runB ⟨callF G n, fun x => List.lookup x G.con⟩ fd vs S).bd fun d S' => .ok (fd.fin S S' d)
    | none => .bad
def Gam.cfg (G : Gam) (n : Nat) : Cfg := ⟨callF G n, fun x => List.lookup x G.con⟩
end Rf


namespace Rf
open PySem PySem.Spec PyProof.Rows L2 PySem.SeqAt

mutual

def Rv (h : Heap) : D → Value → Prop
  | .non, v => v = .none
  | .bl b, v => v = .bool b
  | .int i, v => ∃ t, v = .int i t
  | .str x, v => ∃ t, v = .str x t
  | .tup xs, v => ∃ a its, v = .ref a ∧ h.IsTuple a its ∧ Rvs h xs its.toList
  | .lst xs, v => ∃ a its, v = .ref a ∧ h.IsList a its ∧ Rvs h xs its.toList
  | .ref _, _ | .fro _, _ => False
def Rvs (h : Heap) : List D → List Value → Prop
  | [], vs => vs = []
  | x :: xs, vs => ∃ v r, vs = v :: r ∧ Rv h x v ∧ Rvs h xs r
end
theorem Rvs.len {h : Heap} : ∀ {xs : List D} {vs : List Value}, Rvs h xs vs → xs.length = vs.length
  | [], vs, e => by
    have e' : vs = [] := by simpa [Rvs] using e
    rw [e']; rfl
  | x :: xs, vs, e => by
    rw [Rvs] at e
    obtain ⟨v, r, rfl, _, e2⟩ := e
    have := Rvs.len e2
    simp [this]
theorem isTuple_inj {h : Heap} {a : Addr} {i j : Array Value} (p : h.IsTuple a i) (q : h.IsTuple a j) : i = j := by
  obtain ⟨o, e, _, n, d⟩ := p
  obtain ⟨o', e', _, n', d'⟩ := q
  rw [e] at e'; cases e'
  rw [d] at d'
  injection d'
theorem isList_inj {h : Heap} {a : Addr} {i j : Array Value} (p : h.IsList a i) (q : h.IsList a j) : i = j := by
  obtain ⟨o, e, _, n, d⟩ := p
  obtain ⟨o', e', _, n', d'⟩ := q
  rw [e] at e'; cases e'
  rw [d] at d'
  injection d'
theorem isList_not_tuple {h : Heap} {a : Addr} {i j : Array Value} (p : h.IsList a i) (q : h.IsTuple a j) : False := by
  obtain ⟨o, e, c, _⟩ := p
  obtain ⟨o', e', c', _⟩ := q
  rw [e] at e'; cases e'
  rw [c] at c'
  exact absurd c' (by decide)
mutual
theorem rv_inj {h : Heap} : ∀ (d e : D) (v : Value), Rv h d v → Rv h e v → d = e
  | .non, e, v, p, q => by
    rw [Rv] at p; subst p
    cases e with
    | non => rfl
    | bl b => rw [Rv] at q; cases q
    | int i => rw [Rv] at q; obtain ⟨_, q⟩ := q; cases q
    | str i => rw [Rv] at q; obtain ⟨_, q⟩ := q; cases q
    | tup xs => rw [Rv] at q; obtain ⟨_, _, q, _⟩ := q; cases q
    | lst xs => rw [Rv] at q; obtain ⟨_, _, q, _⟩ := q; cases q
    | ref n => rw [Rv] at q; exact q.elim
    | fro n => rw [Rv] at q; exact q.elim
  | .bl b, e, v, p, q => by
    rw [Rv] at p; subst p
    cases e with
    | non => rw [Rv] at q; cases q
    | bl b => rw [Rv] at q; cases q; rfl
    | int i => rw [Rv] at q; obtain ⟨_, q⟩ := q; cases q
    | str i => rw [Rv] at q; obtain ⟨_, q⟩ := q; cases q
    | tup xs => rw [Rv] at q; obtain ⟨_, _, q, _⟩ := q; cases q
    | lst xs => rw [Rv] at q; obtain ⟨_, _, q, _⟩ := q; cases q
    | ref n => rw [Rv] at q; exact q.elim
    | fro n => rw [Rv] at q; exact q.elim
  | .int i, e, v, p, q => by
    rw [Rv] at p; obtain ⟨_, rfl⟩ := p
    cases e with
    | non => rw [Rv] at q; cases q
    | bl b => rw [Rv] at q; cases q
    | int i => rw [Rv] at q; obtain ⟨_, q⟩ := q; cases q; rfl
    | str i => rw [Rv] at q; obtain ⟨_, q⟩ := q; cases q
    | tup xs => rw [Rv] at q; obtain ⟨_, _, q, _⟩ := q; cases q
    | lst xs => rw [Rv] at q; obtain ⟨_, _, q, _⟩ := q; cases q
    | ref n => rw [Rv] at q; exact q.elim
    | fro n => rw [Rv] at q; exact q.elim
  | .str i, e, v, p, q => by
    rw [Rv] at p; obtain ⟨_, rfl⟩ := p
    cases e with
    | non => rw [Rv] at q; cases q
    | bl b => rw [Rv] at q; cases q
    | int i => rw [Rv] at q; obtain ⟨_, q⟩ := q; cases q
    | str i => rw [Rv] at q; obtain ⟨_, q⟩ := q; cases q; rfl
    | tup xs => rw [Rv] at q; obtain ⟨_, _, q, _⟩ := q; cases q
    | lst xs => rw [Rv] at q; obtain ⟨_, _, q, _⟩ := q; cases q
    | ref n => rw [Rv] at q; exact q.elim
    | fro n => rw [Rv] at q; exact q.elim
  | .tup xs, e, v, p, q => by
    rw [Rv] at p; obtain ⟨a, its, rfl, ht, hx⟩ := p
    cases e with
    | non => rw [Rv] at q; cases q
    | bl b => rw [Rv] at q; cases q
    | int i => rw [Rv] at q; obtain ⟨_, q⟩ := q; cases q
    | str i => rw [Rv] at q; obtain ⟨_, q⟩ := q; cases q
    | tup ys =>
      rw [Rv] at q; obtain ⟨b, its2, q, ht2, hy⟩ := q
      cases q
      have := isTuple_inj ht ht2
      subst this
      rw [rvs_inj xs ys _ hx hy]
    | lst ys =>
      rw [Rv] at q; obtain ⟨b, its2, q, ht2, hy⟩ := q
      cases q
      exact (isList_not_tuple ht2 ht).elim
    | ref n => rw [Rv] at q; exact q.elim
    | fro n => rw [Rv] at q; exact q.elim
  | .lst xs, e, v, p, q => by
    rw [Rv] at p; obtain ⟨a, its, rfl, ht, hx⟩ := p
    cases e with
    | non => rw [Rv] at q; cases q
    | bl b => rw [Rv] at q; cases q
    | int i => rw [Rv] at q; obtain ⟨_, q⟩ := q; cases q
    | str i => rw [Rv] at q; obtain ⟨_, q⟩ := q; cases q
    | tup ys =>
      rw [Rv] at q; obtain ⟨b, its2, q, ht2, hy⟩ := q
      cases q
      exact (isList_not_tuple ht ht2).elim
    | lst ys =>
      rw [Rv] at q; obtain ⟨b, its2, q, ht2, hy⟩ := q
      cases q
      have := isList_inj ht ht2
      subst this
      rw [rvs_inj xs ys _ hx hy]
    | ref n => rw [Rv] at q; exact q.elim
    | fro n => rw [Rv] at q; exact q.elim
  | .ref n, e, v, p, q => by rw [Rv] at p; exact p.elim
  | .fro n, e, v, p, q => by rw [Rv] at p; exact p.elim
theorem rvs_inj {h : Heap} : ∀ (xs ys : List D) (vs : List Value), Rvs h xs vs → Rvs h ys vs → xs = ys
  | [], [], _, _, _ => rfl
  | [], y :: ys, vs, p, q => by
    rw [Rvs] at p; rw [Rvs] at q; subst p
    obtain ⟨_, _, q, _⟩ := q; cases q
  | x :: xs, [], vs, p, q => by
    rw [Rvs] at p; rw [Rvs] at q; subst q
    obtain ⟨_, _, p, _⟩ := p; cases p
  | x :: xs, y :: ys, vs, p, q => by
    rw [Rvs] at p q
    obtain ⟨v, r, rfl, p1, p2⟩ := p
    obtain ⟨v', r', e, q1, q2⟩ := q
    cases e
    rw [rv_inj x y v p1 q1, rvs_inj xs ys r p2 q2]
end
namespace D
mutual
theorem eqv_refl : ∀ (n : Nat) (d : D), okd n d = true → eqv d d = true
  | 0, d, h => by cases d <;> simp [okd] at h
  | n + 1, .non, _ => by simp [eqv]
  | n + 1, .bl b, _ => by simp [eqv]
  | n + 1, .int i, _ => by simp [eqv]
  | n + 1, .str x, _ => by simp [eqv]
  | n + 1, .tup xs, h => by rw [eqv]; exact eqvs_refl n xs (by simpa [okd] using h)
  | n + 1, .lst xs, h => by rw [eqv]; exact eqvs_refl n xs (by simpa [okd] using h)
  | n + 1, .ref k, h => by simp [okd] at h
  | n + 1, .fro k, h => by simp [okd] at h
theorem eqvs_refl : ∀ (n : Nat) (xs : List D), okds n xs = true → eqvs xs xs = true
  | n, [], _ => by simp [eqvs]
  | n, x :: xs, h => by
    rw [okds, Bool.and_eq_true] at h
    rw [eqvs, eqv_refl n x h.1, eqvs_refl n xs h.2]; rfl
end
abbrev pairE (xs ys : List D) (j : Nat) : Bool := eqv (xs.getD j .non) (ys.getD j .non)
theorem eqvs_eq : ∀ xs ys : List D, ((List.range (min xs.length ys.length)).all (pairE xs ys) && xs.length == ys.length) = eqvs xs ys
  | [], [] => rfl
  | [], _ :: _ => by simp [eqvs]
  | _ :: _, [] => by simp [eqvs]
  | x :: xs, y :: ys => by
    have ih := eqvs_eq xs ys
    have e1 : min (x :: xs).length (y :: ys).length = min xs.length ys.length + 1 := by simp only [List.length_cons]; omega
    have e2 : ((x :: xs).length == (y :: ys).length) = (xs.length == ys.length) := by simp
    have e3 : (List.range (min xs.length ys.length + 1)).all (pairE (x :: xs) (y :: ys)) = (eqv x y && (List.range (min xs.length ys.length)).all (pairE xs ys)) := by
      rw [List.range_succ_eq_map, List.all_cons, List.all_map]
      first | rfl | simp [pairE, Function.comp_def]
    rw [e1, e2, e3, eqvs, ← ih, Bool.and_assoc]
theorem eqvs_same_length {xs ys : List D} (h : xs.length = ys.length) : (List.range xs.length).all (pairE xs ys) = eqvs xs ys := by
  have := eqvs_eq xs ys
  rw [← h, Nat.min_self] at this
  simpa using this
theorem eqvs_other_length {xs ys : List D} (h : xs.length ≠ ys.length) : eqvs xs ys = false := by
  rw [← eqvs_eq xs ys]
  simp [h]
end D

mutual
theorem eqAt_rv : ∀ (n : Nat) (d e : D) (A : Around) (s : Shared) (a b : Value), Rv s.heap d a → Rv s.heap e b → D.okd n d = true → D.okd n e = true → A.units + n < cLine → EqAt A s a b (D.eqv d e)
  | 0, d, _, _, _, _, _, _, _, h, _, _ => by cases d <;> simp [D.okd] at h
  | n + 1, d, e, A, s, a, b, ra, rb, h1, h2, hu => by
    have hu0 : A.units < cLine := by omega
    have hu1 : A.in1.units + n < cLine := by show A.units + 1 + n < cLine; omega
    cases d with
    | ref k => simp [D.okd] at h1
    | fro k => simp [D.okd] at h1
    | non =>
      rw [Rv] at ra; subst ra
      cases e with
      | ref k => simp [D.okd] at h2
      | fro k => simp [D.okd] at h2
      | non => rw [Rv] at rb; subst rb; rw [D.eqv]; exact EqAt.same _
      | bl y => rw [Rv] at rb; subst rb; rw [D.eqv]; exact EqAt.none_bool y
      | int y => rw [Rv] at rb; obtain ⟨u, rfl⟩ := rb; rw [D.eqv]; exact EqAt.none_int y u
      | str y => rw [Rv] at rb; obtain ⟨u, rfl⟩ := rb; rw [D.eqv]; exact EqAt.none_str y u
      | tup ys => rw [Rv] at rb; obtain ⟨c, its, rfl, k, _⟩ := rb; rw [D.eqv]; exact EqAt.none_tuple k hu0
      | lst ys => rw [Rv] at rb; obtain ⟨c, its, rfl, k, _⟩ := rb; rw [D.eqv]; exact EqAt.none_list k hu0
    | bl x =>
      rw [Rv] at ra; subst ra
      cases e with
      | ref k => simp [D.okd] at h2
      | fro k => simp [D.okd] at h2
      | non => rw [Rv] at rb; subst rb; rw [D.eqv]; exact EqAt.bool_none x
      | bl y => rw [Rv] at rb; subst rb; rw [D.eqv]; exact EqAt.bool_bool x y
      | int y => rw [Rv] at rb; obtain ⟨u, rfl⟩ := rb; rw [D.eqv]; exact EqAt.bool_int x y u
      | str y => rw [Rv] at rb; obtain ⟨u, rfl⟩ := rb; rw [D.eqv]; exact EqAt.bool_str x y u
      | tup ys => rw [Rv] at rb; obtain ⟨c, its, rfl, k, _⟩ := rb; rw [D.eqv]; exact EqAt.bool_tuple x k hu0
      | lst ys => rw [Rv] at rb; obtain ⟨c, its, rfl, k, _⟩ := rb; rw [D.eqv]; exact EqAt.bool_list x k hu0
    | int x =>
      rw [Rv] at ra; obtain ⟨t, rfl⟩ := ra
      cases e with
      | ref k => simp [D.okd] at h2
      | fro k => simp [D.okd] at h2
      | non => rw [Rv] at rb; subst rb; rw [D.eqv]; exact EqAt.int_none x t
      | bl y => rw [Rv] at rb; subst rb; rw [D.eqv]; exact EqAt.int_bool x t y
      | int y => rw [Rv] at rb; obtain ⟨u, rfl⟩ := rb; rw [D.eqv]; exact EqAt.int_int x t y u
      | str y => rw [Rv] at rb; obtain ⟨u, rfl⟩ := rb; rw [D.eqv]; exact EqAt.int_str x t y u
      | tup ys => rw [Rv] at rb; obtain ⟨c, its, rfl, k, _⟩ := rb; rw [D.eqv]; exact EqAt.int_tuple x t k hu0
      | lst ys => rw [Rv] at rb; obtain ⟨c, its, rfl, k, _⟩ := rb; rw [D.eqv]; exact EqAt.int_list x t k hu0
    | str x =>
      rw [Rv] at ra; obtain ⟨t, rfl⟩ := ra
      cases e with
      | ref k => simp [D.okd] at h2
      | fro k => simp [D.okd] at h2
      | non => rw [Rv] at rb; subst rb; rw [D.eqv]; exact EqAt.str_none x t
      | bl y => rw [Rv] at rb; subst rb; rw [D.eqv]; exact EqAt.str_bool x t y
      | int y => rw [Rv] at rb; obtain ⟨u, rfl⟩ := rb; rw [D.eqv]; exact EqAt.str_int x t y u
      | str y => rw [Rv] at rb; obtain ⟨u, rfl⟩ := rb; rw [D.eqv]; exact EqAt.str_str x t y u
      | tup ys => rw [Rv] at rb; obtain ⟨c, its, rfl, k, _⟩ := rb; rw [D.eqv]; exact EqAt.str_tuple x t k hu0
      | lst ys => rw [Rv] at rb; obtain ⟨c, its, rfl, k, _⟩ := rb; rw [D.eqv]; exact EqAt.str_list x t k hu0
    | tup xs =>
      have ra0 := ra
      rw [Rv] at ra; obtain ⟨l, vs, rfl, hl, hx⟩ := ra
      cases e with
      | ref k => simp [D.okd] at h2
      | fro k => simp [D.okd] at h2
      | non => rw [Rv] at rb; subst rb; rw [D.eqv]; exact EqAt.tuple_none hl hu0
      | bl y => rw [Rv] at rb; subst rb; rw [D.eqv]; exact EqAt.tuple_bool y hl hu0
      | int y => rw [Rv] at rb; obtain ⟨u, rfl⟩ := rb; rw [D.eqv]; exact EqAt.tuple_int y u hl hu0
      | str y => rw [Rv] at rb; obtain ⟨u, rfl⟩ := rb; rw [D.eqv]; exact EqAt.tuple_str y u hl hu0
      | lst ys => rw [Rv] at rb; obtain ⟨c, its, rfl, k, _⟩ := rb; rw [D.eqv]; exact EqAt.tuple_list hl k hu0
      | tup ys =>
        have rb0 := rb
        rw [Rv] at rb; obtain ⟨l', vs', rfl, hl', hy⟩ := rb
        by_cases hll : l = l'
        · subst hll
          rw [rv_inj _ _ _ ra0 rb0, D.eqv_refl (n + 1) _ h2]
          exact EqAt.same _
        · refine EqAt.of_refs hll ?_
          rw [D.okd] at h1 h2
          have n1 := hx.len; have n2 := hy.len
          simp only [Array.length_toList] at n1 n2
          rw [D.eqv, ← D.eqvs_eq, n1, n2]
          refine RcAt.tuples hl hl' hu0 fun j j1 j2 => ?_
          have := eqAt_rvs n xs ys A.in1 s vs.toList vs'.toList hx hy h1 h2 hu1 j (by simpa using j1) (by simpa using j2)
          simpa using this
    | lst xs =>
      have ra0 := ra
      rw [Rv] at ra; obtain ⟨l, vs, rfl, hl, hx⟩ := ra
      cases e with
      | ref k => simp [D.okd] at h2
      | fro k => simp [D.okd] at h2
      | non => rw [Rv] at rb; subst rb; rw [D.eqv]; exact EqAt.list_none hl hu0
      | bl y => rw [Rv] at rb; subst rb; rw [D.eqv]; exact EqAt.list_bool y hl hu0
      | int y => rw [Rv] at rb; obtain ⟨u, rfl⟩ := rb; rw [D.eqv]; exact EqAt.list_int y u hl hu0
      | str y => rw [Rv] at rb; obtain ⟨u, rfl⟩ := rb; rw [D.eqv]; exact EqAt.list_str y u hl hu0
      | tup ys => rw [Rv] at rb; obtain ⟨c, its, rfl, k, _⟩ := rb; rw [D.eqv]; exact EqAt.list_tuple hl k hu0
      | lst ys =>
        have rb0 := rb
        rw [Rv] at rb; obtain ⟨l', vs', rfl, hl', hy⟩ := rb
        by_cases hll : l = l'
        · subst hll
          rw [rv_inj _ _ _ ra0 rb0, D.eqv_refl (n + 1) _ h2]
          exact EqAt.same _
        · refine EqAt.of_refs hll ?_
          rw [D.okd] at h1 h2
          have n1 := hx.len; have n2 := hy.len
          simp only [Array.length_toList] at n1 n2
          rw [D.eqv]
          by_cases hsz : vs.size = vs'.size
          · rw [← D.eqvs_same_length (by omega : xs.length = ys.length), n1]
            refine RcAt.lists hl hl' hsz hu0 fun j j1 j2 => ?_
            have := eqAt_rvs n xs ys A.in1 s vs.toList vs'.toList hx hy h1 h2 hu1 j (by simpa using j1) (by simpa using j2)
            simpa using this
          · rw [D.eqvs_other_length (by omega : xs.length ≠ ys.length)]
            exact RcAt.lists_lengths hl hl' (by simpa using hsz) hu0
theorem eqAt_rvs : ∀ (n : Nat) (xs ys : List D) (A : Around) (s : Shared) (us ws : List Value), Rvs s.heap xs us → Rvs s.heap ys ws → D.okds n xs = true → D.okds n ys = true → A.units + n < cLine →
    ∀ j (h1 : j < us.length) (h2 : j < ws.length), EqAt A s us[j] ws[j] (D.pairE xs ys j)
  | n, [], ys, A, s, us, ws, p, q, k1, k2, hu, j, h1, h2 => by rw [Rvs] at p; subst p; exact absurd h1 (Nat.not_lt_zero _)
  | n, x :: xs, [], A, s, us, ws, p, q, k1, k2, hu, j, h1, h2 => by rw [Rvs] at q; subst q; exact absurd h2 (Nat.not_lt_zero _)
  | n, x :: xs, y :: ys, A, s, us, ws, p, q, k1, k2, hu, j, h1, h2 => by
    rw [Rvs] at p q
    obtain ⟨v, r, rfl, p1, p2⟩ := p
    obtain ⟨v', r', rfl, q1, q2⟩ := q
    rw [D.okds, Bool.and_eq_true] at k1 k2
    cases j with
    | zero => exact eqAt_rv n x y A s v v' p1 q1 k1.1 k2.1 hu
    | succ j => exact eqAt_rvs n xs ys A s r r' p2 q2 k1.2 k2.2 hu j (Nat.lt_of_succ_lt_succ h1) (Nat.lt_of_succ_lt_succ h2)
end

theorem rcAt_rv (n : Nat) (d e : D) (A : Around) (s : Shared) (a b : Value) (ra : Rv s.heap d a) (rb : Rv s.heap e b) (h1 : D.okd n d = true) (h2 : D.okd n e = true) (hu : A.units + n < cLine) : RcAt A s a b (D.eqv d e) := by
  have hu0 : A.units < cLine := by omega
  cases n with
  | zero => cases d <;> simp [D.okd] at h1
  | succ n =>
  have hu1 : A.in1.units + n < cLine := by show A.units + 1 + n < cLine; omega
  cases d with
  | ref k => simp [D.okd] at h1
  | fro k => simp [D.okd] at h1
  | non =>
    rw [Rv] at ra; subst ra
    cases e with
    | ref k => simp [D.okd] at h2
    | fro k => simp [D.okd] at h2
    | non => rw [Rv] at rb; subst rb; rw [D.eqv]; exact RcAt.none_none
    | bl y => rw [Rv] at rb; subst rb; rw [D.eqv]; exact RcAt.none_bool y
    | int y => rw [Rv] at rb; obtain ⟨u, rfl⟩ := rb; rw [D.eqv]; exact RcAt.none_int y u
    | str y => rw [Rv] at rb; obtain ⟨u, rfl⟩ := rb; rw [D.eqv]; exact RcAt.none_str y u
    | tup ys => rw [Rv] at rb; obtain ⟨c, its, rfl, k, _⟩ := rb; rw [D.eqv]; exact RcAt.none_tuple k hu0
    | lst ys => rw [Rv] at rb; obtain ⟨c, its, rfl, k, _⟩ := rb; rw [D.eqv]; exact RcAt.none_list k hu0
  | bl x =>
    rw [Rv] at ra; subst ra
    cases e with
    | ref k => simp [D.okd] at h2
    | fro k => simp [D.okd] at h2
    | non => rw [Rv] at rb; subst rb; rw [D.eqv]; exact RcAt.bool_none x
    | bl y => rw [Rv] at rb; subst rb; rw [D.eqv]; exact RcAt.bool_bool x y
    | int y => rw [Rv] at rb; obtain ⟨u, rfl⟩ := rb; rw [D.eqv]; exact RcAt.bool_int x y u
    | str y => rw [Rv] at rb; obtain ⟨u, rfl⟩ := rb; rw [D.eqv]; exact RcAt.bool_str x y u
    | tup ys => rw [Rv] at rb; obtain ⟨c, its, rfl, k, _⟩ := rb; rw [D.eqv]; exact RcAt.bool_tuple x k hu0
    | lst ys => rw [Rv] at rb; obtain ⟨c, its, rfl, k, _⟩ := rb; rw [D.eqv]; exact RcAt.bool_list x k hu0
  | int x =>
    rw [Rv] at ra; obtain ⟨t, rfl⟩ := ra
    cases e with
    | ref k => simp [D.okd] at h2
    | fro k => simp [D.okd] at h2
    | non => rw [Rv] at rb; subst rb; rw [D.eqv]; exact RcAt.int_none x t
    | bl y => rw [Rv] at rb; subst rb; rw [D.eqv]; exact RcAt.int_bool x t y
    | int y => rw [Rv] at rb; obtain ⟨u, rfl⟩ := rb; rw [D.eqv]; exact RcAt.int_int x t y u
    | str y => rw [Rv] at rb; obtain ⟨u, rfl⟩ := rb; rw [D.eqv]; exact RcAt.int_str x t y u
    | tup ys => rw [Rv] at rb; obtain ⟨c, its, rfl, k, _⟩ := rb; rw [D.eqv]; exact RcAt.int_tuple x t k hu0
    | lst ys => rw [Rv] at rb; obtain ⟨c, its, rfl, k, _⟩ := rb; rw [D.eqv]; exact RcAt.int_list x t k hu0
  | str x =>
    rw [Rv] at ra; obtain ⟨t, rfl⟩ := ra
    cases e with
    | ref k => simp [D.okd] at h2
    | fro k => simp [D.okd] at h2
    | non => rw [Rv] at rb; subst rb; rw [D.eqv]; exact RcAt.str_none x t
    | bl y => rw [Rv] at rb; subst rb; rw [D.eqv]; exact RcAt.str_bool x t y
    | int y => rw [Rv] at rb; obtain ⟨u, rfl⟩ := rb; rw [D.eqv]; exact RcAt.str_int x t y u
    | str y => rw [Rv] at rb; obtain ⟨u, rfl⟩ := rb; rw [D.eqv]; exact RcAt.str_str x t y u
    | tup ys => rw [Rv] at rb; obtain ⟨c, its, rfl, k, _⟩ := rb; rw [D.eqv]; exact RcAt.str_tuple x t k hu0
    | lst ys => rw [Rv] at rb; obtain ⟨c, its, rfl, k, _⟩ := rb; rw [D.eqv]; exact RcAt.str_list x t k hu0
  | tup xs =>
    rw [Rv] at ra; obtain ⟨l, vs, rfl, hl, hx⟩ := ra
    cases e with
    | ref k => simp [D.okd] at h2
    | fro k => simp [D.okd] at h2
    | non => rw [Rv] at rb; subst rb; rw [D.eqv]; exact RcAt.tuple_none hl hu0
    | bl y => rw [Rv] at rb; subst rb; rw [D.eqv]; exact RcAt.tuple_bool y hl hu0
    | int y => rw [Rv] at rb; obtain ⟨u, rfl⟩ := rb; rw [D.eqv]; exact RcAt.tuple_int y u hl hu0
    | str y => rw [Rv] at rb; obtain ⟨u, rfl⟩ := rb; rw [D.eqv]; exact RcAt.tuple_str y u hl hu0
    | lst ys => rw [Rv] at rb; obtain ⟨c, its, rfl, k, _⟩ := rb; rw [D.eqv]; exact RcAt.tuple_list hl k hu0
    | tup ys =>
      rw [Rv] at rb; obtain ⟨l', vs', rfl, hl', hy⟩ := rb
      rw [D.okd] at h1 h2
      have n1 := hx.len; have n2 := hy.len
      simp only [Array.length_toList] at n1 n2
      rw [D.eqv, ← D.eqvs_eq, n1, n2]
      refine RcAt.tuples hl hl' hu0 fun j j1 j2 => ?_
      have := eqAt_rvs n xs ys A.in1 s vs.toList vs'.toList hx hy h1 h2 hu1 j (by simpa using j1) (by simpa using j2)
      simpa using this
  | lst xs =>
    rw [Rv] at ra; obtain ⟨l, vs, rfl, hl, hx⟩ := ra
    cases e with
    | ref k => simp [D.okd] at h2
    | fro k => simp [D.okd] at h2
    | non => rw [Rv] at rb; subst rb; rw [D.eqv]; exact RcAt.list_none hl hu0
    | bl y => rw [Rv] at rb; subst rb; rw [D.eqv]; exact RcAt.list_bool y hl hu0
    | int y => rw [Rv] at rb; obtain ⟨u, rfl⟩ := rb; rw [D.eqv]; exact RcAt.list_int y u hl hu0
    | str y => rw [Rv] at rb; obtain ⟨u, rfl⟩ := rb; rw [D.eqv]; exact RcAt.list_str y u hl hu0
    | tup ys => rw [Rv] at rb; obtain ⟨c, its, rfl, k, _⟩ := rb; rw [D.eqv]; exact RcAt.list_tuple hl k hu0
    | lst ys =>
      rw [Rv] at rb; obtain ⟨l', vs', rfl, hl', hy⟩ := rb
      rw [D.okd] at h1 h2
      have n1 := hx.len; have n2 := hy.len
      simp only [Array.length_toList] at n1 n2
      rw [D.eqv]
      by_cases hsz : vs.size = vs'.size
      · rw [← D.eqvs_same_length (by omega : xs.length = ys.length), n1]
        refine RcAt.lists hl hl' hsz hu0 fun j j1 j2 => ?_
        have := eqAt_rvs n xs ys A.in1 s vs.toList vs'.toList hx hy h1 h2 hu1 j (by simpa using j1) (by simpa using j2)
        simpa using this
      · rw [D.eqvs_other_length (by omega : xs.length ≠ ys.length)]
        exact RcAt.lists_lengths hl hl' (by simpa using hsz) hu0
theorem rcNe_rv (n : Nat) (d e : D) (A : Around) (s : Shared) (a b : Value) (ra : Rv s.heap d a) (rb : Rv s.heap e b) (h1 : D.okd n d = true) (h2 : D.okd n e = true) (hu : A.units + n < cLine) : RcNeAt A s a b (!D.eqv d e) := by
  have hu0 : A.units < cLine := by omega
  cases n with
  | zero => cases d <;> simp [D.okd] at h1
  | succ n =>
  have hu1 : A.in1.units + n < cLine := by show A.units + 1 + n < cLine; omega
  cases d with
  | ref k => simp [D.okd] at h1
  | fro k => simp [D.okd] at h1
  | non =>
    rw [Rv] at ra; subst ra
    cases e with
    | ref k => simp [D.okd] at h2
    | fro k => simp [D.okd] at h2
    | non => rw [Rv] at rb; subst rb; rw [D.eqv]; exact RcNeAt.none_none
    | bl y => rw [Rv] at rb; subst rb; rw [D.eqv]; exact RcNeAt.none_bool y
    | int y => rw [Rv] at rb; obtain ⟨u, rfl⟩ := rb; rw [D.eqv]; exact RcNeAt.none_int y u
    | str y => rw [Rv] at rb; obtain ⟨u, rfl⟩ := rb; rw [D.eqv]; exact RcNeAt.none_str y u
    | tup ys => rw [Rv] at rb; obtain ⟨c, its, rfl, k, _⟩ := rb; rw [D.eqv]; exact RcNeAt.none_tuple k hu0
    | lst ys => rw [Rv] at rb; obtain ⟨c, its, rfl, k, _⟩ := rb; rw [D.eqv]; exact RcNeAt.none_list k hu0
  | bl x =>
    rw [Rv] at ra; subst ra
    cases e with
    | ref k => simp [D.okd] at h2
    | fro k => simp [D.okd] at h2
    | non => rw [Rv] at rb; subst rb; rw [D.eqv]; exact RcNeAt.bool_none x
    | bl y => rw [Rv] at rb; subst rb; rw [D.eqv]; exact RcNeAt.bool_bool x y
    | int y => rw [Rv] at rb; obtain ⟨u, rfl⟩ := rb; rw [D.eqv]; exact RcNeAt.bool_int x y u
    | str y => rw [Rv] at rb; obtain ⟨u, rfl⟩ := rb; rw [D.eqv]; exact RcNeAt.bool_str x y u
    | tup ys => rw [Rv] at rb; obtain ⟨c, its, rfl, k, _⟩ := rb; rw [D.eqv]; exact RcNeAt.bool_tuple x k hu0
    | lst ys => rw [Rv] at rb; obtain ⟨c, its, rfl, k, _⟩ := rb; rw [D.eqv]; exact RcNeAt.bool_list x k hu0
  | int x =>
    rw [Rv] at ra; obtain ⟨t, rfl⟩ := ra
    cases e with
    | ref k => simp [D.okd] at h2
    | fro k => simp [D.okd] at h2
    | non => rw [Rv] at rb; subst rb; rw [D.eqv]; exact RcNeAt.int_none x t
    | bl y => rw [Rv] at rb; subst rb; rw [D.eqv]; exact RcNeAt.int_bool x t y
    | int y => rw [Rv] at rb; obtain ⟨u, rfl⟩ := rb; rw [D.eqv]; exact RcNeAt.int_int x t y u
    | str y => rw [Rv] at rb; obtain ⟨u, rfl⟩ := rb; rw [D.eqv]; exact RcNeAt.int_str x t y u
    | tup ys => rw [Rv] at rb; obtain ⟨c, its, rfl, k, _⟩ := rb; rw [D.eqv]; exact RcNeAt.int_tuple x t k hu0
    | lst ys => rw [Rv] at rb; obtain ⟨c, its, rfl, k, _⟩ := rb; rw [D.eqv]; exact RcNeAt.int_list x t k hu0
  | str x =>
    rw [Rv] at ra; obtain ⟨t, rfl⟩ := ra
    cases e with
    | ref k => simp [D.okd] at h2
    | fro k => simp [D.okd] at h2
    | non => rw [Rv] at rb; subst rb; rw [D.eqv]; exact RcNeAt.str_none x t
    | bl y => rw [Rv] at rb; subst rb; rw [D.eqv]; exact RcNeAt.str_bool x t y
    | int y => rw [Rv] at rb; obtain ⟨u, rfl⟩ := rb; rw [D.eqv]; exact RcNeAt.str_int x t y u
    | str y => rw [Rv] at rb; obtain ⟨u, rfl⟩ := rb; rw [D.eqv]; exact RcNeAt.str_str x t y u
    | tup ys => rw [Rv] at rb; obtain ⟨c, its, rfl, k, _⟩ := rb; rw [D.eqv]; exact RcNeAt.str_tuple x t k hu0
    | lst ys => rw [Rv] at rb; obtain ⟨c, its, rfl, k, _⟩ := rb; rw [D.eqv]; exact RcNeAt.str_list x t k hu0
  | tup xs =>
    rw [Rv] at ra; obtain ⟨l, vs, rfl, hl, hx⟩ := ra
    cases e with
    | ref k => simp [D.okd] at h2
    | fro k => simp [D.okd] at h2
    | non => rw [Rv] at rb; subst rb; rw [D.eqv]; exact RcNeAt.tuple_none hl hu0
    | bl y => rw [Rv] at rb; subst rb; rw [D.eqv]; exact RcNeAt.tuple_bool y hl hu0
    | int y => rw [Rv] at rb; obtain ⟨u, rfl⟩ := rb; rw [D.eqv]; exact RcNeAt.tuple_int y u hl hu0
    | str y => rw [Rv] at rb; obtain ⟨u, rfl⟩ := rb; rw [D.eqv]; exact RcNeAt.tuple_str y u hl hu0
    | lst ys => rw [Rv] at rb; obtain ⟨c, its, rfl, k, _⟩ := rb; rw [D.eqv]; exact RcNeAt.tuple_list hl k hu0
    | tup ys =>
      rw [Rv] at rb; obtain ⟨l', vs', rfl, hl', hy⟩ := rb
      rw [D.okd] at h1 h2
      have n1 := hx.len; have n2 := hy.len
      simp only [Array.length_toList] at n1 n2
      rw [D.eqv, ← D.eqvs_eq, n1, n2]
      refine RcNeAt.tuples hl hl' hu0 fun j j1 j2 => ?_
      have := eqAt_rvs n xs ys A.in1 s vs.toList vs'.toList hx hy h1 h2 hu1 j (by simpa using j1) (by simpa using j2)
      simpa using this
  | lst xs =>
    rw [Rv] at ra; obtain ⟨l, vs, rfl, hl, hx⟩ := ra
    cases e with
    | ref k => simp [D.okd] at h2
    | fro k => simp [D.okd] at h2
    | non => rw [Rv] at rb; subst rb; rw [D.eqv]; exact RcNeAt.list_none hl hu0
    | bl y => rw [Rv] at rb; subst rb; rw [D.eqv]; exact RcNeAt.list_bool y hl hu0
    | int y => rw [Rv] at rb; obtain ⟨u, rfl⟩ := rb; rw [D.eqv]; exact RcNeAt.list_int y u hl hu0
    | str y => rw [Rv] at rb; obtain ⟨u, rfl⟩ := rb; rw [D.eqv]; exact RcNeAt.list_str y u hl hu0
    | tup ys => rw [Rv] at rb; obtain ⟨c, its, rfl, k, _⟩ := rb; rw [D.eqv]; exact RcNeAt.list_tuple hl k hu0
    | lst ys =>
      rw [Rv] at rb; obtain ⟨l', vs', rfl, hl', hy⟩ := rb
      rw [D.okd] at h1 h2
      have n1 := hx.len; have n2 := hy.len
      simp only [Array.length_toList] at n1 n2
      rw [D.eqv]
      by_cases hsz : vs.size = vs'.size
      · rw [← D.eqvs_same_length (by omega : xs.length = ys.length), n1]
        refine RcNeAt.lists hl hl' hsz hu0 fun j j1 j2 => ?_
        have := eqAt_rvs n xs ys A.in1 s vs.toList vs'.toList hx hy h1 h2 hu1 j (by simpa using j1) (by simpa using j2)
        simpa using this
      · rw [D.eqvs_other_length (by omega : xs.length ≠ ys.length)]
        exact RcNeAt.lists_lengths hl hl' (by simpa using hsz) hu0


namespace D
abbrev ltE (xs ys : List D) (j : Nat) : Bool := (ltv (xs.getD j .non) (ys.getD j .non)).getD false
theorem firstLt_shift (e r : Nat → Bool) (fin : Bool) : ∀ l : List Nat, firstLt e r fin (l.map (· + 1)) = firstLt (fun j => e (j + 1)) (fun j => r (j + 1)) fin l
  | [] => rfl
  | j :: t => by
    show (if e (j + 1) = true then firstLt e r fin (t.map (· + 1)) else r (j + 1)) = _
    rw [firstLt_shift e r fin t]; rfl
theorem ltvs_cons {x y : D} {xs ys : List D} {k : Bool} (h : ltvs (x :: xs) (y :: ys) = some k) : ∃ k', ltvs xs ys = some k' ∧ ((eqv x y = true ∧ k = k') ∨ (eqv x y = false ∧ ltv x y = some k)) := by
  rw [ltvs] at h
  cases e : ltvs xs ys with
  | none => rw [e] at h; cases h
  | some k' =>
    rw [e] at h
    refine ⟨k', rfl, ?_⟩
    cases q : eqv x y with
    | true => simp [q] at h; exact .inl ⟨rfl, h.symm⟩
    | false => simp [q] at h; exact .inr ⟨rfl, h⟩
theorem ltvs_first : ∀ (xs ys : List D) (k : Bool), ltvs xs ys = some k → firstLt (pairE xs ys) (ltE xs ys) (decide (xs.length < ys.length)) (List.range (min xs.length ys.length)) = k
  | [], [], k, h => by simp [ltvs] at h; subst h; rfl
  | [], _ :: _, k, h => by simp [ltvs] at h; subst h; simp [firstLt]
  | _ :: _, [], k, h => by simp [ltvs] at h; subst h; simp [firstLt]
  | x :: xs, y :: ys, k, h => by
    obtain ⟨k', h1, h2⟩ := ltvs_cons h
    have e1 : min (x :: xs).length (y :: ys).length = min xs.length ys.length + 1 := by simp only [List.length_cons]; omega
    rw [e1, List.range_succ_eq_map]
    show (if eqv x y = true then firstLt (pairE (x :: xs) (y :: ys)) (ltE (x :: xs) (y :: ys)) _ ((List.range (min xs.length ys.length)).map Nat.succ) else (ltv x y).getD false) = k
    rcases h2 with ⟨hh, rfl⟩ | ⟨hh, h2⟩
    · rw [if_pos hh]
      have := ltvs_first xs ys k h1
      have e2 := firstLt_shift (pairE (x :: xs) (y :: ys)) (ltE (x :: xs) (y :: ys)) (decide ((x :: xs).length < (y :: ys).length)) (List.range (min xs.length ys.length))
      have e3 : (decide ((x :: xs).length < (y :: ys).length)) = decide (xs.length < ys.length) := by simp
      rw [e3] at e2
      rw [e3]
      refine Eq.trans ?_ this
      first | exact e2 | simpa using e2
    · rw [if_neg (by rw [hh]; exact Bool.false_ne_true), h2]; rfl
end D
theorem lt_bool_at {A : Around} {s : Shared} (x y : Bool) : RcLt A s (.bool x) (.bool y) (!x && y) := fun prog w E Q h => by
  refine PyProof.Rows.lt_bool ?_
  cases x <;> cases y <;> exact h
mutual
theorem rcLt_rv : ∀ (n : Nat) (d e : D) (A : Around) (s : Shared) (a b : Value) (k : Bool), Rv s.heap d a → Rv s.heap e b → D.okd n d = true → D.okd n e = true → A.units + n < cLine → D.ltv d e = some k → RcLt A s a b k
  | 0, d, _, _, _, _, _, _, _, _, h, _, _, _ => by cases d <;> simp [D.okd] at h
  | n + 1, d, e, A, s, a, b, k, ra, rb, h1, h2, hu, hk => by
    have hu0 : A.units < cLine := by omega
    have hu1 : A.in1.units + n < cLine := by show A.units + 1 + n < cLine; omega
    cases d with
    | ref j => simp [D.okd] at h1
    | fro j => simp [D.okd] at h1
    | non => cases e <;> simp [D.ltv] at hk
    | bl x =>
      cases e with
      | bl y =>
        rw [Rv] at ra rb; subst ra rb
        simp only [D.ltv, Option.some.injEq] at hk; subst hk
        exact lt_bool_at x y
      | _ => simp [D.ltv] at hk
    | int x =>
      cases e with
      | int y =>
        rw [Rv] at ra rb; obtain ⟨t, rfl⟩ := ra; obtain ⟨u, rfl⟩ := rb
        simp only [D.ltv, Option.some.injEq] at hk; subst hk
        exact fun prog w E Q h => PyProof.Rows.lt_int h
      | _ => simp [D.ltv] at hk
    | str x =>
      cases e with
      | str y =>
        rw [Rv] at ra rb; obtain ⟨t, rfl⟩ := ra; obtain ⟨u, rfl⟩ := rb
        simp only [D.ltv, Option.some.injEq] at hk; subst hk
        exact fun prog w E Q h => PyProof.Rows.lt_str h
      | _ => simp [D.ltv] at hk
    | tup xs =>
      cases e with
      | tup ys =>
        rw [Rv] at ra rb; obtain ⟨l, vs, rfl, hl, hx⟩ := ra; obtain ⟨l', vs', rfl, hl', hy⟩ := rb
        rw [D.okd] at h1 h2
        rw [D.ltv] at hk
        have n1 := hx.len; have n2 := hy.len
        simp only [Array.length_toList] at n1 n2
        have e := D.ltvs_first xs ys k hk
        rw [← e, n1, n2]
        refine RcLt.tuples hl hl' hu0 (fun j j1 j2 => ?_) (fun j j1 j2 hj => ?_)
        · have := eqAt_rvs n xs ys A.in1 s vs.toList vs'.toList hx hy h1 h2 hu1 j (by simpa using j1) (by simpa using j2)
          simpa using this
        · have := rcLt_rvs n xs ys A.in1 s vs.toList vs'.toList k hx hy h1 h2 hu1 hk j (by simpa using j1) (by simpa using j2) hj
          simpa using this
      | _ => simp [D.ltv] at hk
    | lst xs =>
      cases e with
      | lst ys =>
        rw [Rv] at ra rb; obtain ⟨l, vs, rfl, hl, hx⟩ := ra; obtain ⟨l', vs', rfl, hl', hy⟩ := rb
        rw [D.okd] at h1 h2
        rw [D.ltv] at hk
        have n1 := hx.len; have n2 := hy.len
        simp only [Array.length_toList] at n1 n2
        have e := D.ltvs_first xs ys k hk
        rw [← e, n1, n2]
        refine RcLt.lists hl hl' hu0 (fun j j1 j2 => ?_) (fun j j1 j2 hj => ?_)
        · have := eqAt_rvs n xs ys A.in1 s vs.toList vs'.toList hx hy h1 h2 hu1 j (by simpa using j1) (by simpa using j2)
          simpa using this
        · have := rcLt_rvs n xs ys A.in1 s vs.toList vs'.toList k hx hy h1 h2 hu1 hk j (by simpa using j1) (by simpa using j2) hj
          simpa using this
      | _ => simp [D.ltv] at hk
theorem rcLt_rvs : ∀ (n : Nat) (xs ys : List D) (A : Around) (s : Shared) (us ws : List Value) (k : Bool), Rvs s.heap xs us → Rvs s.heap ys ws → D.okds n xs = true → D.okds n ys = true → A.units + n < cLine → D.ltvs xs ys = some k →
    ∀ j (h1 : j < us.length) (h2 : j < ws.length), D.pairE xs ys j = false → RcLt A s us[j] ws[j] (D.ltE xs ys j)
  | n, [], ys, A, s, us, ws, k, p, q, k1, k2, hu, hk, j, h1, h2, hj => by rw [Rvs] at p; subst p; exact absurd h1 (Nat.not_lt_zero _)
  | n, x :: xs, [], A, s, us, ws, k, p, q, k1, k2, hu, hk, j, h1, h2, hj => by rw [Rvs] at q; subst q; exact absurd h2 (Nat.not_lt_zero _)
  | n, x :: xs, y :: ys, A, s, us, ws, k, p, q, k1, k2, hu, hk, j, h1, h2, hj => by
    rw [Rvs] at p q
    obtain ⟨v, r, rfl, p1, p2⟩ := p
    obtain ⟨v', r', rfl, q1, q2⟩ := q
    rw [D.okds, Bool.and_eq_true] at k1 k2
    obtain ⟨k', hk1, hk2⟩ := D.ltvs_cons hk
    cases j with
    | zero =>
      have hj' : D.eqv x y = false := hj
      rcases hk2 with ⟨e, _⟩ | ⟨_, e⟩
      · rw [e] at hj'; cases hj'
      show RcLt A s v v' ((D.ltv x y).getD false)
      rw [e]
      exact rcLt_rv n x y A s v v' k p1 q1 k1.1 k2.1 hu e
    | succ j => exact rcLt_rvs n xs ys A s r r' k' p2 q2 k1.2 k2.2 hu hk1 j (Nat.lt_of_succ_lt_succ h1) (Nat.lt_of_succ_lt_succ h2) hj
end
end Rf


namespace Rf
open PySem PySem.Spec PyProof.Rows L2


def FroL (K : PySem.W.Frag) (H : Hp) (a : Addr) (xs : List V) : Prop :=
  (∃ o, H a = some (.frz o (.lst xs))) ∨ ∃ (o : Obj) (its : Array Value) (n : Nat), K.lookup a = some o ∧ o.cls = .type "list" ∧ o.dict = none ∧ o.data = .seq its n ∧ its.size ≤ sizeLine ∧ Vals xs its.toList
theorem FroL.sq {K : PySem.W.Frag} {H : Hp} {a : Addr} {xs : List V} (h : FroL K H a xs) : SqL K H a xs := by
  rcases h with ⟨o, h⟩ | h
  · exact .inl (.inr ⟨o, h⟩)
  · exact .inr h

def SqN (K : PySem.W.Frag) (n : Bool) (H : Hp) (a : Addr) (xs : List V) : Prop := SqT K H a xs ∧ (n = true → Bare K H a)
mutual

def Rp (K : PySem.W.Frag) (m : List Addr) (F : Addr → Prop) (H : Hp) : D → V → Prop
  | .non, v => v = .non
  | .bl b, v => v = .bl b
  | .int i, v => v = .int i
  | .str x, v => v = .str x
  | .tup xs, v => ∃ a vs, v = .ref a ∧ SqN K (D.need xs) H a vs ∧ Rps K m F H xs vs
  | .lst xs, v => ∃ a vs, v = .ref a ∧ H a = some (.lst vs) ∧ a ∉ m ∧ ¬ F a ∧ Rps K m F H xs vs
  | .ref n, v => ∃ a, m[n]? = some a ∧ v = .ref a
  | .fro ns, v => ∃ a, v = .ref a ∧ FroL K H a (ns.map V.int)
def Rps (K : PySem.W.Frag) (m : List Addr) (F : Addr → Prop) (H : Hp) : List D → List V → Prop
  | [], vs => vs = []
  | x :: xs, vs => ∃ v r, vs = v :: r ∧ Rp K m F H x v ∧ Rps K m F H xs r
end
section
variable {K : PySem.W.Frag} {m : List Addr} {F : Addr → Prop} {H : Hp}
theorem Rps.len : ∀ {xs : List D} {vs : List V}, Rps K m F H xs vs → xs.length = vs.length
  | [], vs, e => by
    have e' : vs = [] := by simpa [Rps] using e
    rw [e']; rfl
  | x :: xs, vs, e => by
    rw [Rps] at e
    obtain ⟨v, r, rfl, _, e2⟩ := e
    have := Rps.len e2
    simp [this]
theorem Rps.nil_iff {vs : List V} : Rps K m F H [] vs ↔ vs = [] := by rw [Rps]
theorem Rps.cons {x : D} {xs : List D} {v : V} {vs : List V} (a : Rp K m F H x v) (b : Rps K m F H xs vs) : Rps K m F H (x :: xs) (v :: vs) := by
  rw [Rps]; exact ⟨v, vs, rfl, a, b⟩
theorem Rps.nil : Rps K m F H [] [] := by rw [Rps]
theorem Rps.uncons {x : D} {xs : List D} {vs : List V} (h : Rps K m F H (x :: xs) vs) : ∃ v r, vs = v :: r ∧ Rp K m F H x v ∧ Rps K m F H xs r := by rw [Rps] at h; exact h
theorem Rps.app : ∀ {xs ys : List D} {vs us : List V}, Rps K m F H xs vs → Rps K m F H ys us → Rps K m F H (xs ++ ys) (vs ++ us)
  | [], _, vs, _, h, k => by rw [Rps.nil_iff.mp h]; exact k
  | x :: xs, _, vs, _, h, k => by
    obtain ⟨v, r, rfl, a, b⟩ := h.uncons
    exact .cons a (b.app k)
theorem Rps.get : ∀ {xs : List D} {vs : List V} {i : Nat} {x : D}, Rps K m F H xs vs → xs[i]? = some x → ∃ v, vs[i]? = some v ∧ Rp K m F H x v
  | [], _, _, _, _, e => by simp at e
  | y :: ys, vs, 0, x, h, e => by
    obtain ⟨v, r, rfl, a, b⟩ := h.uncons
    simp at e; subst e
    exact ⟨v, rfl, a⟩
  | y :: ys, vs, i + 1, x, h, e => by
    obtain ⟨v, r, rfl, a, b⟩ := h.uncons
    exact b.get (i := i) (by simpa using e)
theorem Rps.drop : ∀ {xs : List D} {vs : List V} (n : Nat), Rps K m F H xs vs → Rps K m F H (xs.drop n) (vs.drop n)
  | xs, vs, 0, h => by simpa using h
  | [], vs, n + 1, h => by rw [Rps.nil_iff.mp h]; exact .nil
  | x :: xs, vs, n + 1, h => by
    obtain ⟨v, r, rfl, a, b⟩ := h.uncons
    exact b.drop n
theorem Rps.take : ∀ {xs : List D} {vs : List V} (n : Nat), Rps K m F H xs vs → Rps K m F H (xs.take n) (vs.take n)
  | xs, vs, 0, h => by rw [List.take_zero, List.take_zero]; exact .nil
  | [], vs, n + 1, h => by rw [Rps.nil_iff.mp h]; exact .nil
  | x :: xs, vs, n + 1, h => by
    obtain ⟨v, r, rfl, a, b⟩ := h.uncons
    exact .cons a (b.take n)
theorem Rps.set {x : D} {v : V} (r : Rp K m F H x v) : ∀ {xs : List D} {vs : List V} (i : Nat), Rps K m F H xs vs → Rps K m F H (xs.set i x) (vs.set i v)
  | [], vs, i, h => by rw [Rps.nil_iff.mp h]; exact .nil
  | y :: ys, vs, 0, h => by
    obtain ⟨v, r', rfl, a, b⟩ := h.uncons
    exact .cons r b
  | y :: ys, vs, i + 1, h => by
    obtain ⟨v, r', rfl, a, b⟩ := h.uncons
    exact .cons a (Rps.set r i b)
theorem Rps.rev : ∀ {xs : List D} {vs : List V}, Rps K m F H xs vs → Rps K m F H xs.reverse vs.reverse
  | [], vs, h => by rw [Rps.nil_iff.mp h]; exact .nil
  | x :: xs, vs, h => by
    obtain ⟨v, r, rfl, a, b⟩ := h.uncons
    rw [List.reverse_cons, List.reverse_cons]
    exact b.rev.app (.cons a .nil)
theorem Rps.map {g : D → D} {f : V → V} (k : ∀ x v, Rp K m F H x v → Rp K m F H (g x) (f v)) : ∀ {xs : List D} {vs : List V}, Rps K m F H xs vs → Rps K m F H (xs.map g) (vs.map f)
  | [], vs, h => by rw [Rps.nil_iff.mp h]; exact .nil
  | x :: xs, vs, h => by
    obtain ⟨v, r, rfl, a, b⟩ := h.uncons
    exact .cons (k x v a) (b.map k)
theorem rp_str {x : Str} : Rp K m F H (.str x) (.str x) := by rw [Rp]
theorem rp_int {i : Int} : Rp K m F H (.int i) (.int i) := by rw [Rp]
theorem rp_bl {b : Bool} : Rp K m F H (.bl b) (.bl b) := by rw [Rp]
theorem rp_non : Rp K m F H .non .non := by rw [Rp]
end

mutual
theorem Rp.imp {K : PySem.W.Frag} {m m' : List Addr} {F F' : Addr → Prop} {H H' : Hp} (ht : ∀ n a vs, SqN K n H a vs → SqN K n H' a vs) (hf : ∀ a vs, FroL K H a vs → FroL K H' a vs) (hl : ∀ a vs, H a = some (.lst vs) → a ∉ m → ¬ F a → H' a = some (.lst vs) ∧ a ∉ m' ∧ ¬ F' a) (hm : ∀ (n : Nat) (a : Addr), m[n]? = some a → m'[n]? = some a) :
    ∀ (d : D) (v : V), Rp K m F H d v → Rp K m' F' H' d v
  | .non, v, h => by rw [Rp] at h ⊢; exact h
  | .bl b, v, h => by rw [Rp] at h ⊢; exact h
  | .int i, v, h => by rw [Rp] at h ⊢; exact h
  | .str x, v, h => by rw [Rp] at h ⊢; exact h
  | .tup xs, v, h => by
    rw [Rp] at h ⊢
    obtain ⟨a, vs, e, h1, h2⟩ := h
    exact ⟨a, vs, e, ht _ a vs h1, Rps.imp ht hf hl hm xs vs h2⟩
  | .lst xs, v, h => by
    rw [Rp] at h ⊢
    obtain ⟨a, vs, e, h1, h3, h4, h2⟩ := h
    obtain ⟨k1, k2, k3⟩ := hl a vs h1 h3 h4
    exact ⟨a, vs, e, k1, k2, k3, Rps.imp ht hf hl hm xs vs h2⟩
  | .ref n, v, h => by
    rw [Rp] at h ⊢
    obtain ⟨a, e, h⟩ := h
    exact ⟨a, hm n a e, h⟩
  | .fro n, v, h => by
    rw [Rp] at h ⊢
    obtain ⟨a, e, h⟩ := h
    exact ⟨a, e, hf a _ h⟩
theorem Rps.imp {K : PySem.W.Frag} {m m' : List Addr} {F F' : Addr → Prop} {H H' : Hp} (ht : ∀ n a vs, SqN K n H a vs → SqN K n H' a vs) (hf : ∀ a vs, FroL K H a vs → FroL K H' a vs) (hl : ∀ a vs, H a = some (.lst vs) → a ∉ m → ¬ F a → H' a = some (.lst vs) ∧ a ∉ m' ∧ ¬ F' a) (hm : ∀ (n : Nat) (a : Addr), m[n]? = some a → m'[n]? = some a) :
    ∀ (ds : List D) (vs : List V), Rps K m F H ds vs → Rps K m' F' H' ds vs
  | [], vs, h => by rw [Rps] at h ⊢; exact h
  | x :: xs, vs, h => by
    rw [Rps] at h ⊢
    obtain ⟨v, r, e, h1, h2⟩ := h
    exact ⟨v, r, e, Rp.imp ht hf hl hm x v h1, Rps.imp ht hf hl hm xs r h2⟩
end


structure Grow (m : List Addr) (H : Hp) (m' : List Addr) (H' : Hp) : Prop where
  pre : ∃ l, m' = m ++ l ∧ ∀ a ∈ l, H a = none
  keep : ∀ a o, H a = some o → (a ∉ m ∨ ¬ Mut (some o)) → H' a = some o
  tr : ∀ a ∈ m', ∃ o, H' a = some o
theorem Grow.refl {m : List Addr} {H : Hp} (h : ∀ a ∈ m, ∃ o, H a = some o) : Grow m H m H := ⟨⟨[], by simp, by simp⟩, fun _ _ e _ => e, h⟩
theorem Grow.sub {m m' : List Addr} {H H' : Hp} (g : Grow m H m' H') : ∀ a ∈ m, a ∈ m' := fun a h => by
  obtain ⟨l, e, _⟩ := g.pre
  rw [e]; exact List.mem_append_left _ h
theorem Grow.at {m m' : List Addr} {H H' : Hp} (g : Grow m H m' H') {n : Nat} {a : Addr} (h : m[n]? = some a) : m'[n]? = some a := by
  obtain ⟨l, e, _⟩ := g.pre
  rw [e, List.getElem?_append_left (List.getElem?_eq_some_iff.mp h).1]; exact h
theorem Grow.out {m m' : List Addr} {H H' : Hp} (g : Grow m H m' H') {a : Addr} {o : HO} (h : H a = some o) (k : a ∉ m) : a ∉ m' := fun q => by
  obtain ⟨l, e, n⟩ := g.pre
  rw [e] at q
  rcases List.mem_append.mp q with q | q
  · exact k q
  · rw [n a q] at h; cases h
theorem Grow.tup {K : PySem.W.Frag} {m m' : List Addr} {H H' : Hp} (g : Grow m H m' H') (a : Addr) (vs : List V) (h : SqT K H a vs) : SqT K H' a vs := by
  rcases h with (h | ⟨o, h⟩) | h
  · exact .inl (.inl (g.keep a _ h (.inr (fun z => z))))
  · exact .inl (.inr ⟨o, g.keep a _ h (.inr (fun z => z))⟩)
  · exact .inr h
theorem Grow.tupN {K : PySem.W.Frag} {m m' : List Addr} {H H' : Hp} (g : Grow m H m' H') (n : Bool) (a : Addr) (vs : List V) (h : SqN K n H a vs) : SqN K n H' a vs :=
  ⟨g.tup a vs h.1, fun e => (h.2 e).imp (fun ⟨o, xs, q, d⟩ => ⟨o, xs, g.keep a _ q (.inr (fun z => z)), d⟩) fun q => q⟩
theorem Grow.fro {K : PySem.W.Frag} {m m' : List Addr} {H H' : Hp} (g : Grow m H m' H') (a : Addr) (vs : List V) (h : FroL K H a vs) : FroL K H' a vs := by
  rcases h with ⟨o, h⟩ | h
  · exact .inl ⟨o, g.keep a _ h (.inr (fun z => z))⟩
  · exact .inr h
theorem Rd.some {H : Hp} {a : Addr} {u : HO} (h : Rd H a u) : ∃ o, H a = Option.some o := by
  rcases h with h | ⟨o, h⟩
  · exact ⟨_, h⟩
  · exact ⟨_, h⟩
theorem Grow.rd {m m' : List Addr} {H H' : Hp} (g : Grow m H m' H') {a : Addr} {u : HO} (h : Rd H a u) (k : a ∉ m) : Rd H' a u := by
  rcases h with h | ⟨o, h⟩
  · exact .inl (g.keep a _ h (.inl k))
  · exact .inr ⟨o, g.keep a _ h (.inl k)⟩
theorem Grow.lst {F : Addr → Prop} {m m' : List Addr} {H H' : Hp} (g : Grow m H m' H') (a : Addr) (vs : List V) (h : H a = some (.lst vs)) (k : a ∉ m) (f : ¬ F a) : H' a = some (.lst vs) ∧ a ∉ m' ∧ ¬ F a := ⟨g.keep a _ h (.inl k), g.out h k, f⟩
theorem Rp.mono {K : PySem.W.Frag} {F : Addr → Prop} {m m' : List Addr} {H H' : Hp} {d : D} {v : V} (h : Rp K m F H d v) (g : Grow m H m' H') : Rp K m' F H' d v := Rp.imp g.tupN g.fro g.lst (fun _ _ e => g.at e) d v h
theorem Rps.mono {K : PySem.W.Frag} {F : Addr → Prop} {m m' : List Addr} {H H' : Hp} {d : List D} {v : List V} (h : Rps K m F H d v) (g : Grow m H m' H') : Rps K m' F H' d v := Rps.imp g.tupN g.fro g.lst (fun _ _ e => g.at e) d v h
theorem Grow.trans {m m1 m2 : List Addr} {H H1 H2 : Hp} (g : Grow m H m1 H1) (g2 : Grow m1 H1 m2 H2) : Grow m H m2 H2 := by
  refine ⟨?_, fun a o e k => ?_, g2.tr⟩
  · obtain ⟨l, e, n⟩ := g.pre
    obtain ⟨l2, e2, n2⟩ := g2.pre
    refine ⟨l ++ l2, by rw [e2, e, List.append_assoc], fun a h => ?_⟩
    rcases List.mem_append.mp h with h | h
    · exact n a h
    · cases q : H a with
      | none => rfl
      | some o =>
        exfalso
        by_cases ha : a ∈ m
        · obtain ⟨o', e'⟩ := g.tr a (g.sub a ha)
          rw [n2 a h] at e'; cases e'
        · have := g.keep a o q (.inl ha)
          rw [n2 a h] at this; cases this
  · have e1 := g.keep a o e k
    refine g2.keep a o e1 ?_
    rcases k with k | k
    · exact .inl (g.out e k)
    · exact .inr k


def keyA : D → Option Key
  | .int i => some (.inl i)
  | .str x => some (.inr x)
  | _ => none
def keyAs : List D → Option (List Key)
  | [] => some []
  | x :: xs => match keyA x, keyAs xs with
    | some k, some ks => some (k :: ks)
    | _, _ => none
def keyK : D → Option (List Key)
  | .tup xs => keyAs xs
  | _ => none
def flatD : D → Option V
  | .non => some .non
  | .bl b => some (.bl b)
  | .int i => some (.int i)
  | .str x => some (.str x)
  | _ => none
def dicV : List (D × D) → Option (List (List Key × V))
  | [] => some []
  | p :: r => match keyK p.1, flatD p.2, dicV r with
    | some k, some v, some t => some ((k, v) :: t)
    | _, _, _ => none

def RpO (K : PySem.W.Frag) (m : List Addr) (F : Addr → Prop) (H : Hp) (a : Addr) : O → Prop
  | .lst xs => ∃ vs, H a = some (.lst vs) ∧ Rps K m F H xs vs
  | .dic kvs => ∃ t, H a = some (.dT t) ∧ dicV kvs = some t
  | .dks ks xs => ∃ kk vs, H a = some (.dK (kk.zip vs)) ∧ keyAs ks = some kk ∧ kk.length = vs.length ∧ Rps K m F H xs vs

structure Sm (K : PySem.W.Frag) (m : List Addr) (F : Addr → Prop) (S : Store) (H : Hp) : Prop where
  len : m.length = S.length
  nd : m.Nodup
  fok : ∀ a, F a → ∃ o, H a = some o
  fm : ∀ a ∈ m, ¬ F a
  obj : ∀ (n : Nat) (a : Addr) (o : O), m[n]? = some a → S[n]? = some o → RpO K m F H a o
section
variable {K : PySem.W.Frag} {m : List Addr} {F : Addr → Prop} {S : Store} {H : Hp}
theorem Sm.at (s : Sm K m F S H) {n : Nat} {o : O} (e : S[n]? = some o) : ∃ a, m[n]? = some a ∧ RpO K m F H a o := by
  have h : n < m.length := by rw [s.len]; exact (List.getElem?_eq_some_iff.mp e).1
  exact ⟨m[n], List.getElem?_eq_getElem h, s.obj n _ o (List.getElem?_eq_getElem h) e⟩
theorem RpO.tr {a : Addr} {o : O} (h : RpO K m F H a o) : ∃ u, H a = some u ∧ Mut (some u) := by
  cases o with
  | lst xs => obtain ⟨vs, e, _⟩ := h; exact ⟨_, e, True.intro⟩
  | dic _ => obtain ⟨t, e, _⟩ := h; exact ⟨_, e, True.intro⟩
  | dks _ _ => obtain ⟨kk, vs, e, _⟩ := h; exact ⟨_, e, True.intro⟩
theorem Sm.tr (s : Sm K m F S H) : ∀ a ∈ m, ∃ o, H a = some o := fun a ha => by
  obtain ⟨n, hn, e⟩ := List.getElem_of_mem ha
  have hs : n < S.length := by rw [← s.len]; exact hn
  obtain ⟨u, q, _⟩ := (s.obj n a S[n] (by rw [List.getElem?_eq_getElem hn, e]) (List.getElem?_eq_getElem hs)).tr
  exact ⟨u, q⟩
theorem Sm.refl (s : Sm K m F S H) : Grow m H m H := Grow.refl s.tr
theorem RpO.imp {a : Addr} {o : O} {m' : List Addr} {F' : Addr → Prop} {H' : Hp} (h : RpO K m F H a o) (k : ∀ u, H a = some u → H' a = some u) (r : ∀ xs vs, Rps K m F H xs vs → Rps K m' F' H' xs vs) : RpO K m' F' H' a o := by
  cases o with
  | lst xs => obtain ⟨vs, e, q⟩ := h; exact ⟨vs, k _ e, r _ _ q⟩
  | dic _ => obtain ⟨t, e, q⟩ := h; exact ⟨t, k _ e, q⟩
  | dks _ _ => obtain ⟨kk, vs, e, q1, q2, q3⟩ := h; exact ⟨kk, vs, k _ e, q1, q2, r _ _ q3⟩

theorem Grow.new (s : Sm K m F S H) {p : Addr} {o : HO} (np : H p = none) : Grow m H m (upd H p o) :=
  ⟨⟨[], by simp, by simp⟩, fun a u e _ => by rw [upd_ne (ne_of_none e np)]; exact e, fun a ha => by
    obtain ⟨u, e⟩ := s.tr a ha
    exact ⟨u, by rw [upd_ne (ne_of_none e np)]; exact e⟩⟩

theorem Sm.grown (s : Sm K m F S H) {H' : Hp} (k : ∀ a o, H a = some o → H' a = some o) : Sm K m F S H' := by
  have g : Grow m H m H' := ⟨⟨[], by simp, by simp⟩, fun a o e _ => k a o e, fun a ha => let ⟨o, e⟩ := s.tr a ha; ⟨o, k a o e⟩⟩
  exact ⟨s.len, s.nd, fun a f => let ⟨o, e⟩ := s.fok a f; ⟨o, k a o e⟩, s.fm, fun n a o e1 e2 => (s.obj n a o e1 e2).imp (fun u q => k a u q) fun xs vs q => q.mono g⟩
theorem Sm.new (s : Sm K m F S H) {p : Addr} {o : HO} (np : H p = none) : Sm K m F S (upd H p o) := s.grown fun a u e => by rw [upd_ne (ne_of_none e np)]; exact e

theorem Sm.push (s : Sm K m F S H) {p : Addr} {vs : List V} {xs : List D} (np : H p = none) (r : Rps K m F H xs vs) : Grow m H (m ++ [p]) (upd H p (.lst vs)) ∧ Sm K (m ++ [p]) F (S ++ [.lst xs]) (upd H p (.lst vs)) := by
  have pm : p ∉ m := fun h => by obtain ⟨o, e⟩ := s.tr p h; rw [np] at e; cases e
  have k : ∀ a o, H a = some o → upd H p (.lst vs) a = some o := fun a u e => by rw [upd_ne (ne_of_none e np)]; exact e
  have g : Grow m H (m ++ [p]) (upd H p (.lst vs)) := ⟨⟨[p], rfl, fun a h => by rw [List.mem_singleton.mp h]; exact np⟩, fun a o e _ => k a o e, fun a ha => by
    rcases List.mem_append.mp ha with h | h
    · obtain ⟨u, e⟩ := s.tr a h
      exact ⟨u, k a u e⟩
    · rw [List.mem_singleton.mp h]; exact ⟨_, upd_same⟩⟩
  refine ⟨g, by rw [List.length_append, List.length_append, s.len]; rfl, ?_, fun a f => let ⟨o, e⟩ := s.fok a f; ⟨o, k a o e⟩, fun a ha f => ?_, fun n a o e1 e2 => ?_⟩
  · rw [List.nodup_append]
    exact ⟨s.nd, List.pairwise_singleton _ _, fun a h b h2 => by rw [List.mem_singleton.mp h2]; rintro rfl; exact pm h⟩
  · rcases List.mem_append.mp ha with h | h
    · exact s.fm a h f
    · rw [List.mem_singleton.mp h] at f
      obtain ⟨o, e⟩ := s.fok p f
      rw [np] at e; cases e
  · by_cases hn : n < m.length
    · rw [List.getElem?_append_left hn] at e1
      rw [List.getElem?_append_left (by rw [← s.len]; exact hn)] at e2
      exact (s.obj n a o e1 e2).imp (fun u q => k a u q) fun xs vs q => q.mono g
    · have hn' : n = m.length := by
        have h := (List.getElem?_eq_some_iff.mp e1).1
        rw [List.length_append] at h
        simp only [List.length_cons, List.length_nil] at h
        omega
      subst hn'
      rw [List.getElem?_concat_length] at e1
      rw [s.len, List.getElem?_concat_length] at e2
      cases e1; cases e2
      exact ⟨vs, upd_same, r.mono g⟩

theorem Sm.put (s : Sm K m F S H) {n : Nat} {p : Addr} {vs : List V} {xs : List D} (e : m[n]? = some p) (r : Rps K m F H xs vs) : Grow m H m (upd H p (.lst vs)) ∧ Sm K m F (S.set n (.lst xs)) (upd H p (.lst vs)) := by
  have hp : p ∈ m := List.mem_of_getElem? e
  have hn : n < S.length := by rw [← s.len]; exact (List.getElem?_eq_some_iff.mp e).1
  obtain ⟨u, q, mu⟩ := (s.obj n p S[n] e (List.getElem?_eq_getElem hn)).tr
  have g : Grow m H m (upd H p (.lst vs)) := ⟨⟨[], by simp, by simp⟩, fun a o ea k => by
    have ne : a ≠ p := by
      rintro rfl
      rcases k with k | k
      · exact k hp
      · rw [q] at ea; cases ea; exact k mu
    rw [upd_ne ne]; exact ea, fun a ha => by
    by_cases ea : a = p
    · rw [ea]; exact ⟨_, upd_same⟩
    · rw [upd_ne ea]; exact s.tr a ha⟩
  refine ⟨g, by rw [List.length_set]; exact s.len, s.nd, fun a f => ?_, s.fm, fun j a o e1 e2 => ?_⟩
  · by_cases ea : a = p
    · rw [ea]; exact ⟨_, upd_same⟩
    · rw [upd_ne ea]; exact s.fok a f
  · by_cases hj : j = n
    · subst hj
      rw [e] at e1; cases e1
      rw [List.getElem?_set_self hn] at e2
      cases e2
      exact ⟨vs, upd_same, r.mono g⟩
    · rw [List.getElem?_set_ne (Ne.symm hj)] at e2
      have ne : a ≠ p := by
        rintro rfl
        apply hj
        obtain ⟨h1, e1'⟩ := List.getElem?_eq_some_iff.mp e1
        obtain ⟨h2, e2'⟩ := List.getElem?_eq_some_iff.mp e
        exact (List.getElem_inj s.nd).mp (e1'.trans e2'.symm)
      exact (s.obj j a o e1 e2).imp (fun u q => by rw [upd_ne ne]; exact q) fun xs vs q => q.mono g

theorem Sm.more (s : Sm K m F S H) {p : Addr} {o : HO} (np : H p = none) : Grow m H m (upd H p o) ∧ Sm K m (fun a => F a ∨ a = p) S (upd H p o) ∧ ∀ d v, Rp K m F H d v → Rp K m (fun a => F a ∨ a = p) (upd H p o) d v := by
  have g : Grow m H m (upd H p o) := Grow.new s np
  have k : ∀ a u, H a = some u → upd H p o a = some u := fun a u e => by rw [upd_ne (ne_of_none e np)]; exact e
  have hl : ∀ a vs, H a = some (.lst vs) → a ∉ m → ¬ F a → upd H p o a = some (.lst vs) ∧ a ∉ m ∧ ¬ (F a ∨ a = p) := fun a vs h1 h2 h3 => ⟨k a _ h1, h2, fun z => z.elim h3 fun z => ne_of_none h1 np z⟩
  refine ⟨g, ⟨s.len, s.nd, fun a f => ?_, fun a ha f => ?_, fun n a u e1 e2 => ?_⟩, fun d v h => Rp.imp g.tupN g.fro hl (fun _ _ e => e) d v h⟩
  · rcases f with f | f
    · obtain ⟨u, e⟩ := s.fok a f; exact ⟨u, k a u e⟩
    · rw [f]; exact ⟨_, upd_same⟩
  · rcases f with f | f
    · exact s.fm a ha f
    · obtain ⟨u, e⟩ := s.tr a ha
      rw [f, np] at e; cases e
  · exact (s.obj n a u e1 e2).imp (fun u q => k a u q) fun xs vs q => Rps.imp g.tupN g.fro hl (fun _ _ e => e) xs vs q
theorem Rp.wider {F' : Addr → Prop} {d : D} {v : V} (h : Rp K m F H d v) (k : ∀ a, F' a → F a) : Rp K m F' H d v := Rp.imp (fun _ _ _ q => q) (fun _ _ q => q) (fun a vs h1 h2 h3 => ⟨h1, h2, fun z => h3 (k a z)⟩) (fun _ _ e => e) d v h
theorem Rps.wider {F' : Addr → Prop} {d : List D} {v : List V} (h : Rps K m F H d v) (k : ∀ a, F' a → F a) : Rps K m F' H d v := Rps.imp (fun _ _ _ q => q) (fun _ _ q => q) (fun a vs h1 h2 h3 => ⟨h1, h2, fun z => h3 (k a z)⟩) (fun _ _ e => e) d v h
theorem Sm.wider {F' : Addr → Prop} (s : Sm K m F S H) (k : ∀ a, F' a → F a) : Sm K m F' S H :=
  ⟨s.len, s.nd, fun a f => s.fok a (k a f), fun a ha f => s.fm a ha (k a f), fun n a o e1 e2 => (s.obj n a o e1 e2).imp (fun _ q => q) fun xs vs q => q.wider k⟩
end
theorem keyA_inj {a b : D} {k : Key} (h : keyA a = some k) (h2 : keyA b = some k) : a = b := by
  cases a <;> cases b <;> simp_all [keyA]
  all_goals (subst h; simp_all)
theorem key1_of {K : PySem.W.Frag} {m : List Addr} {F : Addr → Prop} {H : Hp} {d : D} {v : V} (r : Rp K m F H d v) (h : keyB1 d = true) : ∃ k, keyA d = some k ∧ v = kV k := by
  cases d with
  | int i => rw [Rp] at r; subst r; exact ⟨.inl i, rfl, rfl⟩
  | str i => rw [Rp] at r; subst r; exact ⟨.inr i, rfl, rfl⟩
  | _ => simp [keyB1] at h
theorem keyAs_mem {k : D} {kk : Key} (hk : keyA k = some kk) : ∀ {ks : List D} {l : List Key}, keyAs ks = some l → (kk ∈ l ↔ k ∈ ks)
  | [], l, h => by rw [keyAs] at h; cases h; simp
  | x :: ks, l, h => by
    rw [keyAs] at h
    split at h
    · rename_i k1 l1 e1 e2
      cases h
      rw [List.mem_cons, List.mem_cons, keyAs_mem hk e2]
      constructor
      · rintro (h | h)
        · subst h; exact .inl (keyA_inj hk e1)
        · exact .inr h
      · rintro (h | h)
        · subst h; rw [hk] at e1; cases e1; exact .inl rfl
        · exact .inr h
    · cases h
theorem keyAs_len : ∀ {ks : List D} {l : List Key}, keyAs ks = some l → l.length = ks.length
  | [], l, h => by rw [keyAs] at h; cases h; rfl
  | x :: ks, l, h => by
    rw [keyAs] at h
    split at h
    · rename_i k1 l1 e1 e2
      cases h
      simp [keyAs_len e2]
    · cases h
end Rf


namespace Rf
open PySem PySem.Spec PyProof.Rows L2


def Out (K : PySem.W.Frag) (m : List Addr) (F : Addr → Prop) (S : Store) (H : Hp) (d : D) (Q : VK) : Prop :=
  ∀ m' H' w, Grow m H m' H' → Sm K m' F S H' → Rp K m' F H' d w → Q w H'
section
variable {K : PySem.W.Frag} {m : List Addr} {F : Addr → Prop} {S : Store} {H : Hp} {d : D} {Q : VK}
theorem Out.now (q : Out K m F S H d Q) (s : Sm K m F S H) {w : V} (r : Rp K m F H d w) : Q w H := q m H w s.refl s r
theorem Out.tup {xs : List D} {vs : List V} (q : Out K m F S H (.tup xs) Q) (s : Sm K m F S H) (r : Rps K m F H xs vs) (nn : D.need xs = false) {p : Addr} (np : H p = none) : Q (.ref p) (upd H p (.tup vs)) := by
  have g : Grow m H m (upd H p (.tup vs)) := Grow.new s np
  refine q m _ _ g (s.new np) ?_
  rw [Rp]
  exact ⟨p, vs, rfl, ⟨SqT.of upd_same, fun e => by rw [nn] at e; cases e⟩, r.mono g⟩
theorem Out.tupN {xs : List D} {vs : List V} (q : Out K m F S H (.tup xs) Q) (s : Sm K m F S H) (r : Rps K m F H xs vs) : NewT H vs Q := fun p o np d => by
  have g : Grow m H m (upd H p (.frz o (.tup vs))) := Grow.new s np
  refine q m _ _ g (s.new np) ?_
  rw [Rp]
  exact ⟨p, vs, rfl, ⟨.inl (.inr ⟨o, upd_same⟩), fun _ => .inl ⟨o, vs, upd_same, d⟩⟩, r.mono g⟩
theorem Out.lst {xs : List D} {vs : List V} (q : Out K m F S H (.lst xs) Q) (s : Sm K m F S H) (r : Rps K m F H xs vs) {p : Addr} (np : H p = none) : Q (.ref p) (upd H p (.lst vs)) := by
  have g : Grow m H m (upd H p (.lst vs)) := Grow.new s np
  refine q m _ _ g (s.new np) ?_
  rw [Rp]
  refine ⟨p, vs, rfl, upd_same, fun h => ?_, fun f => ?_, r.mono g⟩
  · obtain ⟨o, e⟩ := s.tr p h; rw [np] at e; cases e
  · obtain ⟨o, e⟩ := s.fok p f; rw [np] at e; cases e
end


section
variable {X : Cx} {pins : List (Addr × Obj)} {σ : L2.St} {H : Hp} {s : Shared} {m : List Addr} {F : Addr → Prop} {S : Store}
mutual
theorem rv_pure (I : Inv X pins σ H s) : ∀ (n : Nat) (d : D) (v : V) (u : Value), Rp X.K m F H d v → RelV v u → D.okd n d = true → Rv s.heap d u
  | 0, d, _, _, _, _, h => by cases d <;> simp [D.okd] at h
  | n + 1, .non, v, u, h, r, _ => by rw [Rp] at h; subst h; rw [Rv]; exact r
  | n + 1, .bl b, v, u, h, r, _ => by rw [Rp] at h; subst h; rw [Rv]; exact r
  | n + 1, .int b, v, u, h, r, _ => by rw [Rp] at h; subst h; rw [Rv]; exact r
  | n + 1, .str b, v, u, h, r, _ => by rw [Rp] at h; subst h; rw [Rv]; exact r
  | n + 1, .tup xs, v, u, h, r, k => by
    rw [Rp] at h
    obtain ⟨a, vs, rfl, ht, hx⟩ := h
    cases (show u = Value.ref a from r)
    obtain ⟨its, rv, p, _⟩ := I.tuple ht.1
    rw [Rv]
    exact ⟨a, its.toArray, rfl, p, by simpa using rvs_pure I n xs vs its hx rv (by simpa [D.okd] using k)⟩
  | n + 1, .lst xs, v, u, h, r, k => by
    rw [Rp] at h
    obtain ⟨a, vs, rfl, ht, _, _, hx⟩ := h
    cases (show u = Value.ref a from r)
    obtain ⟨its, rv, p, _⟩ := I.list (SqL.of (K := X.K) ht)
    rw [Rv]
    exact ⟨a, its.toArray, rfl, p.isList, by simpa using rvs_pure I n xs vs its hx rv (by simpa [D.okd] using k)⟩
  | n + 1, .ref j, v, u, h, r, k => by simp [D.okd] at k
  | n + 1, .fro j, v, u, h, r, k => by simp [D.okd] at k
theorem rvs_pure (I : Inv X pins σ H s) : ∀ (n : Nat) (ds : List D) (vs : List V) (us : List Value), Rps X.K m F H ds vs → Vals vs us → D.okds n ds = true → Rvs s.heap ds us
  | n, [], vs, us, h, r, _ => by
    rw [Rps] at h; subst h
    cases r
    rw [Rvs]
  | n, x :: xs, vs, us, h, r, k => by
    rw [Rps] at h
    obtain ⟨v, t, rfl, h1, h2⟩ := h
    cases r with
    | cons r1 r2 =>
      rw [D.okds, Bool.and_eq_true] at k
      rw [Rvs]
      exact ⟨_, _, rfl, rv_pure I n x v _ h1 r1 k.1, rvs_pure I n xs t _ h2 r2 k.2⟩
end
theorem rv_rs (I : Inv X pins σ H s) (hs : Sm X.K m F S H) {n : Nat} {d : D} {v : V} {u : Value} (h : Rp X.K m F H d v) (r : RelV v u) (k : D.okd n (rs S d) = true) : Rv s.heap (rs S d) u := by
  cases d with
  | ref j =>
    rw [Rp] at h
    obtain ⟨a, e, rfl⟩ := h
    cases (show u = Value.ref a from r)
    simp only [rs] at k ⊢
    cases q : S[j]? with
    | none => rw [q] at k; cases n <;> simp [D.okd] at k
    | some o =>
      rw [q] at k
      cases o with
      | lst xs =>
        obtain ⟨vs, e2, rr⟩ := hs.obj j a _ e q
        obtain ⟨its, rv, p, _⟩ := I.list (SqL.of (K := X.K) e2)
        cases n with
        | zero => simp [D.okd] at k
        | succ n =>
          simp only [D.okd] at k
          simp only [Rv]
          exact ⟨a, its.toArray, rfl, p.isList, by simpa using rvs_pure I n xs vs its rr rv k⟩
      | dic _ => cases n <;> simp [D.okd] at k
      | dks _ _ => cases n <;> simp [D.okd] at k
  | _ => exact rv_pure I n _ v u h r k
theorem rps_ints : ∀ ns : List Int, Rps X.K m F H (ns.map D.int) (ns.map V.int)
  | [] => .nil
  | n :: ns => .cons rp_int (rps_ints ns)

theorem litems_at (hs : Sm X.K m F S H) {d : D} {v : V} {xs : List D} (h : Rp X.K m F H d v) (k : litems S d = some xs) : ∃ a vs, v = .ref a ∧ H a = some (.lst vs) ∧ Rps X.K m F H xs vs := by
  cases d with
  | lst ys =>
    rw [Rp] at h
    obtain ⟨a, vs, rfl, h1, _, _, h2⟩ := h
    simp only [litems, Option.some.injEq] at k; subst k
    exact ⟨a, vs, rfl, h1, h2⟩
  | ref j =>
    rw [Rp] at h
    obtain ⟨a, e, rfl⟩ := h
    simp only [litems] at k
    cases q : S[j]? with
    | none => rw [q] at k; cases k
    | some o =>
      rw [q] at k
      cases o with
      | lst ys =>
        have k' : some ys = some xs := k
        cases k'
        obtain ⟨vs, e2, rr⟩ := hs.obj j a _ e q
        exact ⟨a, vs, rfl, e2, rr⟩
      | dic _ => cases k
      | dks _ _ => cases k
  | _ => simp [litems] at k
theorem items_at (hs : Sm X.K m F S H) {d : D} {v : V} {xs : List D} (h : Rp X.K m F H d v) (k : items S d = some xs) : ∃ a vs, v = .ref a ∧ (SqL X.K H a vs ∨ SqT X.K H a vs) ∧ Rps X.K m F H xs vs := by
  cases d with
  | tup ys =>
    rw [Rp] at h
    obtain ⟨a, vs, rfl, h1, h2⟩ := h
    simp only [items, Option.some.injEq] at k; subst k
    exact ⟨a, vs, rfl, .inr h1.1, h2⟩
  | lst ys => obtain ⟨a, vs, e, h1, h2⟩ := litems_at hs h (xs := xs) (by simpa [items, litems] using k); exact ⟨a, vs, e, .inl (SqL.of h1), h2⟩
  | fro ns =>
    rw [Rp] at h
    obtain ⟨a, rfl, h1⟩ := h
    simp only [items, Option.some.injEq] at k; subst k
    exact ⟨a, _, rfl, .inl h1.sq, rps_ints ns⟩
  | ref j => obtain ⟨a, vs, e, h1, h2⟩ := litems_at hs h (xs := xs) (by simpa [items, litems] using k); exact ⟨a, vs, e, .inl (SqL.of h1), h2⟩
  | _ => simp [items] at k
end


def rBin (K : PySem.W.Frag) (op : Operator) : R2 := fun v u H Q => ∃ m F S x y d, Sm K m F S H ∧ Rp K m F H x v ∧ Rp K m F H y u ∧ binD op x y = some d ∧ Out K m F S H d Q
section
variable {X : Cx}
theorem inR_iff {i : Int} : inR i = true ↔ (-(2 ^ 64) < i ∧ i < 2 ^ 64) := by unfold inR; simp
theorem op_bin {op : Operator} : OpR X (binaryOp op) (rBin X.K op) := by
  intro pins s σ H v u vv uu Q I rv ru h
  obtain ⟨m, F, S, x, y, d, hs, rx, ry, hb, q⟩ := h
  cases x with
  | int i =>
    cases y with
    | int j =>
      rw [Rp] at rx ry; subst rx ry
      cases op <;> simp only [binD] at hb
      case Add =>
        cases hb
        exact op_add pins s σ H _ _ vv uu Q I rv ru ⟨i, j, rfl, rfl, q.now hs rp_int⟩
      case Sub =>
        cases hb
        exact op_sub pins s σ H _ _ vv uu Q I rv ru ⟨i, j, rfl, rfl, q.now hs rp_int⟩
      case Mult =>
        split at hb
        · rename_i hc
          cases hb
          rw [Bool.or_eq_true, inR_iff, inR_iff] at hc
          exact op_mul pins s σ H _ _ vv uu Q I rv ru ⟨i, j, rfl, rfl, hc, q.now hs rp_int⟩
        · cases hb
      case FloorDiv =>
        split at hb
        · rename_i hc
          cases hb
          simp only [Bool.and_eq_true, decide_eq_true_eq] at hc
          exact op_fdiv pins s σ H _ _ vv uu Q I rv ru ⟨i, j, rfl, rfl, hc, q.now hs rp_int⟩
        · cases hb
      case Mod =>
        split at hb
        · rename_i hc
          cases hb
          exact op_mod pins s σ H _ _ vv uu Q I rv ru ⟨i, j, rfl, rfl, hc, q.now hs rp_int⟩
        · cases hb
      case Pow =>
        split at hb
        · rename_i hc
          cases hb
          exact op_pow pins s σ H _ _ vv uu Q I rv ru ⟨i, j, rfl, rfl, hc, q.now hs rp_int⟩
        · cases hb
      case LShift =>
        split at hb
        · rename_i hc
          cases hb
          exact op_shl pins s σ H _ _ vv uu Q I rv ru ⟨i, j, rfl, rfl, hc, q.now hs rp_int⟩
        · cases hb
      case RShift =>
        split at hb
        · rename_i hc
          cases hb
          exact op_shr pins s σ H _ _ vv uu Q I rv ru ⟨i, j, rfl, rfl, hc, q.now hs rp_int⟩
        · cases hb
      case BitAnd =>
        cases hb
        exact op_and pins s σ H _ _ vv uu Q I rv ru ⟨i, j, rfl, rfl, q.now hs rp_int⟩
      all_goals cases hb
    | _ => simp [binD] at hb
  | str i =>
    cases y with
    | str j =>
      rw [Rp] at rx ry; subst rx ry
      cases op <;> simp only [binD] at hb
      case Add =>
        split at hb
        · rename_i hc
          cases hb
          exact op_add_str pins s σ H _ _ vv uu Q I rv ru ⟨i, j, rfl, rfl, hc, q.now hs rp_str⟩
        · cases hb
      all_goals cases hb
    | _ => simp [binD] at hb
  | tup xs =>
    cases y with
    | tup ys =>
      have rx0 := rx
      have ry0 := ry
      rw [Rp] at rx ry
      obtain ⟨a, vs, rfl, ha, hx⟩ := rx
      obtain ⟨b, ws, rfl, hb', hy⟩ := ry
      cases op <;> simp only [binD] at hb
      case Add =>
        split at hb
        · rename_i hc
          cases hb
          refine op_catN pins s σ H _ _ vv uu Q I rv ru ⟨a, b, vs, ws, rfl, rfl, ha.1, hb'.1, by rw [← hx.len, ← hy.len]; exact hc, fun e => ?_, fun _ e => ?_, fun _ _ => ?_⟩
          · subst e
            have : xs = [] := by have := hx.len; simpa using this
            subst this
            exact q.now hs (by simpa using ry0)
          · subst e
            have : ys = [] := by have := hy.len; simpa using this
            subst this
            exact q.now hs (by simpa using rx0)
          · exact q.tupN hs (hx.app hy)
        · cases hb
      all_goals cases hb
    | _ => simp [binD] at hb
  | _ => simp [binD] at hb


def rCmp (K : PySem.W.Frag) (op : CmpOp) : R2 := fun v u H Q => ∃ m F S x y k, Sm K m F S H ∧ Rp K m F H x v ∧ Rp K m F H y u ∧ cmpD S op x y = some k ∧ Q (.bl k) H
theorem any_pick {h : Heap} {x : D} : ∀ {ys : List D} {us : List Value}, Rvs h ys us → ∀ e : Value → Bool, (∀ y u, Rv h y u → e u = D.eqv y x) → us.any e = ys.any (fun y => D.eqv y x)
  | [], us, r, e, k => by rw [Rvs] at r; subst r; rfl
  | y :: ys, us, r, e, k => by
    rw [Rvs] at r
    obtain ⟨u, t, rfl, r1, r2⟩ := r
    rw [List.any_cons, List.any_cons, k y u r1, any_pick r2 e k]
theorem mem_pick {h : Heap} : ∀ {ys : List D} {us : List Value} {u : Value}, Rvs h ys us → u ∈ us → ∃ y, y ∈ ys ∧ Rv h y u
  | [], us, u, r, k => by rw [Rvs] at r; subst r; cases k
  | y :: ys, us, u, r, k => by
    rw [Rvs] at r
    obtain ⟨w, t, rfl, r1, r2⟩ := r
    rcases List.mem_cons.mp k with rfl | k
    · exact ⟨y, List.mem_cons_self, r1⟩
    · obtain ⟨z, hz, q⟩ := mem_pick r2 k
      exact ⟨z, List.mem_cons_of_mem _ hz, q⟩
theorem okds_mem {n : Nat} : ∀ {ys : List D} {y : D}, D.okds n ys = true → y ∈ ys → D.okd n y = true
  | [], _, _, k => by cases k
  | z :: ys, y, h, k => by
    rw [D.okds, Bool.and_eq_true] at h
    rcases List.mem_cons.mp k with rfl | k
    · exact h.1
    · exact okds_mem h.2 k
theorem zip_some {kx : Key} : ∀ {kk : List Key} {vs : List V}, kk.length = vs.length → ((valV (kk.zip vs) kx).isSome = true ↔ kx ∈ kk)
  | [], [], _ => by simp [valV]
  | k :: kk, v :: vs, h => by
    have ih := zip_some (kx := kx) (kk := kk) (vs := vs) (by simpa using h)
    unfold valV at ih ⊢
    rw [List.zip_cons_cons, List.find?_cons]
    by_cases q : k = kx
    · simp [q]
    · rw [show decide ((k, v).1 = kx) = false from decide_eq_false q]
      simp only
      rw [ih]
      exact ⟨fun h => List.mem_cons_of_mem _ h, fun h => (List.mem_cons.mp h).resolve_left fun z => q z.symm⟩
  | [], _ :: _, h => by simp at h
  | _ :: _, [], h => by simp at h
open Classical in
noncomputable def pickE (h : Heap) (x : D) (u : Value) : Bool := if q : ∃ y, Rv h y u then D.eqv q.choose x else false
theorem pickE_of {h : Heap} {x y : D} {u : Value} (r : Rv h y u) : pickE h x u = D.eqv y x := by
  have q : ∃ y, Rv h y u := ⟨y, r⟩
  unfold pickE
  rw [dif_pos q, rv_inj _ _ _ q.choose_spec r]
theorem fin_bl' {pins : List (Addr × Obj)} {σ : L2.St} {H : Hp} {s : Shared} {Q : VK} {k : Bool} (I : Inv X pins σ H s) (q : Q (.bl k) H) : EP X pins σ Q (.bool k) s := ⟨.bl k, H, I, rfl, q⟩
theorem op_in (hu : X.A.units + 64 < cLine) {pins : List (Addr × Obj)} {s : Shared} {σ : L2.St} {H : Hp} {v u : V} {vv uu : Value} {Q : VK} {m : List Addr} {F : Addr → Prop} {S : Store} {x y : D} {k : Bool}
    (I : Inv X pins σ H s) (rv : RelV v vv) (ru : RelV u uu) (hs : Sm X.K m F S H) (rx : Rp X.K m F H x v) (ry : Rp X.K m F H y u) (hk : inD S x y = some k) :
    (Q (.bl k) H → wpAny (model X.prog X.w) X.A (compareOp .In vv uu) (EP X pins σ Q) X.xe s) ∧ (Q (.bl (!k)) H → wpAny (model X.prog X.w) X.A (compareOp .NotIn vv uu) (EP X pins σ Q) X.xe s) := by
  have hd : deep = 40 := rfl
  have seq : ∀ ys, items S y = some ys → D.okd deep (rs S x) = true → D.okds deep ys = true → k = (ys.any fun z => D.eqv z (rs S x)) →
      (Q (.bl k) H → wpAny (model X.prog X.w) X.A (compareOp .In vv uu) (EP X pins σ Q) X.xe s) ∧ (Q (.bl (!k)) H → wpAny (model X.prog X.w) X.A (compareOp .NotIn vv uu) (EP X pins σ Q) X.xe s) := by
    intro ys hi h1 h2 hk
    obtain ⟨a, vs, rfl, hq, hr⟩ := items_at hs ry hi
    cases (show uu = Value.ref a from ru)
    have rvx := rv_rs I hs rx rv h1
    rcases hq with hq | hq
    · obtain ⟨its, r1, p1, _⟩ := I.list hq
      have rvy : Rvs s.heap ys its := rvs_pure I deep ys vs its hr r1 h2
      have he : ∀ z, z ∈ its.toArray → PySem.SeqAt.EqAt X.A.in1 s z vv (pickE s.heap (rs S x) z) := fun z hz => by
        obtain ⟨w, hw, rw'⟩ := mem_pick rvy (by simpa using hz)
        rw [pickE_of rw']
        exact eqAt_rv deep w (rs S x) X.A.in1 s z vv rw' rvx (okds_mem h2 hw) h1 (by show X.A.units + 1 + deep < cLine; rw [hd]; omega)
      have e : (its.toArray.any (pickE s.heap (rs S x))) = k := by
        rw [hk, List.any_toArray]
        exact any_pick rvy _ fun y u r => pickE_of r
      exact ⟨fun q => PySem.SeqAt.in_listAt _ p1.isList he (by rw [e]; exact fin_bl' I q), fun q => PySem.SeqAt.notIn_listAt _ p1.isList he (by rw [e]; exact fin_bl' I q)⟩
    · obtain ⟨its, r1, p1, _⟩ := I.tuple hq
      have rvy : Rvs s.heap ys its := rvs_pure I deep ys vs its hr r1 h2
      have he : ∀ z, z ∈ its.toArray → PySem.SeqAt.EqAt X.A.in1 s z vv (pickE s.heap (rs S x) z) := fun z hz => by
        obtain ⟨w, hw, rw'⟩ := mem_pick rvy (by simpa using hz)
        rw [pickE_of rw']
        exact eqAt_rv deep w (rs S x) X.A.in1 s z vv rw' rvx (okds_mem h2 hw) h1 (by show X.A.units + 1 + deep < cLine; rw [hd]; omega)
      have e : (its.toArray.any (pickE s.heap (rs S x))) = k := by
        rw [hk, List.any_toArray]
        exact any_pick rvy _ fun y u r => pickE_of r
      exact ⟨fun q => PySem.SeqAt.in_tupleAt _ p1 he (by rw [e]; exact fin_bl' I q), fun q => PySem.SeqAt.notIn_tupleAt _ p1 he (by rw [e]; exact fin_bl' I q)⟩
  have gen : ∀ y, inSeq S x y = some k → ∃ ys, items S y = some ys ∧ D.okd deep (rs S x) = true ∧ D.okds deep ys = true ∧ k = (ys.any fun z => D.eqv z (rs S x)) := by
    intro y h
    unfold inSeq at h
    cases hi : items S y with
    | none => rw [hi] at h; cases h
    | some ys =>
      rw [hi] at h
      simp only [Option.bind_some] at h
      split at h
      · rename_i hc
        rw [Bool.and_eq_true] at hc
        exact ⟨ys, rfl, hc.1, hc.2, (Option.some.inj h).symm⟩
      · cases h
  cases y with
  | str z =>
    cases x with
    | str w =>
      simp only [inD, Option.some.injEq] at hk
      rw [Rp] at rx ry; subst rx ry
      constructor
      · intro q
        exact op_in_str pins s σ H _ _ vv uu Q I rv ru ⟨w, z, rfl, rfl, by rw [← hk] at q; exact q⟩
      · intro q
        exact op_notin_str pins s σ H _ _ vv uu Q I rv ru ⟨w, z, rfl, rfl, by rw [← hk] at q; exact q⟩
    | _ => simp [inD] at hk
  | ref n =>
    have hk : inRef S x n = some k := hk
    unfold inRef at hk
    split at hk
    · rename_i ks xs e
      split at hk
      · rename_i h1
        cases hk
        rw [Rp] at ry
        obtain ⟨p, hp, rfl⟩ := ry
        obtain ⟨kk, vs, e1, e2, e3, _⟩ := hs.obj n p _ hp e
        obtain ⟨kx, f1, rfl⟩ := key1_of rx h1
        cases (show uu = Value.ref p from ru)
        have em : (valV (kk.zip vs) kx).isSome = decide (x ∈ ks) := by
          rw [Bool.eq_iff_iff, zip_some e3, keyAs_mem f1 e2, decide_eq_true_eq]
        refine ⟨fun q => d_in (by omega) I (DGet.k e1) rv fun s' I' => ?_, fun q => d_notIn (by omega) I (DGet.k e1) rv fun s' I' => ?_⟩
        · rw [em]; exact fin_bl' I' q
        · rw [em]; exact fin_bl' I' q
      · cases hk
    · obtain ⟨ys, a, b, c, d⟩ := gen _ hk
      exact seq ys a b c d
  | _ =>
    obtain ⟨ys, a, b, c, d⟩ := gen _ (by simpa only [inD] using hk)
    exact seq ys a b c d
theorem op_cmp (hu : X.A.units + 64 < cLine) {op : CmpOp} : OpR X (compareOp op) (rCmp X.K op) := by
  intro pins s σ H v u vv uu Q I rv ru h
  obtain ⟨m, F, S, x, y, k, hs, rx, ry, hb, q⟩ := h
  have hd : deep = 40 := rfl
  have hu' : X.A.units + deep < cLine := by rw [hd]; omega
  cases op with
  | Eq =>
    simp only [cmpD] at hb
    split at hb
    · rename_i hc
      rw [Bool.and_eq_true] at hc
      cases hb
      exact rcAt_rv deep _ _ X.A s vv uu (rv_rs I hs rx rv hc.1) (rv_rs I hs ry ru hc.2) hc.1 hc.2 hu' X.prog X.w X.xe _ (fin_bl' I q)
    · cases hb
  | NotEq =>
    simp only [cmpD] at hb
    split at hb
    · rename_i hc
      rw [Bool.and_eq_true] at hc
      cases hb
      exact rcNe_rv deep _ _ X.A s vv uu (rv_rs I hs rx rv hc.1) (rv_rs I hs ry ru hc.2) hc.1 hc.2 hu' X.prog X.w X.xe _ (fin_bl' I q)
    · cases hb
  | Lt =>
    have gen : ∀ x y, Rp X.K m F H x v → Rp X.K m F H y u → (if (D.okd deep (rs S x) && D.okd deep (rs S y)) = true then D.ltv (rs S x) (rs S y) else none) = some k → wpAny (model X.prog X.w) X.A (compareOp .Lt vv uu) (EP X pins σ Q) X.xe s := by
      intro x y rx ry h
      split at h
      · rename_i hc
        rw [Bool.and_eq_true] at hc
        exact rcLt_rv deep _ _ X.A s vv uu k (rv_rs I hs rx rv hc.1) (rv_rs I hs ry ru hc.2) hc.1 hc.2 hu' h X.prog X.w X.xe _ (fin_bl' I q)
      · cases h
    cases x with
    | int i =>
      cases y with
      | int j =>
        rw [Rp] at rx ry; subst rx ry
        simp only [cmpD, Option.some.injEq] at hb; subst hb
        exact op_lt pins s σ H _ _ vv uu Q I rv ru ⟨i, j, rfl, rfl, q⟩
      | _ => exact gen _ _ rx ry (by simpa only [cmpD] using hb)
    | _ => exact gen _ _ rx ry (by simpa only [cmpD] using hb)
  | LtE =>
    cases x with
    | int i =>
      cases y with
      | int j =>
        rw [Rp] at rx ry; subst rx ry
        simp only [cmpD, Option.some.injEq] at hb; subst hb
        exact op_le pins s σ H _ _ vv uu Q I rv ru ⟨i, j, rfl, rfl, q⟩
      | _ => simp [cmpD] at hb
    | _ => simp [cmpD] at hb
  | Gt =>
    cases x with
    | int i =>
      cases y with
      | int j =>
        rw [Rp] at rx ry; subst rx ry
        simp only [cmpD, Option.some.injEq] at hb; subst hb
        exact op_gt pins s σ H _ _ vv uu Q I rv ru ⟨i, j, rfl, rfl, q⟩
      | _ => simp [cmpD] at hb
    | _ => simp [cmpD] at hb
  | GtE =>
    cases x with
    | int i =>
      cases y with
      | int j =>
        rw [Rp] at rx ry; subst rx ry
        simp only [cmpD, Option.some.injEq] at hb; subst hb
        exact op_ge pins s σ H _ _ vv uu Q I rv ru ⟨i, j, rfl, rfl, q⟩
      | _ => simp [cmpD] at hb
    | _ => simp [cmpD] at hb
  | In => exact (op_in hu I rv ru hs rx ry (by simpa only [cmpD] using hb)).1 q
  | NotIn =>
    simp only [cmpD, Option.map_eq_some_iff] at hb
    obtain ⟨k', h1, rfl⟩ := hb
    exact (op_in hu I rv ru hs rx ry h1).2 q
  | Is =>
    cases y with
    | non =>
      rw [Rp] at ry; subst ry
      simp only [cmpD, Option.some.injEq] at hb
      have e : decide (v = .non) = k := by
        rw [← hb]
        cases x <;> simp only [Rp] at rx <;> first | (subst rx; rfl) | (obtain ⟨a, _, rfl, _⟩ := rx; rfl) | (obtain ⟨a, _, rfl⟩ := rx; rfl) | (obtain ⟨a, rfl, _⟩ := rx; rfl)
      refine op_isN pins s σ H _ _ vv uu Q I rv ru ⟨rfl, ?_⟩
      rw [e]; exact q
    | bl c =>
      cases x with
      | bl d =>
        rw [Rp] at rx ry; subst rx ry
        simp only [cmpD, Option.some.injEq] at hb
        refine op_is_bl pins s σ H _ _ vv uu Q I rv ru ⟨d, c, rfl, rfl, ?_⟩
        rw [hb]; exact q
      | _ => simp [cmpD] at hb
    | _ => simp [cmpD] at hb
  | IsNot =>
    cases y with
    | non =>
      rw [Rp] at ry; subst ry
      simp only [cmpD, Option.some.injEq] at hb
      have e : (!decide (v = .non)) = k := by
        rw [← hb]
        cases x <;> simp only [Rp] at rx <;> first | (subst rx; rfl) | (obtain ⟨a, _, rfl, _⟩ := rx; rfl) | (obtain ⟨a, _, rfl⟩ := rx; rfl) | (obtain ⟨a, rfl, _⟩ := rx; rfl)
      refine op_notN pins s σ H _ _ vv uu Q I rv ru ⟨rfl, ?_⟩
      rw [e]; exact q
    | bl c =>
      cases x with
      | bl d =>
        rw [Rp] at rx ry; subst rx ry
        simp only [cmpD, Option.some.injEq] at hb
        refine op_isnot_bl pins s σ H _ _ vv uu Q I rv ru ⟨d, c, rfl, rfl, ?_⟩
        rw [hb]; exact q
      | _ => simp [cmpD] at hb
    | _ => simp [cmpD] at hb
end
end Rf


namespace Rf
open PySem PySem.Spec PyProof.Rows L2

section
variable {K : PySem.W.Frag} {m : List Addr} {F : Addr → Prop} {S : Store} {H : Hp}
theorem atI_rp {xs : List D} {vs : List V} {i : Int} {d : D} (h : Rps K m F H xs vs) (e : atI xs i = some d) : ∃ v, atI vs i = some v ∧ Rp K m F H d v := by
  unfold atI at e ⊢
  rw [h.len] at e
  cases q : ixN vs.length i with
  | none => rw [q] at e; cases e
  | some j =>
    rw [q] at e
    obtain ⟨v, h1, h2⟩ := h.get (i := j) e
    exact ⟨v, h1, h2⟩
theorem cut_rp {xs : List D} {vs : List V} {l u : Option Int} (h : Rps K m F H xs vs) : Rps K m F H (cutD xs l u) (cutV vs l u) := by
  unfold cutD cutV
  rw [h.len]
  exact (h.drop _).take _
end


def rIdx (K : PySem.W.Frag) : R2 := fun v u H Q => ∃ m F S x y d, Sm K m F S H ∧ Rp K m F H x v ∧ Rp K m F H y u ∧ idxD S x y = some d ∧ Out K m F S H d Q
section
variable {X : Cx}
theorem ix_rf : IxR X (rIdx X.K) := by
  intro value slice pins s σ H v u vv uu Q I rv ru h hsub
  obtain ⟨m, F, S, x, y, d, hs, rx, ry, hb, q⟩ := h
  cases y with
  | int k =>
    rw [Rp] at ry; subst ry
    have seq : (items S x).bind (fun xs => atI xs k) = some d → wpAny (model X.prog X.w) X.A (subscriptTail value slice vv uu) (EP X pins σ Q) X.xe s := by
      intro e
      obtain ⟨xs, h1, h2⟩ := Option.bind_eq_some_iff.mp e
      obtain ⟨a, vs, rfl, hq, hr⟩ := items_at hs rx h1
      obtain ⟨w, h3, h4⟩ := atI_rp hr h2
      rcases hq with hq | hq
      · exact ix_list value slice pins s σ H _ _ vv uu Q I rv ru ⟨a, vs, k, w, rfl, rfl, hq, h3, q.now hs h4⟩ hsub
      · exact ix_tup value slice pins s σ H _ _ vv uu Q I rv ru ⟨a, vs, k, w, rfl, rfl, hq, h3, q.now hs h4⟩ hsub
    cases x with
    | str z =>
      rw [Rp] at rx; subst rx
      simp only [idxD] at hb
      split at hb
      · rename_i hz
        obtain ⟨c, h1, rfl⟩ := Option.map_eq_some_iff.mp hb
        exact ix_str value slice pins s σ H _ _ vv uu Q I rv ru ⟨z, k, c, rfl, rfl, hz, h1, q.now hs rp_str⟩ hsub
      · cases hb
    | _ =>
      refine seq ?_
      simp only [idxD] at hb
      split at hb
      · rename_i xs e
        rw [e]; exact hb
      · cases hb
  | _ => simp [idxD] at hb
def rSlc (K : PySem.W.Frag) : V → Option Int → Option Int → Hp → VK → Prop := fun v lo hi H Q => ∃ m F S x d, Sm K m F S H ∧ Rp K m F H x v ∧ slcD x lo hi = some d ∧ Out K m F S H d Q
theorem cut_whole {xs : List D} {lo hi : Option Int} (h : HT.sIx xs.length 0 lo = 0 ∧ HT.sIx xs.length xs.length hi = xs.length) : cutD xs lo hi = xs := by
  unfold cutD
  rw [h.1, h.2]; simp
theorem sl_rf : L2.SlR X (rSlc X.K) := by
  intro pins s σ H v vv vl vu lo hi sl Q I rv hsl pl pu h
  obtain ⟨m, F, S, x, d, hs, rx, hb, q⟩ := h
  cases x with
  | str z =>
    rw [Rp] at rx; subst rx
    simp only [slcD] at hb
    split at hb
    · rename_i hz
      cases hb
      exact C8.sl_txt pins s σ H _ vv vl vu lo hi sl Q I rv hsl pl pu ⟨z, rfl, hz, q.now hs rp_str⟩
    · cases hb
  | tup xs =>
    have rx0 := rx
    rw [Rp] at rx
    obtain ⟨a, vs, rfl, ht, hx⟩ := rx
    simp only [slcD, Option.some.injEq] at hb
    subst hb
    refine sl_tupN pins s σ H _ vv vl vu lo hi sl Q I rv hsl pl pu ⟨a, vs, rfl, ht.1, fun e => ?_, fun _ => q.tupN hs (cut_rp hx)⟩
    rw [← hx.len] at e
    rw [cut_whole e] at q
    exact q.now hs rx0
  | _ => simp [slcD] at hb

def rSlL' (K : PySem.W.Frag) : V → Option Int → Option Int → Hp → VK → Prop := fun v lo hi H Q => ∃ m F S x xs, Sm K m F S H ∧ Rp K m F H x v ∧ ritems S x = some xs ∧ ∀ vs p, Rps K m F H (cutD xs lo hi) vs → H p = none → Q (.ref p) (upd H p (.lst vs))
theorem ritems_at {H : Hp} {m : List Addr} {F : Addr → Prop} {S : Store} (hs : Sm X.K m F S H) {d : D} {v : V} {xs : List D} (h : Rp X.K m F H d v) (k : ritems S d = some xs) : ∃ a vs, v = .ref a ∧ SqL X.K H a vs ∧ Rps X.K m F H xs vs := by
  cases d with
  | lst ys =>
    obtain ⟨a, vs, e, h1, h2⟩ := litems_at hs h (xs := xs) (by simpa [ritems, litems] using k)
    exact ⟨a, vs, e, SqL.of h1, h2⟩
  | ref j =>
    obtain ⟨a, vs, e, h1, h2⟩ := litems_at hs h (xs := xs) (by simpa [ritems, litems] using k)
    exact ⟨a, vs, e, SqL.of h1, h2⟩
  | fro ns =>
    rw [Rp] at h
    obtain ⟨a, rfl, h1⟩ := h
    simp only [ritems, Option.some.injEq] at k; subst k
    exact ⟨a, _, rfl, h1.sq, rps_ints ns⟩
  | _ => simp [ritems] at k
theorem slL_rf : L2.SlR X (rSlL' X.K) := by
  intro pins s σ H v vv vl vu lo hi sl Q I rv hsl pl pu h
  obtain ⟨m, F, S, x, xs, hs, rx, hb, q⟩ := h
  obtain ⟨a, vs, rfl, hq, hr⟩ := ritems_at hs rx hb
  exact sl_list pins s σ H _ vv vl vu lo hi sl Q I rv hsl pl pu ⟨a, vs, rfl, hq, fun p np => q _ p (cut_rp hr) np⟩


theorem tru_rf {H : Hp} {m : List Addr} {F : Addr → Prop} {S : Store} (hs : Sm X.K m F S H) {d : D} {v : V} {k : Bool} (h : Rp X.K m F H d v) (e : truth S d = some k) : TruV X.K v H k := by
  have emp : ∀ {xs : List D} {vs : List V}, Rps X.K m F H xs vs → (!xs.isEmpty) = !vs.isEmpty := fun {xs vs} r => by
    cases xs with
    | nil => rw [Rps.nil_iff.mp r]; rfl
    | cons x xs => obtain ⟨v, t, rfl, _, _⟩ := r.uncons; rfl
  cases d with
  | non => rw [Rp] at h; subst h; simp only [truth, Option.some.injEq] at e; exact e.symm
  | bl b => rw [Rp] at h; subst h; simp only [truth, Option.some.injEq] at e; exact e.symm
  | int i => rw [Rp] at h; subst h; simp only [truth, Option.some.injEq] at e; exact e.symm
  | str x =>
    rw [Rp] at h; subst h
    simp only [truth] at e
    split at e
    · rename_i hz; cases e; exact ⟨hz, rfl⟩
    · cases e
  | tup xs =>
    rw [Rp] at h
    obtain ⟨a, vs, rfl, ht, hx⟩ := h
    simp only [truth, Option.some.injEq] at e
    exact .inr (.inl ⟨vs, ht.1, by rw [← e]; exact emp hx⟩)
  | lst xs =>
    rw [Rp] at h
    obtain ⟨a, vs, rfl, ht, _, _, hx⟩ := h
    simp only [truth, Option.some.injEq] at e
    exact .inl ⟨vs, SqL.of ht, by rw [← e]; exact emp hx⟩
  | fro ns =>
    rw [Rp] at h
    obtain ⟨a, rfl, ht⟩ := h
    simp only [truth, Option.some.injEq] at e
    exact .inl ⟨_, ht.sq, by rw [← e]; cases ns <;> rfl⟩
  | ref j =>
    rw [Rp] at h
    obtain ⟨a, q, rfl⟩ := h
    simp only [truth] at e
    cases z : S[j]? with
    | none => rw [z] at e; cases e
    | some o =>
      rw [z] at e
      cases o with
      | lst xs =>
        have e' : some (!xs.isEmpty) = some k := e
        cases e'
        obtain ⟨vs, e2, rr⟩ := hs.obj j a _ q z
        exact .inl ⟨vs, SqL.of e2, emp rr⟩
      | dic _ => cases e
      | dks _ _ => cases e


def kitsOk (t : String) : Bool := ["NoneType", "bool", "int", "str", "tuple", "list"].all fun x => decide (kitB x t = some (t == x || (x == "bool" && t == "int")))
theorem kits_all : (["bool", "int", "str", "tuple", "list"].all kitsOk) = true := by decide +kernel
theorem kit_at {K : PySem.W.Frag} {x t : String} (hx : x ∈ ["NoneType", "bool", "int", "str", "tuple", "list"]) (ht : t ∈ ["bool", "int", "str", "tuple", "list"]) : PySem.W.kitOne K (.type x) (.type t) = some (t == x || (x == "bool" && t == "int")) := by
  have h1 := List.all_eq_true.mp kits_all t ht
  exact kit_ty (of_decide_eq_true (List.all_eq_true.mp h1 x hx))
theorem isi_rf {H : Hp} {v : V} {m : List Addr} {F : Addr → Prop} {S : Store} {d : D} {t : String} {k : Bool} (ht : t ∈ ["bool", "int", "str", "tuple", "list"])
    (hs : Sm X.K m F S H) (h : Rp X.K m F H d v) (e : isiD S t d = some k) : ∃ x, TyX X.K H v (.type x) ∧ PySem.W.kitOne X.K (.type x) (.type t) = some k := by
  have fin : ∀ x, x ∈ ["NoneType", "bool", "int", "str", "tuple", "list"] → TyX X.K H v (.type x) → (t == x || (x == "bool" && t == "int")) = k → ∃ x, TyX X.K H v (.type x) ∧ PySem.W.kitOne X.K (.type x) (.type t) = some k := fun x hx ty e => ⟨x, ty, by rw [← e]; exact kit_at hx ht⟩
  have tc : t = "bool" ∨ t = "int" ∨ t = "str" ∨ t = "tuple" ∨ t = "list" := by simpa using ht
  cases d with
  | non =>
    rw [Rp] at h; subst h
    simp only [isiD, Option.some.injEq] at e; subst e
    exact fin "NoneType" (by simp) (.base .non) (by rcases tc with rfl | rfl | rfl | rfl | rfl <;> decide)
  | bl b =>
    rw [Rp] at h; subst h
    simp only [isiD, Option.some.injEq] at e; subst e
    exact fin "bool" (by simp) (.base (.bl b)) (by rcases tc with rfl | rfl | rfl | rfl | rfl <;> decide)
  | int i =>
    rw [Rp] at h; subst h
    simp only [isiD, Option.some.injEq] at e; subst e
    exact fin "int" (by simp) (.base (.int i)) (by rcases tc with rfl | rfl | rfl | rfl | rfl <;> decide)
  | str x =>
    rw [Rp] at h; subst h
    simp only [isiD, Option.some.injEq] at e; subst e
    exact fin "str" (by simp) (.base (.str x)) (by rcases tc with rfl | rfl | rfl | rfl | rfl <;> decide)
  | tup xs =>
    rw [Rp] at h
    obtain ⟨a, vs, rfl, hq, _⟩ := h
    simp only [isiD, Option.some.injEq] at e; subst e
    refine fin "tuple" (by simp) ?_ (by rcases tc with rfl | rfl | rfl | rfl | rfl <;> decide)
    rcases hq with (hq | ⟨o, hq⟩) | ⟨o, its, n, h1, h2, _⟩
    · exact .base (.tup hq)
    · exact .fTuple hq
    · exact .kTuple h1 h2
  | lst xs =>
    rw [Rp] at h
    obtain ⟨a, vs, rfl, hq, _⟩ := h
    simp only [isiD, Option.some.injEq] at e; subst e
    exact fin "list" (by simp) (.base (.lst hq)) (by rcases tc with rfl | rfl | rfl | rfl | rfl <;> decide)
  | fro ns =>
    rw [Rp] at h
    obtain ⟨a, rfl, hq⟩ := h
    simp only [isiD, Option.some.injEq] at e; subst e
    refine fin "list" (by simp) ?_ (by rcases tc with rfl | rfl | rfl | rfl | rfl <;> decide)
    rcases hq with ⟨o, hq⟩ | ⟨o, its, n, h1, h2, _⟩
    · exact .base (.frz hq)
    · exact .kList h1 h2
  | ref j =>
    rw [Rp] at h
    obtain ⟨a, q, rfl⟩ := h
    simp only [isiD] at e
    cases z : S[j]? with
    | none => rw [z] at e; cases e
    | some o =>
      rw [z] at e
      cases o with
      | lst xs =>
        have e' : some (t == "list") = some k := e
        cases e'
        obtain ⟨vs, e2, rr⟩ := hs.obj j a _ q z
        exact fin "list" (by simp) (.base (.lst e2)) (by rcases tc with rfl | rfl | rfl | rfl | rfl <;> decide)
      | dic _ => cases e
      | dks _ _ => cases e


def rBi (K : PySem.W.Frag) (b : Bi) : List V → Hp → VK → Prop := fun vs H Q => ∃ m F S xs d, Sm K m F S H ∧ Rps K m F H xs vs ∧ biD b S xs = some d ∧ Out K m F S H d Q
theorem Rps.one {K : PySem.W.Frag} {m : List Addr} {F : Addr → Prop} {H : Hp} {x : D} {vs : List V} (h : Rps K m F H [x] vs) : ∃ v, vs = [v] ∧ Rp K m F H x v := by
  obtain ⟨v, r, rfl, a, b⟩ := h.uncons
  rw [Rps.nil_iff.mp b]; exact ⟨v, rfl, a⟩
theorem Rps.two {K : PySem.W.Frag} {m : List Addr} {F : Addr → Prop} {H : Hp} {x y : D} {vs : List V} (h : Rps K m F H [x, y] vs) : ∃ v u, vs = [v, u] ∧ Rp K m F H x v ∧ Rp K m F H y u := by
  obtain ⟨v, r, rfl, a, b⟩ := h.uncons
  obtain ⟨u, rfl, c⟩ := b.one
  exact ⟨v, u, rfl, a, c⟩
theorem bls_rp {K : PySem.W.Frag} {m : List Addr} {F : Addr → Prop} {H : Hp} : ∀ {xs : List D} {bs : List Bool} {vs : List V}, Rps K m F H xs vs → bls xs = some bs → vs = bs.map V.bl
  | [], bs, vs, h, e => by rw [Rps.nil_iff.mp h]; simp only [bls, Option.some.injEq] at e; subst e; rfl
  | x :: xs, bs, vs, h, e => by
    obtain ⟨v, r, rfl, a, b⟩ := h.uncons
    cases x with
    | bl k =>
      simp only [bls, Option.map_eq_some_iff] at e
      obtain ⟨t, e, rfl⟩ := e
      rw [Rp] at a; subst a
      rw [bls_rp b e]; rfl
    | _ => simp [bls] at e
theorem intL_rp {K : PySem.W.Frag} {m : List Addr} {F : Addr → Prop} {H : Hp} : ∀ {xs : List D} {bs : List Int} {vs : List V}, Rps K m F H xs vs → intL xs = some bs → vs = bs.map V.int
  | [], bs, vs, h, e => by rw [Rps.nil_iff.mp h]; simp only [intL, Option.some.injEq] at e; subst e; rfl
  | x :: xs, bs, vs, h, e => by
    obtain ⟨v, r, rfl, a, b⟩ := h.uncons
    cases x with
    | int k =>
      simp only [intL, Option.map_eq_some_iff] at e
      obtain ⟨t, e, rfl⟩ := e
      rw [Rp] at a; subst a
      rw [intL_rp b e]; rfl
    | _ => simp [intL] at e
theorem strL_rp {K : PySem.W.Frag} {m : List Addr} {F : Addr → Prop} {H : Hp} : ∀ {xs : List D} {bs : List Str} {vs : List V}, Rps K m F H xs vs → strL xs = some bs → vs = bs.map V.str
  | [], bs, vs, h, e => by rw [Rps.nil_iff.mp h]; simp only [strL, Option.some.injEq] at e; subst e; rfl
  | x :: xs, bs, vs, h, e => by
    obtain ⟨v, r, rfl, a, b⟩ := h.uncons
    cases x with
    | str k =>
      simp only [strL, Option.map_eq_some_iff] at e
      obtain ⟨t, e, rfl⟩ := e
      rw [Rp] at a; subst a
      rw [strL_rp b e]; rfl
    | _ => simp [strL] at e
theorem cr_len_rf : CallR X (.builtin "len") (rBi X.K .len) := by
  intro pins s σ H vs us Q I r h
  obtain ⟨m, F, S, xs, d, hs, rx, hb, q⟩ := h
  have gen : ∀ a, Rps X.K m F H [a] vs → (items S a).map (fun xs => D.int xs.length) = some d → wpAny (model X.prog X.w) X.A (call (.builtin "len") us) (EP X pins σ Q) X.xe s := by
    intro a ra e
    obtain ⟨ys, h1, rfl⟩ := Option.map_eq_some_iff.mp e
    obtain ⟨v, rfl, rv⟩ := ra.one
    obtain ⟨b, ws, rfl, hq, hr⟩ := items_at hs rv h1
    exact call_len_seq pins s σ H _ us Q I r ⟨b, ws, rfl, hq, by rw [← hr.len]; exact q.now hs rp_int⟩
  cases xs with
  | nil => simp [biD] at hb
  | cons x xs =>
    cases xs with
    | cons y ys => simp [biD] at hb
    | nil =>
      cases x with
      | str z =>
        simp only [biD] at hb
        split at hb
        · rename_i hz
          cases hb
          obtain ⟨v, rfl, rv⟩ := rx.one
          rw [Rp] at rv; subst rv
          exact call_len_str pins s σ H _ us Q I r ⟨z, rfl, hz, q.now hs rp_int⟩
        · cases hb
      | _ =>
        refine gen _ rx ?_
        simp only [biD] at hb
        split at hb
        · rename_i xs e
          rw [e]; exact hb
        · cases hb
theorem one_of {b : Bi} {S : Store} {xs : List D} {d : D} (hb : biD b S xs = some d) (h : b = .all ∨ b = .any ∨ b = .tuple ∨ b = .sum) : ∃ a, xs = [a] := by
  cases xs with
  | nil => rcases h with rfl | rfl | rfl | rfl <;> simp [biD] at hb
  | cons x xs =>
    cases xs with
    | nil => exact ⟨x, rfl⟩
    | cons y ys => rcases h with rfl | rfl | rfl | rfl <;> simp [biD] at hb
theorem cr_all_rf (hc : X.calm = true) : CallR X (.builtin "all") (rBi X.K .all) := by
  intro pins s σ H vs us Q I r h
  obtain ⟨m, F, S, xs, d, hs, rx, hb, q⟩ := h
  obtain ⟨a, rfl⟩ := one_of hb (.inl rfl)
  simp only [biD] at hb
  split at hb
  · rename_i ys e
    obtain ⟨bs, h1, rfl⟩ := Option.map_eq_some_iff.mp hb
    obtain ⟨v, rfl, rv⟩ := rx.one
    obtain ⟨b, ws, rfl, hq, hr⟩ := litems_at hs rv e
    rw [bls_rp hr h1] at hq
    exact cr_all hc pins s σ H _ us Q I r ⟨b, bs, rfl, SqL.of hq, q.now hs rp_bl⟩
  · cases hb
theorem cr_any_rf (hc : X.calm = true) : CallR X (.builtin "any") (rBi X.K .any) := by
  intro pins s σ H vs us Q I r h
  obtain ⟨m, F, S, xs, d, hs, rx, hb, q⟩ := h
  obtain ⟨a, rfl⟩ := one_of hb (.inr (.inl rfl))
  simp only [biD] at hb
  split at hb
  · rename_i ys e
    obtain ⟨bs, h1, rfl⟩ := Option.map_eq_some_iff.mp hb
    obtain ⟨v, rfl, rv⟩ := rx.one
    obtain ⟨b, ws, rfl, hq, hr⟩ := litems_at hs rv e
    rw [bls_rp hr h1] at hq
    exact cr_any hc pins s σ H _ us Q I r ⟨b, bs, rfl, SqL.of hq, q.now hs rp_bl⟩
  · cases hb
theorem cr_sum_rf (hc : X.calm = true) : CallR X (.builtin "sum") (rBi X.K .sum) := by
  intro pins s σ H vs us Q I r h
  obtain ⟨m, F, S, xs, d, hs, rx, hb, q⟩ := h
  obtain ⟨a, rfl⟩ := one_of hb (.inr (.inr (.inr rfl)))
  simp only [biD] at hb
  split at hb
  · rename_i ys e
    obtain ⟨bs, h1, rfl⟩ := Option.map_eq_some_iff.mp hb
    obtain ⟨v, rfl, rv⟩ := rx.one
    obtain ⟨b, ws, rfl, hq, hr⟩ := litems_at hs rv e
    rw [intL_rp hr h1] at hq
    exact cr_sum hc pins s σ H _ us Q I r ⟨b, bs, rfl, SqL.of hq, q.now hs rp_int⟩
  · cases hb
theorem seq_at {m : List Addr} {F : Addr → Prop} {S : Store} {H : Hp} (hs : Sm X.K m F S H) {d : D} {v : V} {xs : List D} (h : Rp X.K m F H d v) (k : items S d = some xs) :
    (∃ a vs, v = .ref a ∧ SqL X.K H a vs ∧ Rps X.K m F H xs vs) ∨ ∃ a vs, v = .ref a ∧ SqT X.K H a vs ∧ d = .tup xs := by
  cases d with
  | tup ys =>
    rw [Rp] at h
    obtain ⟨a, vs, rfl, h1, h2⟩ := h
    simp only [items, Option.some.injEq] at k; subst k
    exact .inr ⟨a, vs, rfl, h1.1, rfl⟩
  | lst ys => obtain ⟨a, vs, e, h1, h2⟩ := litems_at hs h (xs := xs) (by simpa [items, litems] using k); exact .inl ⟨a, vs, e, SqL.of h1, h2⟩
  | fro ns =>
    rw [Rp] at h
    obtain ⟨a, rfl, h1⟩ := h
    simp only [items, Option.some.injEq] at k; subst k
    exact .inl ⟨a, _, rfl, h1.sq, rps_ints ns⟩
  | ref j => obtain ⟨a, vs, e, h1, h2⟩ := litems_at hs h (xs := xs) (by simpa [items, litems] using k); exact .inl ⟨a, vs, e, SqL.of h1, h2⟩
  | _ => simp [items] at k
theorem cr_tuple_rf : CallR X (.type "tuple") (rBi X.K .tuple) := by
  intro pins s σ H vs us Q I r h
  obtain ⟨m, F, S, xs, d, hs, rx, hb, q⟩ := h
  obtain ⟨a, rfl⟩ := one_of hb (.inr (.inr (.inl rfl)))
  simp only [biD, Option.map_eq_some_iff] at hb
  obtain ⟨ys, e, rfl⟩ := hb
  obtain ⟨v, rfl, rv⟩ := rx.one
  rcases seq_at hs rv e with ⟨b, ws, rfl, hq, hr⟩ | ⟨b, ws, rfl, hq, ea⟩
  · exact call_tupN pins s σ H _ us Q I r ⟨b, ws, rfl, .inl ⟨hq, q.tupN hs hr⟩⟩
  · rw [ea] at rv
    exact call_tupN pins s σ H _ us Q I r ⟨b, ws, rfl, .inr ⟨hq, q.now hs rv⟩⟩
theorem cr_int_rf : CallR X (.type "int") (rBi X.K .int) := by
  intro pins s σ H vs us Q I r h
  obtain ⟨m, F, S, xs, d, hs, rx, hb, q⟩ := h
  cases xs with
  | nil => simp [biD] at hb
  | cons x xs =>
    cases xs with
    | cons y ys => cases x <;> simp [biD] at hb
    | nil =>
      obtain ⟨v, rfl, rv⟩ := rx.one
      cases x with
      | int i =>
        simp only [biD, Option.some.injEq] at hb; subst hb
        rw [Rp] at rv; subst rv
        exact call_int1 pins s σ H _ us Q I r (.inl ⟨i, rfl, q.now hs rp_int⟩)
      | bl i =>
        simp only [biD, Option.some.injEq] at hb; subst hb
        rw [Rp] at rv; subst rv
        exact call_int1 pins s σ H _ us Q I r (.inr ⟨i, rfl, q.now hs rp_int⟩)
      | str a =>
        simp only [biD] at hb
        split at hb
        · rename_i hz
          obtain ⟨n, h1, rfl⟩ := Option.map_eq_some_iff.mp hb
          rw [Rp] at rv; subst rv
          exact call_int_str pins s σ H _ us Q I r ⟨a, n, rfl, h1, hz, q.now hs rp_int⟩
        · cases hb
      | _ => simp [biD] at hb
theorem cr_str_rf : CallR X (.type "str") (rBi X.K .str) := by
  intro pins s σ H vs us Q I r h
  obtain ⟨m, F, S, xs, d, hs, rx, hb, q⟩ := h
  cases xs with
  | nil => simp [biD] at hb
  | cons x xs =>
    cases xs with
    | cons y ys => cases x <;> simp [biD] at hb
    | nil =>
      obtain ⟨v, rfl, rv⟩ := rx.one
      cases x with
      | int i =>
        simp only [biD] at hb
        split at hb
        · rename_i hz
          cases hb
          rw [Rp] at rv; subst rv
          exact call_str_int pins s σ H _ us Q I r ⟨i, rfl, hz, q.now hs rp_str⟩
        · cases hb
      | str a =>
        simp only [biD, Option.some.injEq] at hb; subst hb
        rw [Rp] at rv; subst rv
        exact SkE.call_str_str pins s σ H _ us Q I r ⟨a, rfl, q.now hs rp_str⟩
      | _ => simp [biD] at hb
theorem hold_ints {h : Heap} : ∀ {vs : List Value} {ns : List Int}, Vals (ns.map V.int) vs → PySem.W.HoldAll (α := Int) h vs ns
  | _, [], .nil => ⟨[], .nil⟩
  | _, n :: ns, .cons r1 r2 => by
    obtain ⟨t, rfl⟩ := r1
    obtain ⟨as, z⟩ := hold_ints (h := h) r2
    exact ⟨_, .cons (.int n t) z⟩
theorem holds_int {h : Heap} {v : Value} {n : Int} (q : PySem.W.Holds (α := Int) h v n) : ∃ t, v = .int n t := by
  obtain ⟨as, r⟩ := q
  cases r with
  | int i t => exact ⟨t, rfl⟩
theorem foldl_max (x : Int) : ∀ xs : List Int, xs.foldl (fun a y => if PySem.W.DatumOrd.lt a y = true then y else a) x = xs.foldl max x := fun xs => by
  congr 1
  funext a y
  show (if decide (a < y) = true then y else a) = max a y
  by_cases h : a < y
  · rw [if_pos (decide_eq_true h)]; omega
  · rw [if_neg (by simpa using h)]; omega
theorem foldl_min (x : Int) : ∀ xs : List Int, xs.foldl (fun a y => if PySem.W.DatumOrd.lt y a = true then y else a) x = xs.foldl min x := fun xs => by
  congr 1
  funext a y
  show (if decide (y < a) = true then y else a) = min a y
  by_cases h : y < a
  · rw [if_pos (decide_eq_true h)]; omega
  · rw [if_neg (by simpa using h)]; omega
theorem cr_max_seq (hc : X.calm = true) (hu : X.A.units + 64 < cLine) {pins : List (Addr × Obj)} {s : Shared} {σ : L2.St} {H : Hp} {a : Addr} {us : List Value} {ns : List Int} {M : Int} {Q : VK} (I : Inv X pins σ H s) (r : Vals [.ref a] us)
    (hq : SqL X.K H a (ns.map V.int) ∨ SqT X.K H a (ns.map V.int)) (e : maxL ns = some M) (q : Q (.int M) H) : wpAny (model X.prog X.w) X.A (call (.builtin "max") us) (EP X pins σ Q) X.xe s := by
  rw [Vals.ref1 r]
  cases ns with
  | nil => cases e
  | cons x xs =>
    have e' : M = PySem.W.maxOf x xs := by
      have e1 : some (xs.foldl max x) = some M := e
      cases e1
      exact (foldl_max x xs).symm
    have hd0 : PySem.W.Datum.depth Int ≤ 1 := by decide +kernel
    have hd : X.A.units + 1 + PySem.W.Datum.depth Int < cLine := by omega
    rcases hq with hq | hq
    · obtain ⟨its, rv, hl, _⟩ := I.list hq
      refine PySem.W.max_list_datum (α := Int) (x := x) (xs := xs) (I.ok.hd hc) hl.isList (by simpa using hold_ints rv) hd fun i v h' tk _ hv hk => ?_
      obtain ⟨t, rfl⟩ := holds_int hv
      exact ⟨.int M, H, I.kept hk, ⟨t, by rw [e']⟩, q⟩
    · obtain ⟨its, rv, hl, _⟩ := I.tuple hq
      refine PySem.W.max_tuple_datum (α := Int) (x := x) (xs := xs) (I.ok.hd hc) hl (by simpa using hold_ints rv) hd fun i v h' tk _ hv hk => ?_
      obtain ⟨t, rfl⟩ := holds_int hv
      exact ⟨.int M, H, I.kept hk, ⟨t, by rw [e']⟩, q⟩
theorem cr_min_seq (hc : X.calm = true) (hu : X.A.units + 64 < cLine) {pins : List (Addr × Obj)} {s : Shared} {σ : L2.St} {H : Hp} {a : Addr} {us : List Value} {ns : List Int} {M : Int} {Q : VK} (I : Inv X pins σ H s) (r : Vals [.ref a] us)
    (hq : SqL X.K H a (ns.map V.int) ∨ SqT X.K H a (ns.map V.int)) (e : minL ns = some M) (q : Q (.int M) H) : wpAny (model X.prog X.w) X.A (call (.builtin "min") us) (EP X pins σ Q) X.xe s := by
  rw [Vals.ref1 r]
  cases ns with
  | nil => cases e
  | cons x xs =>
    have e' : M = PySem.W.minOf x xs := by
      have e1 : some (xs.foldl min x) = some M := e
      cases e1
      exact (foldl_min x xs).symm
    have hd0 : PySem.W.Datum.depth Int ≤ 1 := by decide +kernel
    have hd : X.A.units + 1 + PySem.W.Datum.depth Int < cLine := by omega
    rcases hq with hq | hq
    · obtain ⟨its, rv, hl, _⟩ := I.list hq
      refine PySem.W.min_list_datum (α := Int) (x := x) (xs := xs) (I.ok.hd hc) hl.isList (by simpa using hold_ints rv) hd fun i v h' tk _ hv hk => ?_
      obtain ⟨t, rfl⟩ := holds_int hv
      exact ⟨.int M, H, I.kept hk, ⟨t, by rw [e']⟩, q⟩
    · obtain ⟨its, rv, hl, _⟩ := I.tuple hq
      refine PySem.W.min_tuple_datum (α := Int) (x := x) (xs := xs) (I.ok.hd hc) hl (by simpa using hold_ints rv) hd fun i v h' tk _ hv hk => ?_
      obtain ⟨t, rfl⟩ := holds_int hv
      exact ⟨.int M, H, I.kept hk, ⟨t, by rw [e']⟩, q⟩
theorem cr_max_rf (hc : X.calm = true) (hu : X.A.units + 64 < cLine) : CallR X (.builtin "max") (rBi X.K .max) := by
  intro pins s σ H vs us Q I r h
  obtain ⟨m, F, S, xs, d, hs, rx, hb, q⟩ := h
  have one : ∀ a, Rps X.K m F H [a] vs → ((items S a).bind fun xs => (intL xs).bind fun is => (maxL is).map D.int) = some d → wpAny (model X.prog X.w) X.A (call (.builtin "max") us) (EP X pins σ Q) X.xe s := by
    intro a ra e
    obtain ⟨ys, e1, e⟩ := Option.bind_eq_some_iff.mp e
    obtain ⟨is, e2, e⟩ := Option.bind_eq_some_iff.mp e
    obtain ⟨M, e3, rfl⟩ := Option.map_eq_some_iff.mp e
    obtain ⟨v, rfl, rv⟩ := ra.one
    obtain ⟨b, ws, rfl, hq, hr⟩ := items_at hs rv e1
    rw [intL_rp hr e2] at hq
    exact cr_max_seq hc hu I r hq e3 (q.now hs rp_int)
  cases xs with
  | nil => simp [biD] at hb
  | cons x xs =>
    cases xs with
    | nil => exact one x rx (by cases x <;> simpa only [biD] using hb)
    | cons y ys =>
      cases ys with
      | cons z zs => cases x <;> cases y <;> simp [biD] at hb
      | nil =>
        obtain ⟨v, u, rfl, rv, ru⟩ := rx.two
        cases x with
        | int i =>
          cases y with
          | int j =>
            simp only [biD, Option.some.injEq] at hb; subst hb
            rw [Rp] at rv ru; subst rv ru
            exact call_max2 hc pins s σ H _ us Q I r ⟨i, j, rfl, q.now hs rp_int⟩
          | _ => simp [biD] at hb
        | _ => simp [biD] at hb
theorem cr_min_rf (hc : X.calm = true) (hu : X.A.units + 64 < cLine) : CallR X (.builtin "min") (rBi X.K .min) := by
  intro pins s σ H vs us Q I r h
  obtain ⟨m, F, S, xs, d, hs, rx, hb, q⟩ := h
  have one : ∀ a, Rps X.K m F H [a] vs → ((items S a).bind fun xs => (intL xs).bind fun is => (minL is).map D.int) = some d → wpAny (model X.prog X.w) X.A (call (.builtin "min") us) (EP X pins σ Q) X.xe s := by
    intro a ra e
    obtain ⟨ys, e1, e⟩ := Option.bind_eq_some_iff.mp e
    obtain ⟨is, e2, e⟩ := Option.bind_eq_some_iff.mp e
    obtain ⟨M, e3, rfl⟩ := Option.map_eq_some_iff.mp e
    obtain ⟨v, rfl, rv⟩ := ra.one
    obtain ⟨b, ws, rfl, hq, hr⟩ := items_at hs rv e1
    rw [intL_rp hr e2] at hq
    exact cr_min_seq hc hu I r hq e3 (q.now hs rp_int)
  cases xs with
  | nil => simp [biD] at hb
  | cons x xs =>
    cases xs with
    | nil => exact one x rx (by cases x <;> simpa only [biD] using hb)
    | cons y ys =>
      cases ys with
      | cons z zs => cases x <;> cases y <;> simp [biD] at hb
      | nil =>
        obtain ⟨v, u, rfl, rv, ru⟩ := rx.two
        cases x with
        | int i =>
          cases y with
          | int j =>
            simp only [biD, Option.some.injEq] at hb; subst hb
            rw [Rp] at rv ru; subst rv ru
            exact call_min2 hc pins s σ H _ us Q I r ⟨i, j, rfl, q.now hs rp_int⟩
          | _ => simp [biD] at hb
        | _ => simp [biD] at hb


def rMt (K : PySem.W.Frag) (b : Bi) : V → List V → Hp → VK → Prop := fun v vs H Q => rBi K b (v :: vs) H Q
theorem mt_str2 {b : Bi} {S : Store} {xs : List D} {d : D} (hb : biD b S xs = some d) (h : b = .startswith ∨ b = .partition ∨ b = .find ∨ b = .count ∨ b = .index) : ∃ a c, xs = [.str a, .str c] := by
  cases xs with
  | nil => rcases h with rfl | rfl | rfl | rfl | rfl <;> simp [biD] at hb
  | cons x xs =>
    cases xs with
    | nil => rcases h with rfl | rfl | rfl | rfl | rfl <;> cases x <;> simp [biD] at hb
    | cons y ys =>
      cases ys with
      | cons z zs => rcases h with rfl | rfl | rfl | rfl | rfl <;> cases x <;> cases y <;> simp [biD] at hb
      | nil =>
        cases x with
        | str a =>
          cases y with
          | str c => exact ⟨a, c, rfl⟩
          | _ => rcases h with rfl | rfl | rfl | rfl | rfl <;> simp [biD] at hb
        | _ => rcases h with rfl | rfl | rfl | rfl | rfl <;> simp [biD] at hb
theorem mt_startswith_rf : L2.MtR X "str.startswith" (rMt X.K .startswith) := by
  intro pins s σ H v vs vv us Q I rv rvs h
  obtain ⟨m, F, S, xs, d, hs, rx, hb, q⟩ := h
  obtain ⟨a, c, rfl⟩ := mt_str2 hb (.inl rfl)
  obtain ⟨v', u', e, r1, r2⟩ := rx.two
  cases e
  rw [Rp] at r1 r2; subst r1 r2
  simp only [biD, Option.some.injEq] at hb; subst hb
  exact mt_startswith pins s σ H _ _ vv us Q I rv rvs ⟨a, c, rfl, rfl, q.now hs rp_bl⟩
theorem mt_find_rf : L2.MtR X "str.find" (rMt X.K .find) := by
  intro pins s σ H v vs vv us Q I rv rvs h
  obtain ⟨m, F, S, xs, d, hs, rx, hb, q⟩ := h
  obtain ⟨a, c, rfl⟩ := mt_str2 hb (.inr (.inr (.inl rfl)))
  obtain ⟨v', u', e, r1, r2⟩ := rx.two
  cases e
  rw [Rp] at r1 r2; subst r1 r2
  simp only [biD, Option.some.injEq] at hb; subst hb
  exact mt_find pins s σ H _ _ vv us Q I rv rvs ⟨a, c, rfl, rfl, q.now hs rp_int⟩
theorem mt_index_rf : L2.MtR X "str.index" (rMt X.K .index) := by
  intro pins s σ H v vs vv us Q I rv rvs h
  obtain ⟨m, F, S, xs, d, hs, rx, hb, q⟩ := h
  obtain ⟨a, c, rfl⟩ := mt_str2 hb (.inr (.inr (.inr (.inr rfl))))
  obtain ⟨v', u', e, r1, r2⟩ := rx.two
  cases e
  rw [Rp] at r1 r2; subst r1 r2
  simp only [biD] at hb
  split at hb
  · rename_i i rest ho
    cases hb
    exact mt_sindex pins s σ H _ _ vv us Q I rv rvs ⟨a, c, i, rest, rfl, rfl, ho, q.now hs rp_int⟩
  · cases hb
theorem mt_count_rf : L2.MtR X "str.count" (rMt X.K .count) := by
  intro pins s σ H v vs vv us Q I rv rvs h
  obtain ⟨m, F, S, xs, d, hs, rx, hb, q⟩ := h
  obtain ⟨a, c, rfl⟩ := mt_str2 hb (.inr (.inr (.inr (.inl rfl))))
  obtain ⟨v', u', e, r1, r2⟩ := rx.two
  cases e
  rw [Rp] at r1 r2; subst r1 r2
  simp only [biD, Option.some.injEq] at hb; subst hb
  exact mt_count pins s σ H _ _ vv us Q I rv rvs ⟨a, c, rfl, rfl, q.now hs rp_int⟩
theorem mt_partition_rf : L2.MtR X "str.partition" (rMt X.K .partition) := by
  intro pins s σ H v vs vv us Q I rv rvs h
  obtain ⟨m, F, S, xs, d, hs, rx, hb, q⟩ := h
  obtain ⟨a, c, rfl⟩ := mt_str2 hb (.inr (.inl rfl))
  obtain ⟨v', u', e, r1, r2⟩ := rx.two
  cases e
  rw [Rp] at r1 r2; subst r1 r2
  simp only [biD] at hb
  split at hb
  · rename_i hz
    cases hb
    exact mt_partition pins s σ H _ _ vv us Q I rv rvs ⟨a, c, rfl, rfl, hz.1, hz.2, fun p np => q.tup hs (.cons rp_str (.cons rp_str (.cons rp_str .nil))) rfl np⟩
  · cases hb
theorem mt_join_rf : L2.MtR X "str.join" (rMt X.K .join) := by
  intro pins s σ H v vs vv us Q I rv rvs h
  obtain ⟨m, F, S, xs, d, hs, rx, hb, q⟩ := h
  cases xs with
  | nil => simp [biD] at hb
  | cons x xs =>
    cases xs with
    | nil => cases x <;> simp [biD] at hb
    | cons y ys =>
      cases ys with
      | cons z zs => cases x <;> simp [biD] at hb
      | nil =>
        obtain ⟨v', u', e, r1, r2⟩ := rx.two
        cases e
        cases x with
        | str a =>
          simp only [biD] at hb
          split at hb
          · rename_i zs e
            obtain ⟨ts, e2, hb⟩ := Option.bind_eq_some_iff.mp hb
            split at hb
            · rename_i hz
              cases hb
              rw [Rp] at r1; subst r1
              obtain ⟨b, ws, rfl, hq, hr⟩ := items_at hs r2 e
              rw [strL_rp hr e2] at hq
              exact mt_join pins s σ H _ _ vv us Q I rv rvs ⟨a, b, ts, rfl, rfl, hq, hz, q.now hs rp_str⟩
            · cases hb
          · cases hb
        | _ => simp [biD] at hb

def rMu (K : PySem.W.Frag) (mu : Mu) : V → List V → Hp → VK → Prop := fun v vs H Q => ∃ m F S x xs d S', Sm K m F S H ∧ Rp K m F H x v ∧ Rps K m F H xs vs ∧ mutD mu S x xs = some (d, S') ∧
  ∀ H' w, Grow m H m H' → Sm K m F S' H' → Rp K m F H' d w → Q w H'
theorem mut_at {H : Hp} {m : List Addr} {F : Addr → Prop} {S : Store} (hs : Sm X.K m F S H) {mu : Mu} {x : D} {xs : List D} {z : D × Store} {v : V} (rv : Rp X.K m F H x v) (e : mutD mu S x xs = some z) :
    ∃ n a ys vs, x = .ref n ∧ v = .ref a ∧ m[n]? = some a ∧ S[n]? = some (.lst ys) ∧ H a = some (.lst vs) ∧ Rps X.K m F H ys vs := by
  cases x with
  | ref n =>
    rw [Rp] at rv
    obtain ⟨a, h1, rfl⟩ := rv
    simp only [mutD] at e
    cases z : S[n]? with
    | none => rw [z] at e; cases e
    | some o =>
      rw [z] at e
      cases o with
      | lst ys =>
        obtain ⟨vs, e2, rr⟩ := hs.obj n a _ h1 z
        exact ⟨n, a, ys, vs, rfl, rfl, h1, z, e2, rr⟩
      | dic _ => cases e
      | dks _ _ => cases e
  | _ => simp [mutD] at e
theorem mt_append_rf : L2.MtM X "list.append" (rMu X.K .append) := by
  intro pins s σ H v vs vv us Q I rv rvs h
  obtain ⟨m, F, S, x, xs, d, S', hs, rx, rxs, hb, q⟩ := h
  obtain ⟨n, a, ys, ws, rfl, rfl, h1, h2, h3, h4⟩ := mut_at hs rx hb
  cases xs with
  | nil => simp [mutD, h2] at hb
  | cons y r =>
    cases r with
    | cons _ _ => simp [mutD, h2] at hb
    | nil =>
      obtain ⟨u, rfl, ru⟩ := rxs.one
      simp only [mutD, h2] at hb
      split at hb
      · rename_i hz
        cases hb
        obtain ⟨g, s2⟩ := hs.put h1 (h4.app (.cons ru .nil))
        exact mt_append pins s σ H _ _ vv us Q I rv rvs ⟨a, ws, u, rfl, rfl, h3, by rw [← h4.len]; exact hz, q _ _ g s2 rp_non⟩
      · cases hb
theorem mt_extend_rf : L2.MtM X "list.extend" (rMu X.K .extend) := by
  intro pins s σ H v vs vv us Q I rv rvs h
  obtain ⟨m, F, S, x, xs, d, S', hs, rx, rxs, hb, q⟩ := h
  obtain ⟨n, a, ys, ws, rfl, rfl, h1, h2, h3, h4⟩ := mut_at hs rx hb
  cases xs with
  | nil => simp [mutD, h2] at hb
  | cons y r =>
    cases r with
    | cons _ _ => simp [mutD, h2] at hb
    | nil =>
      obtain ⟨u, rfl, ru⟩ := rxs.one
      simp only [mutD, h2] at hb
      cases e : litems S y with
      | none => rw [e] at hb; cases hb
      | some zs =>
        rw [e] at hb
        simp only [Option.bind_some] at hb
        split at hb
        · rename_i hz
          cases hb
          obtain ⟨b, ts, rfl, k1, k2⟩ := litems_at hs ru e
          obtain ⟨g, s2⟩ := hs.put h1 (h4.app k2)
          exact mt_extend pins s σ H _ _ vv us Q I rv rvs ⟨a, b, ws, ts, rfl, rfl, h3, k1, by rw [← h4.len, ← k2.len]; exact hz, q _ _ g s2 rp_non⟩
        · cases hb
theorem mt_insert_rf : L2.MtR X "list.insert" (rMu X.K .insert) := by
  intro pins s σ H v vs vv us Q I rv rvs h
  obtain ⟨m, F, S, x, xs, d, S', hs, rx, rxs, hb, q⟩ := h
  obtain ⟨n, a, ys, ws, rfl, rfl, h1, h2, h3, h4⟩ := mut_at hs rx hb
  cases xs with
  | nil => simp [mutD, h2] at hb
  | cons i r =>
    cases r with
    | nil => cases i <;> simp [mutD, h2] at hb
    | cons y r =>
      cases r with
      | cons _ _ => cases i <;> simp [mutD, h2] at hb
      | nil =>
        obtain ⟨w, u, rfl, rw', ru⟩ := rxs.two
        cases i with
        | int k =>
          simp only [mutD, h2] at hb
          split at hb
          · rename_i hz
            cases hb
            rw [Rp] at rw'; subst rw'
            obtain ⟨g, s2⟩ := hs.put h1 (((h4.take k.toNat).app (.cons ru .nil)).app (h4.drop k.toNat))
            exact mt_insert pins s σ H _ _ vv us Q I rv rvs ⟨a, ws, k, u, rfl, rfl, h3, by rw [← h4.len]; exact hz.1, hz.2.1, hz.2.2, q _ _ g s2 rp_non⟩
          · cases hb
        | _ => simp [mutD, h2] at hb
theorem mt_clear_rf : L2.MtM X "list.clear" (rMu X.K .clear) := by
  intro pins s σ H v vs vv us Q I rv rvs h
  obtain ⟨m, F, S, x, xs, d, S', hs, rx, rxs, hb, q⟩ := h
  obtain ⟨n, a, ys, ws, rfl, rfl, h1, h2, h3, h4⟩ := mut_at hs rx hb
  cases xs with
  | cons _ _ => simp [mutD, h2] at hb
  | nil =>
    have := Rps.nil_iff.mp rxs
    subst this
    simp only [mutD, h2, Option.some.injEq, Prod.mk.injEq] at hb
    obtain ⟨rfl, rfl⟩ := hb
    obtain ⟨g, s2⟩ := hs.put h1 (Rps.nil (K := X.K) (m := m) (F := F) (H := H))
    exact mt_clear pins s σ H _ _ vv us Q I rv rvs ⟨a, ws, rfl, rfl, h3, q _ _ g s2 rp_non⟩
theorem mt_reverse_rf : L2.MtM X "list.reverse" (rMu X.K .reverse) := by
  intro pins s σ H v vs vv us Q I rv rvs h
  obtain ⟨m, F, S, x, xs, d, S', hs, rx, rxs, hb, q⟩ := h
  obtain ⟨n, a, ys, ws, rfl, rfl, h1, h2, h3, h4⟩ := mut_at hs rx hb
  cases xs with
  | cons _ _ => simp [mutD, h2] at hb
  | nil =>
    have := Rps.nil_iff.mp rxs
    subst this
    simp only [mutD, h2, Option.some.injEq, Prod.mk.injEq] at hb
    obtain ⟨rfl, rfl⟩ := hb
    obtain ⟨g, s2⟩ := hs.put h1 h4.rev
    exact mt_reverse pins s σ H _ _ vv us Q I rv rvs ⟨a, ws, rfl, rfl, h3, q _ _ g s2 rp_non⟩
theorem dropLast_rp {K : PySem.W.Frag} {m : List Addr} {F : Addr → Prop} {H : Hp} {xs : List D} {vs : List V} (h : Rps K m F H xs vs) : Rps K m F H xs.dropLast vs.dropLast := by
  rw [List.dropLast_eq_take, List.dropLast_eq_take, h.len]
  exact h.take _
theorem mt_pop_rf : L2.MtM X "list.pop" (rMu X.K .pop) := by
  intro pins s σ H v vs vv us Q I rv rvs h
  obtain ⟨m, F, S, x, xs, d, S', hs, rx, rxs, hb, q⟩ := h
  obtain ⟨n, a, ys, ws, rfl, rfl, h1, h2, h3, h4⟩ := mut_at hs rx hb
  cases xs with
  | cons _ _ => simp [mutD, h2] at hb
  | nil =>
    have := Rps.nil_iff.mp rxs
    subst this
    simp only [mutD, h2] at hb
    split at hb
    · rename_i y e
      cases hb
      rw [List.getLast?_eq_getElem?] at e
      rw [h4.len] at e
      obtain ⟨w, k1, k2⟩ := h4.get e
      obtain ⟨g, s2⟩ := hs.put h1 (dropLast_rp h4)
      exact mt_pop pins s σ H _ _ vv us Q I rv rvs ⟨a, ws, w, rfl, rfl, h3, k1, q _ _ g s2 (k2.mono g)⟩
    · cases hb

def rSetI (K : PySem.W.Frag) : V → V → V → Hp → (Hp → Prop) → Prop := fun o i v H Q => ∃ m F S x y d S', Sm K m F S H ∧ Rp K m F H x o ∧ Rp K m F H y i ∧ Rp K m F H d v ∧ setD S x y d = some S' ∧ ∀ H', Grow m H m H' → Sm K m F S' H' → Q H'
theorem set_rf : PSet X (rSetI X.K) := by
  intro pins s σ H o i v ov iv vv Q I ro ri rv h
  obtain ⟨m, F, S, x, y, d, S', hs, rx, ry, rd, hb, q⟩ := h
  cases x with
  | ref n =>
    cases y with
    | int k =>
      simp only [setD] at hb
      cases z : S[n]? with
      | none => rw [z] at hb; cases hb
      | some ob =>
        rw [z] at hb
        cases ob with
        | lst ys =>
          rw [Rp] at rx; rw [Rp] at ry
          obtain ⟨a, h1, rfl⟩ := rx
          subst ry
          obtain ⟨vs, e2, rr⟩ := hs.obj n a _ h1 z
          dsimp only at hb
          split at hb
          · rename_i j e
            cases hb
            obtain ⟨g, s2⟩ := hs.put h1 (Rps.set rd j rr)
            exact set_list pins s σ H _ _ v ov iv vv Q I ro ri rv ⟨a, vs, k, j, rfl, rfl, e2, by rw [← rr.len]; exact e, q _ g s2⟩
          · cases hb
        | dic _ => cases hb
        | dks _ _ => cases hb
    | _ => simp [setD] at hb
  | _ => simp [setD] at hb


def rCatL (K : PySem.W.Frag) : R2 := fun v u H Q => ∃ m F S x y xs, Sm K m F S H ∧ Rp K m F H x v ∧ Rp K m F H y u ∧ catL S x y = some xs ∧ ∀ vs p, Rps K m F H xs vs → H p = none → Q (.ref p) (upd H p (.lst vs))
theorem op_catL : OpR X (binaryOp .Add) (rCatL X.K) := by
  intro pins s σ H v u vv uu Q I rv ru h
  obtain ⟨m, F, S, x, y, xs, hs, rx, ry, hb, q⟩ := h
  unfold catL at hb
  obtain ⟨as, e1, hb⟩ := Option.bind_eq_some_iff.mp hb
  obtain ⟨bs, e2, hb⟩ := Option.bind_eq_some_iff.mp hb
  split at hb
  · rename_i hz
    cases hb
    obtain ⟨a, vs, rfl, h1, h2⟩ := litems_at hs rx e1
    obtain ⟨b, ws, rfl, h3, h4⟩ := litems_at hs ry e2
    exact op_cat pins s σ H _ _ vv uu Q I rv ru ⟨a, b, vs, ws, rfl, rfl, h1, h3, by rw [← h2.len, ← h4.len]; exact hz, fun p np => q _ p (h2.app h4) np⟩
  · cases hb
theorem rep_rp {K : PySem.W.Frag} {m : List Addr} {F : Addr → Prop} {H : Hp} {xs : List D} {vs : List V} (h : Rps K m F H xs vs) : ∀ n, Rps K m F H (List.replicate n xs).flatten (List.replicate n vs).flatten
  | 0 => .nil
  | n + 1 => by
    rw [List.replicate_succ, List.replicate_succ, List.flatten_cons, List.flatten_cons]
    exact h.app (rep_rp h n)
def rRepL (K : PySem.W.Frag) : R2 := fun v u H Q => ∃ m F S x y xs, Sm K m F S H ∧ Rp K m F H x v ∧ Rp K m F H y u ∧ repL S x y = some xs ∧ ∀ vs p, Rps K m F H xs vs → H p = none → Q (.ref p) (upd H p (.lst vs))
theorem op_repL : OpR X (binaryOp .Mult) (rRepL X.K) := by
  intro pins s σ H v u vv uu Q I rv ru h
  obtain ⟨m, F, S, x, y, xs, hs, rx, ry, hb, q⟩ := h
  cases y with
  | int k =>
    simp only [repL] at hb
    obtain ⟨as, e1, hb⟩ := Option.bind_eq_some_iff.mp hb
    split at hb
    · rename_i hz
      cases hb
      rw [Rp] at ry; subst ry
      obtain ⟨a, vs, rfl, h1, h2⟩ := litems_at hs rx e1
      refine op_rep pins s σ H _ _ vv uu Q I rv ru ⟨a, k, vs, rfl, rfl, h1, by omega, by omega, ?_, fun p np => q _ p (rep_rp h2 _) np⟩
      rw [← h2.len, sizeLine_eq]
      have e2 : k.toNat < 1000 := by omega
      have e3 : as.length < 1000 := hz.2.2
      have := Nat.mul_le_mul (Nat.le_of_lt e3) (Nat.le_of_lt e2)
      omega
    · cases hb
  | _ => simp [repL] at hb
def rSplit (K : PySem.W.Frag) : V → List V → Hp → VK → Prop := fun v vs H Q => ∃ m F S x y xs, Sm K m F S H ∧ Rp K m F H x v ∧ Rps K m F H [y] vs ∧ splitL x y = some xs ∧ ∀ vs p, Rps K m F H xs vs → H p = none → Q (.ref p) (upd H p (.lst vs))
theorem rps_strs {K : PySem.W.Frag} {m : List Addr} {F : Addr → Prop} {H : Hp} : ∀ ns : List Str, Rps K m F H (ns.map D.str) (ns.map V.str)
  | [] => .nil
  | n :: ns => .cons rp_str (rps_strs ns)
theorem mt_split_rf : L2.MtR X "str.split" (rSplit X.K) := by
  intro pins s σ H v vs vv us Q I rv rvs h
  obtain ⟨m, F, S, x, y, xs, hs, rx, ry, hb, q⟩ := h
  obtain ⟨u, rfl, ru⟩ := ry.one
  cases x with
  | str a =>
    cases y with
    | str b =>
      simp only [splitL] at hb
      split at hb
      · rename_i hz
        cases hb
        rw [Rp] at rx ru; subst rx ru
        exact mt_split pins s σ H _ _ vv us Q I rv rvs ⟨a, b, rfl, rfl, hz.1, hz.2, fun p np => q _ p (rps_strs _) np⟩
      · cases hb
    | _ => simp [splitL] at hb
  | _ => simp [splitL] at hb
def rList (K : PySem.W.Frag) : List V → Hp → VK → Prop := fun vs H Q => ∃ m F S x xs, Sm K m F S H ∧ Rps K m F H [x] vs ∧ items S x = some xs ∧ ∀ vs p, Rps K m F H xs vs → H p = none → Q (.ref p) (upd H p (.lst vs))
theorem cr_list_rf : CallR X (.type "list") (rList X.K) := by
  intro pins s σ H vs us Q I r h
  obtain ⟨m, F, S, x, xs, hs, rx, hb, q⟩ := h
  obtain ⟨v, rfl, rv⟩ := rx.one
  obtain ⟨b, ws, rfl, hq, hr⟩ := items_at hs rv hb
  exact call_list_of pins s σ H _ us Q I r ⟨b, ws, rfl, hq, fun l nl => q _ l hr nl⟩
end
end Rf


namespace Rf
open PySem PySem.Spec PyProof.Rows L2


def RpX (mg : Str → Option Value) (H : Hp) (e : Exn) (cls : Value) (d : Option Addr) : Prop := ∃ C, mg e.cls = some (.ref C) ∧ cls = .ref C ∧ e.fs = [] ∧ d = none
def RpE (K : PySem.W.Frag) (m : List Addr) (F : Addr → Prop) (H : Hp) (r : Env) (σ : L2.St) : Prop :=
  r.length = σ.length ∧ ∀ (i : Nat) (d : D), r[i]? = some (some d) → ∃ v, σ[i]? = some (some v) ∧ Rp K m F H d v
def Fin (K : PySem.W.Frag) (mg : Str → Option Value) (m : List Addr) (F : Addr → Prop) (H : Hp) (W : WX) {α : Type} (r : Res (α × Store)) (P : α → Store → List Addr → Hp → Prop) : Prop :=
  match r with
  | .ok (a, S) => ∀ m' H', Grow m H m' H' → Sm K m' F S H' → P a S m' H'
  | .ex e ρ S => ∀ m' H' σ cls d, Grow m H m' H' → Sm K m' F S H' → RpE K m' F H' ρ σ → RpX mg H' e cls d → W cls d σ H'
  | .bad => False

def FinL (K : PySem.W.Frag) (mg : Str → Option Value) (m : List Addr) (F : Addr → Prop) (H : Hp) (W : WX) (r : RDs) (Q : VK) : Prop :=
  match r with
  | .ok (xs, S) => ∀ m' H' p vs, Grow m H m' H' → Sm K m' (fun a => F a ∨ a = p) S H' → H' p = some (.lst vs) → p ∉ m' → ¬ F p → Rps K m' (fun a => F a ∨ a = p) H' xs vs → (p ∈ m ∨ H p = none) → Q (.ref p) H'
  | .ex e ρ S => ∀ m' H' σ cls d, Grow m H m' H' → Sm K m' F S H' → RpE K m' F H' ρ σ → RpX mg H' e cls d → W cls d σ H'
  | .bad => False
section
variable {K : PySem.W.Frag} {mg : Str → Option Value} {m m1 m2 : List Addr} {F : Addr → Prop} {H H1 H2 : Hp} {W : WX} {α β : Type} {S : Store} {ρ : Env} {σ : L2.St}
theorem RpE.mono (h : RpE K m F H ρ σ) (g : Grow m H m1 H1) : RpE K m1 F H1 ρ σ := ⟨h.1, fun i d e => let ⟨v, a, b⟩ := h.2 i d e; ⟨v, a, b.mono g⟩⟩
theorem RpE.set {i : Nat} {d : D} {v : V} (h : RpE K m F H ρ σ) (r : Rp K m F H d v) : RpE K m F H (ρ.set i (some d)) (σ.set i (some v)) := by
  refine ⟨by simp [h.1], fun j e q => ?_⟩
  by_cases hj : i = j
  · subst hj
    by_cases hl : i < ρ.length
    · rw [List.getElem?_set_self hl] at q
      cases q
      exact ⟨v, List.getElem?_set_self (by rw [← h.1]; exact hl), r⟩
    · rw [List.getElem?_eq_none (by simpa using Nat.le_of_not_lt hl)] at q; cases q
  · rw [List.getElem?_set_ne hj] at q ⊢
    exact h.2 j e q
theorem RpE.wipe1 {i : Nat} (h : RpE K m F H ρ σ) : RpE K m F H (ρ.set i none) (σ.set i none) := by
  refine ⟨by simp [h.1], fun j e q => ?_⟩
  by_cases hj : i = j
  · subst hj
    by_cases hl : i < ρ.length
    · rw [List.getElem?_set_self hl] at q; cases q
    · rw [List.getElem?_eq_none (by simpa using Nat.le_of_not_lt hl)] at q; cases q
  · rw [List.getElem?_set_ne hj] at q ⊢
    exact h.2 j e q
theorem Fin.grow {r : Res (α × Store)} {P : α → Store → List Addr → Hp → Prop} (h : Fin K mg m F H W r P) (g : Grow m H m1 H1) : Fin K mg m1 F H1 W r P := by
  unfold Fin at h ⊢
  split at h
  · exact fun m' H' g' s => h m' H' (g.trans g') s
  · exact fun m' H' σ cls d g' s => h m' H' σ cls d (g.trans g') s
  · exact h
theorem FinL.grow {r : RDs} {Q : VK} (h : FinL K mg m F H W r Q) (g : Grow m H m1 H1) : FinL K mg m1 F H1 W r Q := by
  unfold FinL at h ⊢
  split at h
  · refine fun m' H' p vs g' s e n f r o => h m' H' p vs (g.trans g') s e n f r ?_
    rcases o with o | o
    · exact absurd (g'.sub p o) n
    · cases q : H p with
      | none => exact .inr rfl
      | some u =>
        by_cases hp : p ∈ m
        · exact .inl hp
        · have := g.keep p u q (.inl hp)
          rw [this] at o; cases o
  · exact fun m' H' σ cls d g' s => h m' H' σ cls d (g.trans g') s
  · exact h
theorem Fin.imp {r : Res (α × Store)} {P P' : α → Store → List Addr → Hp → Prop} (h : Fin K mg m F H W r P) (k : ∀ a S m' H', Grow m H m' H' → Sm K m' F S H' → P a S m' H' → P' a S m' H') : Fin K mg m F H W r P' := by
  unfold Fin at h ⊢
  split at h
  · exact fun m' H' g s => k _ _ m' H' g s (h m' H' g s)
  · exact h
  · exact h
theorem Fin.bd {r : Res (α × Store)} {f : α → Store → Res (β × Store)} {P : β → Store → List Addr → Hp → Prop} (h : Fin K mg m F H W (r.bd f) P) : Fin K mg m F H W r (fun a S m' H' => Fin K mg m' F H' W (f a S) P) := by
  cases r with
  | ok a => obtain ⟨a, S⟩ := a; exact fun m' H' g _ => Fin.grow (r := f a S) h g
  | ex e ρ S => exact h
  | bad => exact h
theorem FinL.bd {r : Res (α × Store)} {f : α → Store → RDs} {Q : VK} (h : FinL K mg m F H W (r.bd f) Q) : Fin K mg m F H W r (fun a S m' H' => FinL K mg m' F H' W (f a S) Q) := by
  cases r with
  | ok a => obtain ⟨a, S⟩ := a; exact fun m' H' g _ => FinL.grow (r := f a S) h g
  | ex e ρ S => exact h
  | bad => exact h
theorem Fin.ok {a : α} {P : α → Store → List Addr → Hp → Prop} (h : Fin K mg m F H W (.ok (a, S)) P) (s : Sm K m F S H) : P a S m H := h m H s.refl s
theorem Fin.of {o : Option α} {P : α → Store → List Addr → Hp → Prop} (h : Fin K mg m F H W (.of o S) P) : ∃ a, o = some a ∧ ∀ m' H', Grow m H m' H' → Sm K m' F S H' → P a S m' H' := by
  cases o with
  | none => exact h.elim
  | some a => exact ⟨a, rfl, h⟩
theorem FinL.of {o : Option (List D)} {Q : VK} (h : FinL K mg m F H W (.of o S) Q) : ∃ xs, o = some xs ∧ FinL K mg m F H W (.ok (xs, S)) Q := by
  cases o with
  | none => exact h.elim
  | some a => exact ⟨a, rfl, h⟩

theorem FinL.lay {xs : List D} {vs : List V} {p : Addr} {Q : VK} (h : FinL K mg m F H W (.ok (xs, S)) Q) (s : Sm K m F S H) (r : Rps K m F H xs vs) (np : H p = none) : Q (.ref p) (upd H p (.lst vs)) := by
  obtain ⟨g, s1, k⟩ := s.more (o := .lst vs) np
  have pm : p ∉ m := fun q => by obtain ⟨o, e⟩ := s.tr p q; rw [np] at e; cases e
  refine h m _ p vs g s1 upd_same pm (fun q => ?_) ?_ (.inr np)
  · obtain ⟨o, e⟩ := s.fok p q; rw [np] at e; cases e
  · have go : ∀ (xs : List D) (vs' : List V), Rps K m F H xs vs' → Rps K m (fun a => F a ∨ a = p) (upd H p (.lst vs)) xs vs' := by
      intro xs
      induction xs with
      | nil => intro vs' r; rw [Rps.nil_iff.mp r]; exact .nil
      | cons x xs ih =>
        intro vs' r
        obtain ⟨v, r', rfl, a, b⟩ := r.uncons
        exact .cons (k x v a) (ih r' b)
    exact go xs vs r
theorem Fin.nox {r : Res (α × Store)} {P : α → Store → List Addr → Hp → Prop} (h : Fin K mg m F H W r.nox P) {W' : WX} : Fin K mg m F H W' r P := by
  cases r with
  | ok a => exact h
  | ex e ρ S => exact h.elim
  | bad => exact h
end


section
variable (K : PySem.W.Frag) (mg : Str → Option Value) (c : Cfg) (W : WX)
def St0 (m : List Addr) (F : Addr → Prop) (S : Store) (ρ : Env) (σ : L2.St) (H : Hp) : Prop := Sm K m F S H ∧ RpE K m F H ρ σ
def tE (ce : CE) : TE := fun σ H Q => ∃ m F S ρ, Sm K m F S H ∧ RpE K m F H ρ σ ∧ Fin K mg m F H W (evalE c ce ρ S) fun d _ m' H' => ∀ v, Rp K m' F H' d v → Q v H'
def tT (ce : CE) : TT := fun σ H Q => ∃ m F S ρ, Sm K m F S H ∧ RpE K m F H ρ σ ∧ Fin K mg m F H W (evalT c ce ρ S) fun b _ _ H' => Q b H'
def tA (ces : CEs) : TA := fun σ H Q => ∃ m F S ρ, Sm K m F S H ∧ RpE K m F H ρ σ ∧ Fin K mg m F H W (evalEs c ces ρ S) fun ds _ m' H' => ∀ vs, Rps K m' F H' ds vs → Q vs H'
def tO (co : CO) : TO := fun σ H Q => ∃ m F S ρ, Sm K m F S H ∧ RpE K m F H ρ σ ∧ Fin K mg m F H W (evalO c co ρ S) fun i _ _ H' => Q i H'
def tL (cl : CL) : TE := fun σ H Q => ∃ m F S ρ, Sm K m F S H ∧ RpE K m F H ρ σ ∧ FinL K mg m F H W (evalL c cl ρ S) Q
def tC (co : CO) : TT := fun σ H Q => ∃ m F S ρ, Sm K m F S H ∧ RpE K m F H ρ σ ∧ Fin K mg m F H W (evalC c co ρ S) fun b _ _ H' => Q b H'

def ItOk (m : List Addr) (F : Addr → Prop) (H : Hp) (p : List D × (Store → Bool)) (J : It) : Prop := ∃ L us, Rps K m F H L us ∧
  ∀ m2 F2 H2 S2, Grow m H m2 H2 → Sm K m2 F2 S2 H2 → Rps K m2 F2 H2 L us → p.2 S2 = true → ∀ i : Nat,
    (∀ d, p.1[i]? = some d → J.go i H2 ∧ ∀ x H3, J.yld i H2 x H3 → Grow m2 H2 m2 H3 ∧ Sm K m2 F2 S2 H3 ∧ Rp K m2 F2 H3 d x ∧ ∀ a o, H2 a = some o → H3 a = some o) ∧ (p.1.length ≤ i → J.stop i H2)
def tI (ci : CI) : TI := fun σ H R => ∃ m F S ρ, Sm K m F S H ∧ RpE K m F H ρ σ ∧ Fin K mg m F H W (evalI c ci ρ S) fun p _ m' H' => ∀ J, ItOk K m' F H' p J → R J H'
def endP (F : Addr → Prop) (E : Ends) : Fl × Env → Store → List Addr → Hp → Prop := fun p _ m' H' => ∀ σ, RpE K m' F H' p.2 σ →
  match p.1 with
  | .nx => E.nx σ H'
  | .rt d => ∀ v, Rp K m' F H' d v → E.rt v H'
  | .bk => E.bk σ H'
  | .ct => E.ct σ H'
def tS (cs : CS) : TS := fun E σ H => ∃ m F S ρ, Sm K m F S H ∧ RpE K m F H ρ σ ∧ Fin K mg m F H W (execS c cs ρ S) (endP K F E)
def tSs (cs : CSs) : TS := fun E σ H => ∃ m F S ρ, Sm K m F S H ∧ RpE K m F H ρ σ ∧ Fin K mg m F H W (execs c cs ρ S) (endP K F E)
end
theorem PE_imp {X : Cx} {e : Expr} {t t' : TE} (h : PE X e t) (k : ∀ σ H Q, t' σ H Q → t σ H Q) : PE X e t' := ⟨fun pins s σ H Q I q => h.run pins s σ H Q I (k σ H Q q)⟩
theorem PT_imp {X : Cx} {e : Expr} {t t' : TT} (h : PT X e t) (k : ∀ σ H Q, t' σ H Q → t σ H Q) : PT X e t' := ⟨fun pins s σ H Q I q => h.run pins s σ H Q I (k σ H Q q)⟩
theorem PW_imp {X : Cx} {e : Expr} {t t' : TT} (h : PW X e t) (k : ∀ σ H Q, t' σ H Q → t σ H Q) : PW X e t' := ⟨fun w pins s σ H Q I q => h.run w pins s σ H Q I (k σ H Q q)⟩
theorem PA_imp {X : Cx} {e : List Expr} {t t' : TA} (h : PA X e t) (k : ∀ σ H Q, t' σ H Q → t σ H Q) : PA X e t' := ⟨fun pos pins s σ H Q I q => h.run pos pins s σ H Q I (k σ H Q q)⟩
theorem PO_imp {X : Cx} {e : Option Expr} {t t' : TO} (h : PO X e t) (k : ∀ σ H Q, t' σ H Q → t σ H Q) : PO X e t' := ⟨fun pins s σ H Q I q => h.run pins s σ H Q I (k σ H Q q)⟩
theorem PI_imp {X : Cx} {tg e : Expr} {t t' : TI} (h : PI X tg e t) (k : ∀ σ H Q, t' σ H Q → t σ H Q) : PI X tg e t' := ⟨fun pins s σ H Q I q => h.run pins s σ H Q I (k σ H Q q)⟩
theorem PS_imp {X : Cx} {st : Stmt} {t t' : TS} (h : PS X st t) (k : ∀ D σ H, t' D σ H → t D σ H) : PS X st t' := ⟨fun pins s σ H D I q => h.run pins s σ H D I (k D σ H q)⟩
theorem PSs_imp {X : Cx} {st : List Stmt} {t t' : TS} (h : PSs X st t) (k : ∀ D σ H, t' D σ H → t D σ H) : PSs X st t' := ⟨fun pins s σ H D I q => h.run pins s σ H D I (k D σ H q)⟩
end Rf


namespace Rf
open PySem PySem.Spec PyProof.Rows L2

def plainE : Expr → Bool
  | .Starred _ _ => false
  | .Slice _ _ _ _ => false
  | _ => true
def plainEs (es : List Expr) : Bool := es.all plainE
theorem star_plain {e : Expr} {es : List Expr} {env : PySem.Env} (h : plainE e = true) : starEach (e :: es) env = (false, eval e env) :: starEach es env := by
  cases e <;> first | rfl | cases h
theorem star_any {pos : Pos} {env : PySem.Env} : ∀ {es : List Expr}, plainEs es = true → (backTo pos (starEach es env)).any (·.1) = false
  | [], _ => rfl
  | e :: es, h => by
    have h' : plainE e = true ∧ plainEs es = true := by simpa [plainEs] using h
    rw [star_plain h'.1]
    have := star_any (pos := pos) (env := env) h'.2
    simpa [backTo] using this
theorem star_all {pos : Pos} {env : PySem.Env} : ∀ {es : List Expr}, plainEs es = true → (backTo pos (starEach es env)).all (fun x => !x.1) = true
  | [], _ => rfl
  | e :: es, h => by
    have h' : plainE e = true ∧ plainEs es = true := by simpa [plainEs] using h
    rw [star_plain h'.1]
    have := star_all (pos := pos) (env := env) h'.2
    simpa [backTo] using this

section
variable {X : Cx} {c : Cfg} {W : WX}
theorem E_non {k : Nat} {pos : Pos} : PE X (.Constant .none k pos) (tE X.K X.mg c W .non) := PE_imp pe_non fun σ H Q ⟨m, F, S, ρ, s, r, h⟩ => h.ok s _ (by rw [Rp])
theorem E_bl {b : Bool} {k : Nat} {pos : Pos} : PE X (.Constant (.bool b) k pos) (tE X.K X.mg c W (.bl b)) := PE_imp pe_bl fun σ H Q ⟨m, F, S, ρ, s, r, h⟩ => h.ok s _ (by rw [Rp])
theorem E_int {b : Int} {k : Nat} {pos : Pos} : PE X (.Constant (.int b) k pos) (tE X.K X.mg c W (.int b)) := PE_imp pe_int fun σ H Q ⟨m, F, S, ρ, s, r, h⟩ => h.ok s _ (by rw [Rp])
theorem E_str {b : Str} {k : Nat} {pos : Pos} : PE X (.Constant (.str b) k pos) (tE X.K X.mg c W (.str b)) := PE_imp pe_str fun σ H Q ⟨m, F, S, ρ, s, r, h⟩ => h.ok s _ (by rw [Rp])
theorem E_var {i : Nat} {x : Str} {pos : Pos} (hN : X.N[i]? = some x) (hv : Vis X.env.scope x) (hd : (x == ("__debug__" : Str)) = false) (hc : (x == ("__classdict__" : Str)) = false) : PE X (.Name x pos) (tE X.K X.mg c W (.var i)) :=
  PE_imp (pe_var hN hv hd hc) fun σ H Q ⟨m, F, S, ρ, s, r, h⟩ => by
    rw [evalE] at h
    split at h
    · rename_i d e
      obtain ⟨v, e1, rv⟩ := r.2 i d e
      exact ⟨v, e1, h.ok s v rv⟩
    · exact h.elim
theorem E_bin {op : Operator} {a b : CE} {e1 e2 : Expr} {pos : Pos} (ha : PE X e1 (tE X.K X.mg c W a)) (hb : PE X e2 (tE X.K X.mg c W b)) : PE X (.BinOp e1 op e2 pos) (tE X.K X.mg c W (.bin op a b)) :=
  PE_imp (pe_op op_bin ha hb) fun σ H Q ⟨m, F, S, ρ, s, r, h⟩ => by
    rw [evalE] at h
    refine ⟨m, F, S, ρ, s, r, h.bd.imp fun x S1 m1 H1 g1 s1 h1 v rv => ?_⟩
    refine ⟨m1, F, S1, ρ, s1, r.mono g1, h1.bd.imp fun y S2 m2 H2 g2 s2 h2 u ru => ?_⟩
    obtain ⟨d, e, q⟩ := h2.of
    exact ⟨m2, F, S2, x, y, d, s2, rv.mono g2, ru, e, fun m' H' w g s r => q m' H' g s w r⟩
theorem E_neg {a : CE} {e1 : Expr} {pos : Pos} (ha : PE X e1 (tE X.K X.mg c W a)) : PE X (.UnaryOp .USub e1 pos) (tE X.K X.mg c W (.neg a)) :=
  PE_imp (pe_un un_neg ha) fun σ H Q ⟨m, F, S, ρ, s, r, h⟩ => by
    rw [evalE] at h
    refine ⟨m, F, S, ρ, s, r, h.bd.imp fun x S1 m1 H1 g1 s1 h1 v rv => ?_⟩
    cases x with
    | int i =>
      rw [Rp] at rv; subst rv
      exact ⟨i, rfl, h1.ok s1 _ (by rw [Rp])⟩
    | _ => exact h1.elim
theorem E_cmp {op : CmpOp} {a b : CE} {e1 e2 : Expr} {pos : Pos} (hu : X.A.units + 64 < cLine) (ha : PE X e1 (tE X.K X.mg c W a)) (hb : PE X e2 (tE X.K X.mg c W b)) (hm : behindInMarks op e2 = false) : PE X (.Compare e1 [op] [e2] pos) (tE X.K X.mg c W (.cmp op a b)) :=
  PE_imp (pe_cmpR (op_cmp hu) ha hb hm) fun σ H Q ⟨m, F, S, ρ, s, r, h⟩ => by
    rw [evalE] at h
    refine ⟨m, F, S, ρ, s, r, h.bd.imp fun x S1 m1 H1 g1 s1 h1 v rv => ?_⟩
    refine ⟨m1, F, S1, ρ, s1, r.mono g1, h1.bd.imp fun y S2 m2 H2 g2 s2 h2 u ru => ?_⟩
    obtain ⟨d, e, q⟩ := h2.of
    cases z : cmpD S2 op x y with
    | none => rw [z] at e; cases e
    | some k =>
      rw [z] at e
      cases e
      exact ⟨m2, F, S2, x, y, k, s2, rv.mono g2, ru, z, q m2 H2 s2.refl s2 _ (by rw [Rp])⟩
theorem T_cmp {op : CmpOp} {a b : CE} {e1 e2 : Expr} {pos : Pos} (hu : X.A.units + 64 < cLine) (ha : PE X e1 (tE X.K X.mg c W a)) (hb : PE X e2 (tE X.K X.mg c W b)) (hm : behindInMarks op e2 = false) : PT X (.Compare e1 [op] [e2] pos) (tT X.K X.mg c W (.cmp op a b)) :=
  PT_imp (pt_cmpR (op_cmp hu) ha hb hm) fun σ H Q ⟨m, F, S, ρ, s, r, h⟩ => by
    rw [evalT] at h
    refine ⟨m, F, S, ρ, s, r, h.bd.imp fun x S1 m1 H1 g1 s1 h1 v rv => ?_⟩
    refine ⟨m1, F, S1, ρ, s1, r.mono g1, h1.bd.imp fun y S2 m2 H2 g2 s2 h2 u ru => ?_⟩
    obtain ⟨d, e, q⟩ := h2.of
    exact ⟨m2, F, S2, x, y, d, s2, rv.mono g2, ru, e, d, rfl, q m2 H2 s2.refl s2⟩
theorem E_chain {op op' : CmpOp} {a b d : CE} {e1 e2 e3 : Expr} {pos : Pos} (hu : X.A.units + 64 < cLine) (ha : PE X e1 (tE X.K X.mg c W a)) (hb : PE X e2 (tE X.K X.mg c W b)) (hd : PE X e3 (tE X.K X.mg c W d)) (hm : lastMarks [op, op'] [e2, e3] = false) :
    PE X (.Compare e1 [op, op'] [e2, e3] pos) (tE X.K X.mg c W (.chain op op' a b d)) :=
  PE_imp (pe_chain (op_cmp hu) (op_cmp hu) ha hb hd hm) fun σ H Q ⟨m, F, S, ρ, s, r, h⟩ => by
    rw [evalE] at h
    refine ⟨m, F, S, ρ, s, r, h.bd.imp fun x S1 m1 H1 g1 s1 h1 v rv => ?_⟩
    refine ⟨m1, F, S1, ρ, s1, r.mono g1, h1.bd.imp fun y S2 m2 H2 g2 s2 h2 u ru => ?_⟩
    cases z : cmpD S2 op x y with
    | none => rw [z] at h2; exact h2.elim
    | some k =>
      rw [z] at h2
      refine ⟨m2, F, S2, x, y, k, s2, rv.mono g2, ru, z, k, rfl, ?_⟩
      cases k with
      | false => exact h2.ok s2 _ (by rw [Rp])
      | true =>
        refine ⟨m2, F, S2, ρ, s2, (r.mono g1).mono g2, h2.bd.imp fun w S3 m3 H3 g3 s3 h3 t rt => ?_⟩
        obtain ⟨j, e, q⟩ := h3.of
        cases z2 : cmpD S3 op' y w with
        | none => rw [z2] at e; cases e
        | some k2 =>
          rw [z2] at e; cases e
          exact ⟨m3, F, S3, y, w, k2, s3, ru.mono g3, rt, z2, q m3 H3 s3.refl s3 _ (by rw [Rp])⟩
theorem T_chain {op op' : CmpOp} {a b d : CE} {e1 e2 e3 : Expr} {pos : Pos} (hu : X.A.units + 64 < cLine) (ha : PE X e1 (tE X.K X.mg c W a)) (hb : PE X e2 (tE X.K X.mg c W b)) (hd : PE X e3 (tE X.K X.mg c W d)) (hm : lastMarks [op, op'] [e2, e3] = false) :
    PT X (.Compare e1 [op, op'] [e2, e3] pos) (tT X.K X.mg c W (.chain op op' a b d)) :=
  PT_imp (pt_chain (op_cmp hu) (op_cmp hu) ha hb hd hm) fun σ H Q ⟨m, F, S, ρ, s, r, h⟩ => by
    rw [evalT] at h
    refine ⟨m, F, S, ρ, s, r, h.bd.imp fun x S1 m1 H1 g1 s1 h1 v rv => ?_⟩
    refine ⟨m1, F, S1, ρ, s1, r.mono g1, h1.bd.imp fun y S2 m2 H2 g2 s2 h2 u ru => ?_⟩
    cases z : cmpD S2 op x y with
    | none => rw [z] at h2; exact h2.elim
    | some k =>
      rw [z] at h2
      refine ⟨m2, F, S2, x, y, k, s2, rv.mono g2, ru, z, k, rfl, ?_⟩
      cases k with
      | false => exact ⟨false, rfl, h2.ok s2⟩
      | true =>
        refine ⟨m2, F, S2, ρ, s2, (r.mono g1).mono g2, h2.bd.imp fun w S3 m3 H3 g3 s3 h3 t rt => ?_⟩
        obtain ⟨j, e, q⟩ := h3.of
        exact ⟨m3, F, S3, y, w, j, s3, ru.mono g3, rt, e, j, rfl, q m3 H3 s3.refl s3⟩
theorem E_and {a b : CE} {e1 e2 : Expr} {es : List Expr} {pos : Pos} (ha : PE X e1 (tE X.K X.mg c W a)) (hb : PE X (.BoolOp .And (e2 :: es) pos) (tE X.K X.mg c W b)) : PE X (.BoolOp .And (e1 :: e2 :: es) pos) (tE X.K X.mg c W (.and a b)) :=
  PE_imp (pe_and ha hb) fun σ H Q ⟨m, F, S, ρ, s, r, h⟩ => by
    rw [evalE] at h
    refine ⟨m, F, S, ρ, s, r, h.bd.imp fun x S1 m1 H1 g1 s1 h1 v rv => ?_⟩
    cases x with
    | bl k =>
      rw [Rp] at rv; subst rv
      refine ⟨k, rfl, ?_⟩
      cases k with
      | true => exact ⟨m1, F, S1, ρ, s1, r.mono g1, h1⟩
      | false => exact h1.ok s1 _ (by rw [Rp])
    | _ => exact h1.elim
theorem E_or {a b : CE} {e1 e2 : Expr} {es : List Expr} {pos : Pos} (ha : PE X e1 (tE X.K X.mg c W a)) (hb : PE X (.BoolOp .Or (e2 :: es) pos) (tE X.K X.mg c W b)) : PE X (.BoolOp .Or (e1 :: e2 :: es) pos) (tE X.K X.mg c W (.or a b)) :=
  PE_imp (pe_or ha hb) fun σ H Q ⟨m, F, S, ρ, s, r, h⟩ => by
    rw [evalE] at h
    refine ⟨m, F, S, ρ, s, r, h.bd.imp fun x S1 m1 H1 g1 s1 h1 v rv => ?_⟩
    cases x with
    | bl k =>
      rw [Rp] at rv; subst rv
      refine ⟨k, rfl, ?_⟩
      cases k with
      | true => exact h1.ok s1 _ (by rw [Rp])
      | false => exact ⟨m1, F, S1, ρ, s1, r.mono g1, h1⟩
    | _ => exact h1.elim
theorem E_not {a : CE} {e1 : Expr} {pos : Pos} (ha : PE X e1 (tE X.K X.mg c W a)) : PE X (.UnaryOp .Not e1 pos) (tE X.K X.mg c W (.not a)) :=
  PE_imp (pe_not ha) fun σ H Q ⟨m, F, S, ρ, s, r, h⟩ => by
    rw [evalE] at h
    refine ⟨m, F, S, ρ, s, r, h.bd.imp fun x S1 m1 H1 g1 s1 h1 v rv => ?_⟩
    cases x with
    | bl k =>
      rw [Rp] at rv; subst rv
      exact ⟨k, rfl, h1.ok s1 _ (by rw [Rp])⟩
    | _ => exact h1.elim
theorem W_and {a b : CE} {e1 e2 : Expr} {es : List Expr} {pos : Pos} (ha : PT X e1 (tT X.K X.mg c W a)) (hb : PW X (.BoolOp .And (e2 :: es) pos) (tT X.K X.mg c W b)) : PW X (.BoolOp .And (e1 :: e2 :: es) pos) (tT X.K X.mg c W (.and a b)) :=
  PW_imp (pw_and ha hb) fun σ H Q ⟨m, F, S, ρ, s, r, h⟩ => by
    rw [evalT] at h
    refine ⟨m, F, S, ρ, s, r, h.bd.imp fun x S1 m1 H1 g1 s1 h1 => ?_⟩
    cases x with
    | true => exact ⟨m1, F, S1, ρ, s1, r.mono g1, h1⟩
    | false => exact h1.ok s1
theorem W_or {a b : CE} {e1 e2 : Expr} {es : List Expr} {pos : Pos} (ha : PT X e1 (tT X.K X.mg c W a)) (hb : PW X (.BoolOp .Or (e2 :: es) pos) (tT X.K X.mg c W b)) : PW X (.BoolOp .Or (e1 :: e2 :: es) pos) (tT X.K X.mg c W (.or a b)) :=
  PW_imp (pw_or ha hb) fun σ H Q ⟨m, F, S, ρ, s, r, h⟩ => by
    rw [evalT] at h
    refine ⟨m, F, S, ρ, s, r, h.bd.imp fun x S1 m1 H1 g1 s1 h1 => ?_⟩
    cases x with
    | true => exact h1.ok s1
    | false => exact ⟨m1, F, S1, ρ, s1, r.mono g1, h1⟩
theorem T_not {a : CE} {e1 : Expr} {pos : Pos} (ha : PT X e1 (tT X.K X.mg c W a)) : PT X (.UnaryOp .Not e1 pos) (tT X.K X.mg c W (.not a)) :=
  PT_imp (pt_not ha) fun σ H Q ⟨m, F, S, ρ, s, r, h⟩ => by
    rw [evalT] at h
    exact ⟨m, F, S, ρ, s, r, h.bd.imp fun x S1 m1 H1 g1 s1 h1 => h1.ok s1⟩
theorem E_ite {t a b : CE} {e1 e2 e3 : Expr} {pos : Pos} (ht : PT X e1 (tT X.K X.mg c W t)) (ha : PE X e2 (tE X.K X.mg c W a)) (hb : PE X e3 (tE X.K X.mg c W b)) : PE X (.IfExp e1 e2 e3 pos) (tE X.K X.mg c W (.ite t a b)) :=
  PE_imp (pe_ifExp ht ha hb) fun σ H Q ⟨m, F, S, ρ, s, r, h⟩ => by
    rw [evalE] at h
    refine ⟨m, F, S, ρ, s, r, h.bd.imp fun x S1 m1 H1 g1 s1 h1 => ?_⟩
    cases x with
    | true => exact ⟨m1, F, S1, ρ, s1, r.mono g1, h1⟩
    | false => exact ⟨m1, F, S1, ρ, s1, r.mono g1, h1⟩
theorem A_nil : PA X [] (tA X.K X.mg c W .nil) := PA_imp pa_nil fun σ H Q ⟨m, F, S, ρ, s, r, h⟩ => h.ok s _ .nil
theorem A_cons {a : CE} {as : CEs} {e1 : Expr} {es : List Expr} (hp : plainE e1 = true) (ha : PE X e1 (tE X.K X.mg c W a)) (hr : PA X es (tA X.K X.mg c W as)) : PA X (e1 :: es) (tA X.K X.mg c W (.cons a as)) :=
  PA_imp (pa_cons ha hr (star_plain hp)) fun σ H Q ⟨m, F, S, ρ, s, r, h⟩ => by
    rw [evalEs] at h
    refine ⟨m, F, S, ρ, s, r, h.bd.imp fun x S1 m1 H1 g1 s1 h1 v rv => ?_⟩
    exact ⟨m1, F, S1, ρ, s1, r.mono g1, h1.bd.imp fun y S2 m2 H2 g2 s2 h2 u ru => h2.ok s2 _ (.cons (rv.mono g2) ru)⟩
theorem E_tup {as : CEs} {es : List Expr} {k : Nat} {pos : Pos} (ha : PA X es (tA X.K X.mg c W as)) : PE X (.Tuple es k pos) (tE X.K X.mg c W (.tup as)) :=
  PE_imp (pe_tupN ha) fun σ H Q ⟨m, F, S, ρ, s, r, h⟩ => by
    rw [evalE] at h
    refine ⟨m, F, S, ρ, s, r, h.bd.imp fun xs S1 m1 H1 g1 s1 h1 vs rv => ?_⟩
    split at h1
    · rename_i hl
      have o : Out X.K m1 F S1 H1 (.tup xs) Q := fun m' H' w g s r => h1 m' H' g s w r
      exact ⟨by rw [← rv.len]; exact hl, o.tupN s1 rv⟩
    · exact h1.elim
theorem E_idx {a b : CE} {e1 e2 : Expr} {pos : Pos} (hp : plainE e2 = true) (ha : PE X e1 (tE X.K X.mg c W a)) (hb : PE X e2 (tE X.K X.mg c W b)) : PE X (.Subscript e1 e2 pos) (tE X.K X.mg c W (.idx a b)) :=
  PE_imp (pe_ix ix_rf ha hb (by intro o i; cases e2 <;> first | rfl | cases hp)) fun σ H Q ⟨m, F, S, ρ, s, r, h⟩ => by
    rw [evalE] at h
    refine ⟨m, F, S, ρ, s, r, h.bd.imp fun x S1 m1 H1 g1 s1 h1 v rv => ?_⟩
    refine ⟨m1, F, S1, ρ, s1, r.mono g1, h1.bd.imp fun y S2 m2 H2 g2 s2 h2 u ru => ?_⟩
    obtain ⟨d, e, q⟩ := h2.of
    exact ⟨m2, F, S2, x, y, d, s2, rv.mono g2, ru, e, fun m' H' w g s r => q m' H' g s w r⟩
theorem O_non : PO X none (tO X.K X.mg c W .non) := PO_imp po_none fun σ H Q ⟨m, F, S, ρ, s, r, h⟩ => h.ok s
theorem O_som {a : CE} {e : Expr} (ha : PE X e (tE X.K X.mg c W a)) : PO X (some e) (tO X.K X.mg c W (.som a)) := PO_imp (po_some ha) fun σ H Q ⟨m, F, S, ρ, s, r, h⟩ => by
    rw [evalO] at h
    refine ⟨m, F, S, ρ, s, r, h.bd.imp fun x S1 m1 H1 g1 s1 h1 v rv => ?_⟩
    cases x with
    | int i =>
      rw [Rp] at rv; subst rv
      exact ⟨i, rfl, h1.ok s1⟩
    | _ => exact h1.elim
theorem E_slc {a : CE} {lo hi : CO} {e1 : Expr} {l u : Option Expr} {p2 pos : Pos} (ha : PE X e1 (tE X.K X.mg c W a)) (hl : PO X l (tO X.K X.mg c W lo)) (hu : PO X u (tO X.K X.mg c W hi)) : PE X (.Subscript e1 (.Slice l u none p2) pos) (tE X.K X.mg c W (.slc a lo hi)) :=
  PE_imp (pe_slice sl_rf ha hl hu) fun σ H Q ⟨m, F, S, ρ, s, r, h⟩ => by
    rw [evalE] at h
    refine ⟨m, F, S, ρ, s, r, h.bd.imp fun x S1 m1 H1 g1 s1 h1 v rv => ?_⟩
    refine ⟨m1, F, S1, ρ, s1, r.mono g1, h1.bd.imp fun y S2 m2 H2 g2 s2 h2 => ?_⟩
    refine ⟨m2, F, S2, ρ, s2, (r.mono g1).mono g2, h2.bd.imp fun z S3 m3 H3 g3 s3 h3 => ?_⟩
    obtain ⟨d, e, q⟩ := h3.of
    exact ⟨m3, F, S3, x, d, s3, (rv.mono g2).mono g3, e, fun m' H' w g s r => q m' H' g s w r⟩
end
end Rf


namespace Rf
open PySem PySem.Spec PyProof.Rows L2

def FinF (K : PySem.W.Frag) (mg : Str → Option Value) (m : List Addr) (F : Addr → Prop) (H : Hp) (E : XK) (r : RD) (Q : VK) : Prop :=
  match r with
  | .ok (d, S) => ∀ m' H' v, Grow m H m' H' → Sm K m' F S H' → Rp K m' F H' d v → Q v H'
  | .ex e _ S => ∀ m' H' cls dx, Grow m H m' H' → Sm K m' F S H' → RpX mg H' e cls dx → E cls dx H'
  | .bad => False

def spF (K : PySem.W.Frag) (mg : Str → Option Value) (G : Gam) (n : Nat) (f : Str) : Sp := fun vs H Q E => ∃ m F S ds, Sm K m F S H ∧ Rps K m F H ds vs ∧ FinF K mg m F H E (callF G n f ds S) Q
def FnAt (X : Cx) (CX : CXT) (G : Gam) (n : Nat) (f : Str) : Prop := ∃ (a : Addr) (fd : FuncData) (ps : List Str), X.mg f = some (.ref a) ∧ PySem.W.keepIn X.K (.ref a) = true ∧ Binds X.K fd ps [] ∧ FnOk X.prog X.w X.K X.mg X.base CX (2 * n) a fd ps (spF X.K X.mg G n f)

def biName : Bi → Str
  | .len => "len" | .all => "all" | .any => "any" | .tuple => "tuple" | .int => "int" | .str => "str" | .max => "max" | .min => "min" | .sum => "sum"
  | .join => "join" | .startswith => "startswith" | .partition => "partition" | .find => "find" | .count => "count" | .index => "index"
def biFn : Bi → Bool
  | .len | .all | .any | .tuple | .int | .str | .max | .min | .sum => true
  | .join | .startswith | .partition | .find | .count | .index => false
def muName : Mu → Str
  | .append => "append" | .extend => "extend" | .insert => "insert" | .clear => "clear" | .reverse => "reverse" | .pop => "pop"
def muArgs : Mu → Bool
  | .append | .extend | .insert => true
  | .clear | .reverse | .pop => false

def baseOk : Expr → Bool
  | .Call (.Name _ _) [] [] _ => false
  | _ => true
theorem base_ok {o : Expr} {name : Str} {env : PySem.Env} {w : Sem Value} (h : baseOk o = true) : attributeBase o name env w = w := by
  unfold attributeBase
  split
  · cases h
  · rfl
theorem few_ok {cpos : Pos} {es : List Expr} {env : PySem.Env} (h : plainEs es = true) (k : es.length < 30) :
    ((backTo cpos (starEach es env)).all (fun x => !x.1) && (backToKw cpos (keywordEach [] env)).all (fun x => x.1.isSome)
      && decide (es.length + ([] : List Keyword).length + (if ([] : List Keyword).isEmpty then 0 else 1) < 30)) = true := by
  rw [star_all h]
  have e1 : (backToKw cpos (keywordEach [] env)).all (fun x => x.1.isSome) = true := rfl
  rw [e1]
  simpa using k

section
variable {X : Cx} {c : Cfg} {W : WX}
theorem plain_tail {e : Expr} {es : List Expr} (h : plainEs (e :: es) = true) : plainE e = true ∧ plainEs es = true := by simpa [plainEs] using h
theorem E_call {CX : CXT} {G : Gam} {n : Nat} {f : Str} {as : CEs} {e1 : Expr} {es : List Expr} {p pos : Pos} (hF : FnAt X CX G n f) (hr : Room (2 * n) X.A) (hg : Gl X f) (hx : ∀ σ, PassesAt CX X σ (WE W σ)) (hdb : (f == ("__debug__" : Str)) = false)
    (hp : plainEs (e1 :: es) = true) (ha : PA X (e1 :: es) (tA X.K X.mg (G.cfg n) W as)) : PE X (.Call (.Name f p) (e1 :: es) [] pos) (tE X.K X.mg (G.cfg n) W (.call f as)) := by
  obtain ⟨a, fd, ps, hm, hk, hb, F⟩ := hF
  obtain ⟨p1, p2⟩ := plain_tail hp
  refine PE_imp (pe_callS F hr hg hm hk hb hx ha hdb (star_plain p1) (star_any p2)) fun σ H Q ⟨m, F, S, ρ, s, r, h⟩ => ?_
  rw [evalE] at h
  refine ⟨m, F, S, ρ, s, r, h.bd.imp fun xs S1 m1 H1 g1 s1 h1 vs rvs => ?_⟩
  refine ⟨m1, F, S1, xs, s1, rvs, ?_⟩
  have h1' : Fin X.K X.mg m1 F H1 W (match callF G n f xs S1 with
    | .ok z => .ok z
    | .ex e _ S' => .ex e ρ S'
    | .bad => .bad) fun d _ m' H' => ∀ v, Rp X.K m' F H' d v → Q v H' := h1
  unfold FinF
  cases z : callF G n f xs S1 with
  | ok q => rw [z] at h1'; obtain ⟨d, S2⟩ := q; exact fun m' H' v g s rv => h1' m' H' g s v rv
  | ex e ρ' S2 => rw [z] at h1'; exact fun m' H' cls dx g s rx => h1' m' H' σ cls dx g s ((r.mono g1).mono g) rx
  | bad => rw [z] at h1'; exact h1'
theorem E_call0 {CX : CXT} {G : Gam} {n : Nat} {f : Str} {p pos : Pos} (hF : FnAt X CX G n f) (hr : Room (2 * n) X.A) (hg : Gl X f) (hx : ∀ σ, PassesAt CX X σ (WE W σ)) (hdb : (f == ("__debug__" : Str)) = false) :
    PE X (.Call (.Name f p) [] [] pos) (tE X.K X.mg (G.cfg n) W (.call f .nil)) := by
  obtain ⟨a, fd, ps, hm, hk, hb, F⟩ := hF
  have base : PE X (.Call (.Name f p) [] [] pos) (tCallS (spF X.K X.mg G n f) (WE W) tNil) := by
    refine ⟨fun pins s σ H Q I h => ?_⟩
    refine wpAny_Call_Name_kw (ld_glob I hg hm ?_ hdb)
    exact PySem.W.callWith_K0 I.kIn hk (run_fnS (us := []) F hr hb (hx σ) I .nil h)
  refine PE_imp base fun σ H Q ⟨m, F, S, ρ, s, r, h⟩ => ?_
  rw [evalE] at h
  have h1 := (h.bd).ok s
  refine ⟨m, F, S, [], s, .nil, ?_⟩
  have h1' : Fin X.K X.mg m F H W (match callF G n f [] S with
    | .ok z => .ok z
    | .ex e _ S' => .ex e ρ S'
    | .bad => .bad) fun d _ m' H' => ∀ v, Rp X.K m' F H' d v → Q v H' := h1
  unfold FinF
  cases z : callF G n f [] S with
  | ok q => rw [z] at h1'; obtain ⟨d, S2⟩ := q; exact fun m' H' v g s rv => h1' m' H' g s v rv
  | ex e ρ' S2 => rw [z] at h1'; exact fun m' H' cls dx g s rx => h1' m' H' σ cls dx g s (r.mono g) rx
  | bad => rw [z] at h1'; exact h1'
theorem bi_rd {b : Bi} {as : CEs} {σ : L2.St} {H : Hp} {Q : VK} (h : tE X.K X.mg c W (.bi b as) σ H Q) : tCB (rBi X.K b) (tA X.K X.mg c W as) σ H Q := by
  obtain ⟨m, F, S, ρ, s, r, h⟩ := h
  rw [evalE] at h
  refine ⟨m, F, S, ρ, s, r, h.bd.imp fun xs S1 m1 H1 g1 s1 h1 vs rvs => ?_⟩
  obtain ⟨d, e, q⟩ := h1.of
  exact ⟨m1, F, S1, xs, d, s1, rvs, e, fun m' H' w g s r => q m' H' g s w r⟩
theorem E_bi {b : Bi} {as : CEs} {e1 : Expr} {es : List Expr} {p pos : Pos} (hc : X.calm = true) (hu : X.A.units + 64 < cLine) (hb : biFn b = true) (hg : Gl X (biName b)) (hm : X.mg (biName b) = none)
    (hp : plainEs (e1 :: es) = true) (ha : PA X (e1 :: es) (tA X.K X.mg c W as)) : PE X (.Call (.Name (biName b) p) (e1 :: es) [] pos) (tE X.K X.mg c W (.bi b as)) := by
  obtain ⟨p1, p2⟩ := plain_tail hp
  cases b with
  | len => exact PE_imp (pe_callB cr_len_rf hg hm rfl ha (by decide) (by decide) (star_plain p1) (star_any p2)) fun _ _ _ => bi_rd
  | all => exact PE_imp (pe_callB (cr_all_rf hc) hg hm rfl ha (by decide) (by decide) (star_plain p1) (star_any p2)) fun _ _ _ => bi_rd
  | any => exact PE_imp (pe_callB (cr_any_rf hc) hg hm rfl ha (by decide) (by decide) (star_plain p1) (star_any p2)) fun _ _ _ => bi_rd
  | tuple => exact PE_imp (pe_callTy cr_tuple_rf hg hm rfl ha (by decide) (by decide) (star_plain p1) (star_any p2)) fun _ _ _ => bi_rd
  | int => exact PE_imp (pe_callTy cr_int_rf hg hm rfl ha (by decide) (by decide) (star_plain p1) (star_any p2)) fun _ _ _ => bi_rd
  | str => exact PE_imp (pe_callTy cr_str_rf hg hm rfl ha (by decide) (by decide) (star_plain p1) (star_any p2)) fun _ _ _ => bi_rd
  | max => exact PE_imp (pe_callB (cr_max_rf hc hu) hg hm rfl ha (by decide) (by decide) (star_plain p1) (star_any p2)) fun _ _ _ => bi_rd
  | min => exact PE_imp (pe_callB (cr_min_rf hc hu) hg hm rfl ha (by decide) (by decide) (star_plain p1) (star_any p2)) fun _ _ _ => bi_rd
  | sum => exact PE_imp (pe_callB (cr_sum_rf hc) hg hm rfl ha (by decide) (by decide) (star_plain p1) (star_any p2)) fun _ _ _ => bi_rd
  | _ => cases hb
theorem isStr_of {x : D} (h : isStr x = true) : ∃ z, x = .str z := by cases x <;> first | exact ⟨_, rfl⟩ | cases h
theorem met_rd {b : Bi} {a : CE} {as : CEs} {σ : L2.St} {H : Hp} {Q : VK} (h : tE X.K X.mg c W (.met b a as) σ H Q) : tBM X.K "str" (rMt X.K b) (tE X.K X.mg c W a) (tA X.K X.mg c W as) σ H Q := by
  obtain ⟨m, F, S, ρ, s, r, h⟩ := h
  rw [evalE] at h
  refine ⟨m, F, S, ρ, s, r, h.bd.imp fun x S1 m1 H1 g1 s1 h1 v rv => ?_⟩
  split at h1
  · rename_i hs
    obtain ⟨z, rfl⟩ := isStr_of hs
    have rv' := rv
    rw [Rp] at rv'; subst rv'
    refine ⟨rfl, m1, F, S1, ρ, s1, r.mono g1, h1.bd.imp fun xs S2 m2 H2 g2 s2 h2 vs rvs => ?_⟩
    obtain ⟨d, e, q⟩ := h2.of
    exact ⟨m2, F, S2, .str z :: xs, d, s2, .cons (rv.mono g2) rvs, e, fun m' H' w g s r => q m' H' g s w r⟩
  · exact h1.elim
theorem E_met {b : Bi} {a : CE} {as : CEs} {o e1 : Expr} {es : List Expr} {apos cpos : Pos} (hb : biFn b = false) (ho : PE X o (tE X.K X.mg c W a)) (hbase : baseOk o = true) (hline : (apos.endLine == cpos.line) = true)
    (hp : plainEs (e1 :: es) = true) (hl : (e1 :: es).length < 30) (ha : PA X (e1 :: es) (tA X.K X.mg c W as)) : PE X (.Call (.Attribute o (biName b) apos) (e1 :: es) [] cpos) (tE X.K X.mg c W (.met b a as)) := by
  obtain ⟨p1, p2⟩ := plain_tail hp
  cases b with
  | join => exact PE_imp (pe_bm PySem.F.plainAttrs_str PySem.F.slot_str_join PySem.F.type_str_join mt_join_rf ho ha (base_ok hbase) (few_ok hp hl) hline (star_plain p1) (star_any p2)) fun _ _ _ => met_rd
  | startswith => exact PE_imp (pe_bm PySem.F.plainAttrs_str PySem.F.slot_str_startswith PySem.F.type_str_startswith mt_startswith_rf ho ha (base_ok hbase) (few_ok hp hl) hline (star_plain p1) (star_any p2)) fun _ _ _ => met_rd
  | partition => exact PE_imp (pe_bm PySem.F.plainAttrs_str PySem.F.slot_str_partition PySem.F.type_str_partition mt_partition_rf ho ha (base_ok hbase) (few_ok hp hl) hline (star_plain p1) (star_any p2)) fun _ _ _ => met_rd
  | find => exact PE_imp (pe_bm PySem.F.plainAttrs_str PySem.F.slot_str_find PySem.F.type_str_find mt_find_rf ho ha (base_ok hbase) (few_ok hp hl) hline (star_plain p1) (star_any p2)) fun _ _ _ => met_rd
  | index => exact PE_imp (pe_bm PySem.F.plainAttrs_str PySem.F.slot_str_index PySem.F.type_str_index mt_index_rf ho ha (base_ok hbase) (few_ok hp hl) hline (star_plain p1) (star_any p2)) fun _ _ _ => met_rd
  | count => exact PE_imp (pe_bm PySem.F.plainAttrs_str PySem.F.slot_str_count PySem.F.type_str_count mt_count_rf ho ha (base_ok hbase) (few_ok hp hl) hline (star_plain p1) (star_any p2)) fun _ _ _ => met_rd
  | _ => cases hb
theorem isMut_of {m : List Addr} {F : Addr → Prop} {S : Store} {H : Hp} {x : D} {v : V} (s : Sm X.K m F S H) (rv : Rp X.K m F H x v) (h : isMut S x = true) : tyV X.K "list" v H := by
  cases x with
  | ref n =>
    rw [Rp] at rv
    obtain ⟨a, h1, rfl⟩ := rv
    simp only [isMut] at h
    cases z : S[n]? with
    | none => rw [z] at h; cases h
    | some o =>
      rw [z] at h
      cases o with
      | lst ys =>
        obtain ⟨vs, e2, rr⟩ := s.obj n a _ h1 z
        exact .inl ⟨rfl, vs, SqL.of e2⟩
      | dic _ => cases h
      | dks _ _ => cases h
  | _ => cases h
theorem mut_rd {mu : Mu} {a : CE} {as : CEs} {σ : L2.St} {H : Hp} {Q : VK} (h : tE X.K X.mg c W (.mut mu a as) σ H Q) : tBM X.K "list" (rMu X.K mu) (tE X.K X.mg c W a) (tA X.K X.mg c W as) σ H Q := by
  obtain ⟨m, F, S, ρ, s, r, h⟩ := h
  rw [evalE] at h
  refine ⟨m, F, S, ρ, s, r, h.bd.imp fun x S1 m1 H1 g1 s1 h1 v rv => ?_⟩
  split at h1
  · rename_i hs
    refine ⟨isMut_of s1 rv hs, m1, F, S1, ρ, s1, r.mono g1, h1.bd.imp fun xs S2 m2 H2 g2 s2 h2 vs rvs => ?_⟩
    cases z : mutD mu S2 x xs with
    | none => rw [z] at h2; exact h2.elim
    | some q =>
      obtain ⟨d, S3⟩ := q
      rw [z] at h2
      exact ⟨m2, F, S2, x, xs, d, S3, s2, rv.mono g2, rvs, z, fun H' w g s r => h2 m2 H' g s w r⟩
  · exact h1.elim
theorem mut_rd0 {mu : Mu} {a : CE} {σ : L2.St} {H : Hp} {Q : VK} (h : tE X.K X.mg c W (.mut mu a .nil) σ H Q) : tBM0 X.K "list" (rMu X.K mu) (tE X.K X.mg c W a) σ H Q := by
  obtain ⟨m, F, S, ρ, s, r, h⟩ := h
  rw [evalE] at h
  refine ⟨m, F, S, ρ, s, r, h.bd.imp fun x S1 m1 H1 g1 s1 h1 v rv => ?_⟩
  split at h1
  · rename_i hs
    have h2 := h1.bd.ok s1
    cases z : mutD mu S1 x [] with
    | none => rw [z] at h2; exact h2.elim
    | some q =>
      obtain ⟨d, S3⟩ := q
      rw [z] at h2
      exact ⟨isMut_of s1 rv hs, m1, F, S1, x, [], d, S3, s1, rv, .nil, z, fun H' w g s r => h2 m1 H' g s w r⟩
  · exact h1.elim
theorem E_mut {mu : Mu} {a : CE} {as : CEs} {o e1 : Expr} {es : List Expr} {apos cpos : Pos} (hb : muArgs mu = true) (ho : PE X o (tE X.K X.mg c W a)) (hbase : baseOk o = true) (hline : (apos.endLine == cpos.line) = true)
    (hp : plainEs (e1 :: es) = true) (hl : (e1 :: es).length < 30) (ha : PA X (e1 :: es) (tA X.K X.mg c W as)) : PE X (.Call (.Attribute o (muName mu) apos) (e1 :: es) [] cpos) (tE X.K X.mg c W (.mut mu a as)) := by
  obtain ⟨p1, p2⟩ := plain_tail hp
  cases mu with
  | append => exact PE_imp (pe_bm PySem.F.plainAttrs_list PySem.F.slot_list_append PySem.F.type_list_append mt_append_rf ho ha (base_ok hbase) (few_ok hp hl) hline (star_plain p1) (star_any p2)) fun _ _ _ => mut_rd
  | extend => exact PE_imp (pe_bm PySem.F.plainAttrs_list PySem.F.slot_list_extend PySem.F.type_list_extend mt_extend_rf ho ha (base_ok hbase) (few_ok hp hl) hline (star_plain p1) (star_any p2)) fun _ _ _ => mut_rd
  | insert => exact PE_imp (pe_bm PySem.F.plainAttrs_list PySem.F.slot_list_insert PySem.F.type_list_insert mt_insert_rf ho ha (base_ok hbase) (few_ok hp hl) hline (star_plain p1) (star_any p2)) fun _ _ _ => mut_rd
  | _ => cases hb
theorem E_mut0 {mu : Mu} {a : CE} {o : Expr} {apos cpos : Pos} (hb : muArgs mu = false) (ho : PE X o (tE X.K X.mg c W a)) (hbase : baseOk o = true) (hline : (apos.endLine == cpos.line) = true) :
    PE X (.Call (.Attribute o (muName mu) apos) [] [] cpos) (tE X.K X.mg c W (.mut mu a .nil)) := by
  cases mu with
  | clear => exact PE_imp (pe_bm0 PySem.F.plainAttrs_list PySem.F.slot_list_clear PySem.F.type_list_clear mt_clear_rf ho (base_ok hbase) hline) fun _ _ _ => mut_rd0
  | reverse => exact PE_imp (pe_bm0 PySem.F.plainAttrs_list PySem.F.slot_list_reverse PySem.F.type_list_reverse mt_reverse_rf ho (base_ok hbase) hline) fun _ _ _ => mut_rd0
  | pop => exact PE_imp (pe_bm0 PySem.F.plainAttrs_list PySem.F.slot_list_pop PySem.F.type_list_pop mt_pop_rf ho (base_ok hbase) hline) fun _ _ _ => mut_rd0
  | _ => cases hb
def tyName (t : String) : Str := t
def tyIn (t : String) : Bool := ["bool", "int", "str", "tuple", "list"].contains t
theorem E_isi {a : CE} {t : String} {e1 : Expr} {p p2 pos : Pos} (ht : tyIn t = true) (hg : Gl X "isinstance") (hm : X.mg "isinstance" = none) (hgt : Gl X (tyName t)) (hmt : X.mg (tyName t) = none) (hp : plainE e1 = true) (ha : PE X e1 (tE X.K X.mg c W a)) :
    PE X (.Call (.Name "isinstance" p) [e1, .Name (tyName t) p2] [] pos) (tE X.K X.mg c W (.isi a t)) := by
  have hb : bootBuiltins (tyName t) = some (.type t) ∧ tyName t ≠ "__name__" ∧ (tyName t == ("__debug__" : Str)) = false := by
    have tc : t = "bool" ∨ t = "int" ∨ t = "str" ∨ t = "tuple" ∨ t = "list" := by simpa [tyIn] using ht
    rcases tc with rfl | rfl | rfl | rfl | rfl <;> exact ⟨rfl, by decide, by decide⟩
  have pa : PA X [e1, .Name (tyName t) p2] (tCons (tE X.K X.mg c W a) (tCons (L2.tC (.ty t)) tNil)) :=
    pa_cons ha (pa_cons (pe_bltn hgt hmt hb.1 rfl hb.2.1 hb.2.2) pa_nil) (star_plain hp)
  refine PE_imp (pe_callB call_isi hg hm rfl pa (by decide) (by decide) (star_plain hp) rfl) fun σ H Q ⟨m, F, S, ρ, s, r, h⟩ => ?_
  rw [evalE] at h
  refine ⟨m, F, S, ρ, s, r, h.bd.imp fun x S1 m1 H1 g1 s1 h1 v rv => ?_⟩
  obtain ⟨d, e, q⟩ := h1.of
  cases z : isiD S1 t x with
  | none => rw [z] at e; cases e
  | some k =>
    rw [z] at e; cases e
    obtain ⟨x, h1, h2⟩ := isi_rf (by simpa [tyIn] using ht) s1 rv z
    exact ⟨v, .ty t, .type x, .type t, k, rfl, .ty t, h1, h2, q m1 H1 s1.refl s1 _ (by rw [Rp])⟩

def valT : CE → Bool
  | .var _ | .call _ _ | .bi _ _ | .met _ _ _ | .isi _ _ | .idx _ _ | .slc _ _ _ | .bin _ _ _ | .bl _ | .dget _ _ => true
  | _ => false
theorem bd_bd {α β γ : Type} (r : Res (α × Store)) (f : α → Store → Res (β × Store)) (g : β → Store → Res γ) : (r.bd f).bd g = r.bd fun a S => (f a S).bd g := by
  cases r <;> rfl
theorem bd_congr {α β : Type} (r : Res (α × Store)) {f g : α → Store → Res β} (h : ∀ a S, f a S = g a S) : r.bd f = r.bd g := by
  cases r <;> first | rfl | exact h _ _
theorem of_bind {α β : Type} (o : Option α) (S : Store) (f : Store → α → Option β) : Res.of (o.bind (f S)) S = (Res.of o S).bd fun a S => Res.of (f S a) S := by cases o <;> rfl
theorem evalT_val {ce : CE} (h : valT ce = true) (ρ : Env) (S : Store) : evalT c ce ρ S = (evalE c ce ρ S).bd fun d S' => .of (truth S' d) S' := by
  cases ce with
  | var i => rw [evalT, evalE]; split <;> rfl
  | call f es =>
    rw [evalT, evalE, bd_bd]
    refine bd_congr _ fun xs S1 => ?_
    cases c.call f xs S1 <;> rfl
  | bi b es =>
    rw [evalT, evalE, bd_bd]
    refine bd_congr _ fun xs S1 => ?_
    exact of_bind _ _ truth
  | met b o es =>
    rw [evalT, evalE, bd_bd]
    refine bd_congr _ fun x S1 => ?_
    split
    · rw [bd_bd]
      refine bd_congr _ fun xs S2 => ?_
      exact of_bind _ _ truth
    · rfl
  | isi a t =>
    rw [evalT, evalE, bd_bd]
    refine bd_congr _ fun xs S1 => ?_
    cases isiD S1 t xs <;> rfl
  | idx a i =>
    rw [evalT, evalE, bd_bd]
    refine bd_congr _ fun x S1 => ?_
    rw [bd_bd]
    refine bd_congr _ fun y S2 => ?_
    exact of_bind _ _ truth
  | slc a l u =>
    rw [evalT, evalE, bd_bd]
    refine bd_congr _ fun x S1 => ?_
    rw [bd_bd]
    refine bd_congr _ fun y S2 => ?_
    rw [bd_bd]
    refine bd_congr _ fun z S3 => ?_
    exact of_bind _ _ truth
  | bin op a b =>
    rw [evalT, evalE, bd_bd]
    refine bd_congr _ fun x S1 => ?_
    rw [bd_bd]
    refine bd_congr _ fun y S2 => ?_
    exact of_bind _ _ truth
  | bl b => rw [evalT, evalE]; rfl
  | dget a es =>
    rw [evalT, evalE, bd_bd]
    refine bd_congr _ fun x S1 => ?_
    rw [bd_bd]
    refine bd_congr _ fun y S2 => ?_
    exact of_bind _ _ truth
  | _ => cases h
theorem T_val {ce : CE} {e : Expr} (hv : valT ce = true) (he : ∀ whole, isTrue e X.env whole = (do let v ← whole; standAt e.pos; holding [v] (truthy v))) (ha : PE X e (tE X.K X.mg c W ce)) : PT X e (tT X.K X.mg c W ce) :=
  PT_imp (pt_truth ha he) fun σ H Q ⟨m, F, S, ρ, s, r, h⟩ => by
    rw [evalT_val hv] at h
    refine ⟨m, F, S, ρ, s, r, h.bd.imp fun x S1 m1 H1 g1 s1 h1 v rv => ?_⟩
    obtain ⟨k, e, q⟩ := h1.of
    exact ⟨k, tru_rf s1 rv e, q m1 H1 s1.refl s1⟩


theorem L_disp {as : CEs} {es : List Expr} {pos : Pos} (ha : PA X es (tA X.K X.mg c W as)) : PE X (.List es pos) (tL X.K X.mg c W (.disp as)) :=
  PE_imp (pe_lst ha) fun σ H Q ⟨m, F, S, ρ, s, r, h⟩ => by
    rw [evalL] at h
    refine ⟨m, F, S, ρ, s, r, h.bd.imp fun xs S1 m1 H1 g1 s1 h1 vs rv => ?_⟩
    split at h1
    · rename_i hl
      exact ⟨by rw [← rv.len]; exact hl, fun p np => h1.lay s1 rv np⟩
    · exact h1.elim
theorem L_cat {a b : CE} {e1 e2 : Expr} {pos : Pos} (ha : PE X e1 (tE X.K X.mg c W a)) (hb : PE X e2 (tE X.K X.mg c W b)) : PE X (.BinOp e1 .Add e2 pos) (tL X.K X.mg c W (.cat a b)) :=
  PE_imp (pe_op op_catL ha hb) fun σ H Q ⟨m, F, S, ρ, s, r, h⟩ => by
    rw [evalL] at h
    refine ⟨m, F, S, ρ, s, r, h.bd.imp fun x S1 m1 H1 g1 s1 h1 v rv => ?_⟩
    refine ⟨m1, F, S1, ρ, s1, r.mono g1, (FinL.bd h1).imp fun y S2 m2 H2 g2 s2 h2 u ru => ?_⟩
    obtain ⟨d, e, q⟩ := FinL.of h2
    exact ⟨m2, F, S2, x, y, d, s2, rv.mono g2, ru, e, fun vs p rr np => q.lay s2 rr np⟩
theorem L_rep {a b : CE} {e1 e2 : Expr} {pos : Pos} (ha : PE X e1 (tE X.K X.mg c W a)) (hb : PE X e2 (tE X.K X.mg c W b)) : PE X (.BinOp e1 .Mult e2 pos) (tL X.K X.mg c W (.rep a b)) :=
  PE_imp (pe_op op_repL ha hb) fun σ H Q ⟨m, F, S, ρ, s, r, h⟩ => by
    rw [evalL] at h
    refine ⟨m, F, S, ρ, s, r, h.bd.imp fun x S1 m1 H1 g1 s1 h1 v rv => ?_⟩
    refine ⟨m1, F, S1, ρ, s1, r.mono g1, (FinL.bd h1).imp fun y S2 m2 H2 g2 s2 h2 u ru => ?_⟩
    obtain ⟨d, e, q⟩ := FinL.of h2
    exact ⟨m2, F, S2, x, y, d, s2, rv.mono g2, ru, e, fun vs p rr np => q.lay s2 rr np⟩
theorem L_slc {a : CE} {lo hi : CO} {e1 : Expr} {l u : Option Expr} {p2 pos : Pos} (ha : PE X e1 (tE X.K X.mg c W a)) (hl : PO X l (tO X.K X.mg c W lo)) (hu : PO X u (tO X.K X.mg c W hi)) : PE X (.Subscript e1 (.Slice l u none p2) pos) (tL X.K X.mg c W (.slc a lo hi)) :=
  PE_imp (pe_slice slL_rf ha hl hu) fun σ H Q ⟨m, F, S, ρ, s, r, h⟩ => by
    rw [evalL] at h
    refine ⟨m, F, S, ρ, s, r, h.bd.imp fun x S1 m1 H1 g1 s1 h1 v rv => ?_⟩
    refine ⟨m1, F, S1, ρ, s1, r.mono g1, (FinL.bd h1).imp fun y S2 m2 H2 g2 s2 h2 => ?_⟩
    refine ⟨m2, F, S2, ρ, s2, (r.mono g1).mono g2, (FinL.bd h2).imp fun z S3 m3 H3 g3 s3 h3 => ?_⟩
    obtain ⟨d, e, q⟩ := FinL.of h3
    cases z1 : ritems S3 x with
    | none => rw [z1] at e; cases e
    | some xs =>
      rw [z1] at e; cases e
      exact ⟨m3, F, S3, x, xs, s3, (rv.mono g2).mono g3, z1, fun vs p rr np => q.lay s3 rr np⟩
theorem L_list {a : CE} {e1 : Expr} {p pos : Pos} (hg : Gl X "list") (hm : X.mg "list" = none) (hp : plainE e1 = true) (ha : PE X e1 (tE X.K X.mg c W a)) : PE X (.Call (.Name "list" p) [e1] [] pos) (tL X.K X.mg c W (.list a)) :=
  PE_imp (pe_callTy cr_list_rf hg hm rfl (A_cons (as := .nil) hp ha A_nil) (by decide) (by decide) (star_plain hp) rfl) fun σ H Q ⟨m, F, S, ρ, s, r, h⟩ => by
    rw [evalL] at h
    refine ⟨m, F, S, ρ, s, r, ?_⟩
    rw [evalEs]
    have h := FinL.bd h
    unfold Fin at h ⊢
    cases z : evalE c a ρ S with
    | bad => rw [z] at h; exact h
    | ex e ρ' S' => rw [z] at h; exact h
    | ok q =>
      obtain ⟨x, S1⟩ := q
      rw [z] at h
      show ∀ m' H', _ → _ → ∀ vs, _ → _
      intro m1 H1 g1 s1 vs rvs
      have h1 := h m1 H1 g1 s1
      obtain ⟨xs, e, q⟩ := FinL.of h1
      exact ⟨m1, F, S1, x, xs, s1, rvs, e, fun vs p rr np => q.lay s1 rr np⟩
theorem L_split {a b : CE} {o e1 : Expr} {apos cpos : Pos} (ho : PE X o (tE X.K X.mg c W a)) (hbase : baseOk o = true) (hline : (apos.endLine == cpos.line) = true) (hp : plainE e1 = true) (hb : PE X e1 (tE X.K X.mg c W b)) :
    PE X (.Call (.Attribute o "split" apos) [e1] [] cpos) (tL X.K X.mg c W (.split a b)) :=
  PE_imp (pe_bm PySem.F.plainAttrs_str PySem.F.slot_str_split PySem.F.type_str_split mt_split_rf ho (A_cons (as := .nil) hp hb A_nil) (base_ok hbase) (few_ok (by simp [plainEs, hp]) (by simp)) hline (star_plain hp) rfl) fun σ H Q ⟨m, F, S, ρ, s, r, h⟩ => by
    rw [evalL] at h
    refine ⟨m, F, S, ρ, s, r, (FinL.bd h).imp fun x S1 m1 H1 g1 s1 h1 v rv => ?_⟩
    split at h1
    · rename_i hs
      obtain ⟨z, rfl⟩ := isStr_of hs
      have rv' := rv
      rw [Rp] at rv'; subst rv'
      refine ⟨rfl, m1, F, S1, ρ, s1, r.mono g1, ?_⟩
      rw [evalEs]
      have h := FinL.bd h1
      unfold Fin at h ⊢
      cases z2 : evalE c b ρ S1 with
      | bad => rw [z2] at h; exact h
      | ex e ρ' S' => rw [z2] at h; exact h
      | ok q =>
        obtain ⟨y, S2⟩ := q
        rw [z2] at h
        show ∀ m' H', _ → _ → ∀ vs, _ → _
        intro m2 H2 g2 s2 vs rvs
        obtain ⟨xs, e, q⟩ := FinL.of (h m2 H2 g2 s2)
        exact ⟨m2, F, S2, .str z, y, xs, s2, rv.mono g2, rvs, e, fun vs p rr np => q.lay s2 rr np⟩
    · exact h1.elim
end
end Rf


namespace Rf
open PySem PySem.Spec PyProof.Rows L2

section
variable {prog : Program} {w : World} {A : Around} {E : Value → Shared → Prop} {s : Shared}


theorem extend_walk {R : Result → Shared → Prop} {it : Addr} {T : String} {fp wr : List Addr} {n : Nat} {P : Nat → Value → Prop} {St : Nat → Heap → Prop} (W : Walks prog w A.in1 it fp wr n P St) (hn : n ≤ sizeLine)
    (hTl : (Value.type T == Value.type "list") = false) (hTt : (Value.type T == Value.type "tuple") = false) (hT : ∀ s : Shared, St 0 s.heap → s.TypeIs (.ref it) T)
    (hint : ∀ (s : Shared) (Q : Bool → Shared → Prop) (E : Value → Shared → Prop), St 0 s.heap → (∀ b tk, s.toks ≤ tk → Q b { s with toks := tk }) → wpAny (model prog w) A.in1 (Builtin.List.listLengthHint (.ref it)) Q E s)
    (hit : it ∈ fp) (S : Addr) (hSf : S ∉ fp) (res : Value) (c₀ : Nat) (hS : s.heap.get? S = some { cls := .type "list", data := .seq #[] c₀ }) (hst : St 0 s.heap)
    (hR : ∀ h' tk acc' c', (∀ b o, b ≠ S → b ∉ wr → s.heap.get? b = some o → h'.get? b = some o) → h'.get? S = some { cls := .type "list", dict := none, data := .seq acc' c', slots := #[] } →
      ItemsOf P acc' n → R (.ok (.ret res)) { s with heap := h', toks := tk }) :
    wpAny (model prog w) A.in1 (Builtin.List.listExtendWith (.ref S) (.ref it) res)
      (fun fin s' => match fin with | .done f => R (.ok f) s' | .again c' => c'.quiet = true ∧ codeAny (model prog w) A c' R s') (fun e s' => R (.error e) s') s := by
  have hSi : S ≠ it := fun e => hSf (e ▸ hit)
  have key : ∀ (h : Heap) (c₁ tk : Nat), St 0 h → (∀ b o, b ≠ S → s.heap.get? b = some o → h.get? b = some o) →
      h.get? S = some { cls := .type "list", data := .seq #[] c₁ } → codeAny (model prog w) A (.builtin "list.extend.loop" ⟨[.ref S, .ref it, res], []⟩) R { s with heap := h, toks := tk } := by
    intro h c₁ tk hst hk hS₁
    refine codeAny_extend_loopS W.toS hn S hSf res n 0 _ #[] c₁ rfl (Nat.zero_le _) hst hS₁ (ItemsOf.nil _) fun s' acc' c' hm hS' hacc => ?_
    rw [Moved.eq_with hm]
    refine hR s'.heap s'.toks acc' c' (fun b o hb hw e => hm.heap b o (fun hmem => ?_) (hk b o hb e)) hS' hacc
    rcases List.mem_cons.mp hmem with e' | hmem
    · exact hb e'
    · exact hw hmem
  unfold Builtin.List.listExtendWith
  refine wpAny_bind (wpAny_typeOf (hT s hst) ?_)
  have h1 : Builtin.List.listSameRef (.ref S) (.ref it) = false := by simp [Builtin.List.listSameRef, hSi]
  simp only [h1, hTl, hTt, Bool.or_false, Bool.false_eq_true, if_false]
  refine wpAny_bind (W.self 0 s _ _ hst ?_)
  refine wpAny_bind (wpAny_holding (hint s _ _ hst fun b tk _ => ?_))
  refine wpAny_ite_split (fun _ => ?_) (fun _ => wpAny_pure ⟨plainId_quiet F.plain_extend_loop _, key _ c₀ _ hst (fun b o _ e => e) hS⟩)
  refine wpAny_bind (wpAny_rule ?_)
  refine wpAny_bind ?_
  show wpAny _ _ (updateSeq S (·.push .none) >>= fun _ => updateSeq S (·.pop)) _ _ _
  refine wpAny_bind (wpAny_updateSeq (s := { s with toks := tk }) hS rfl ?_)
  have hS₂ := Heap.get?_update_self (Obj.mapSeq (·.push Value.none)) hS rfl
  refine wpAny_updateSeq (hz := by seq_fits) hS₂ rfl ?_
  have hS₃ := Heap.get?_update_self (Obj.mapSeq (·.pop)) hS₂ rfl
  have oth : ∀ b o, b ≠ S → s.heap.get? b = some o → ((s.heap.update S (Obj.mapSeq (·.push Value.none))).update S (Obj.mapSeq (·.pop))).get? b = some o :=
    fun b o hb e => (Heap.get?_update_other _ _ (Ne.symm hb)).trans ((Heap.get?_update_other _ _ (Ne.symm hb)).trans e)
  exact wpAny_pure ⟨plainId_quiet F.plain_extend_loop _, key _ _ _ (W.frame 0 _ _ hst fun b hb o e => oth b o (fun q => hSf (q ▸ hb)) e) oth hS₃⟩
theorem list_walk {Q : Value → Shared → Prop} {it : Addr} {T : String} {fp wr : List Addr} {n : Nat} {P : Nat → Value → Prop} {St : Nat → Heap → Prop} (W : ∀ A : Around, A.handled = none → Walks prog w A it fp wr n P St) (hh : A.handled = none) (hn : n ≤ sizeLine)
    (hTl : (Value.type T == Value.type "list") = false) (hTt : (Value.type T == Value.type "tuple") = false) (hT : ∀ s : Shared, St 0 s.heap → s.TypeIs (.ref it) T)
    (hint : ∀ (A : Around) (s : Shared) (Q : Bool → Shared → Prop) (E : Value → Shared → Prop), St 0 s.heap → (∀ b tk, s.toks ≤ tk → Q b { s with toks := tk }) → wpAny (model prog w) A (Builtin.List.listLengthHint (.ref it)) Q E s)
    (hit : it ∈ fp) (hfp : ∀ b ∈ fp, b < s.heap.objs.size) (hst : St 0 s.heap)
    (hQ : ∀ h' tk acc' c', (∀ b o, b ∉ wr → s.heap.get? b = some o → h'.get? b = some o) →
      h'.get? s.heap.objs.size = some { cls := .type "list", dict := none, data := .seq acc' c', slots := #[] } → ItemsOf P acc' n → Q (.ref s.heap.objs.size) { s with heap := h', toks := tk }) :
    wpAny (model prog w) A (call (.type "list") [.ref it]) Q E s := by
  have hSf : s.heap.objs.size ∉ fp := fun h => Nat.lt_irrefl _ (hfp _ h)
  refine callType_codes (Q₁ := fun obj s₁ => obj = .ref s.heap.objs.size ∧ s₁ = { s with heap := s.heap.push { cls := .type "list", data := .seq #[] } }) F.called_list (F.typeCall_list_1 _) F.entry_list_init
    (code_list_new _ ⟨rfl, rfl⟩) fun obj s₁ h₁ => ?_
  obtain ⟨rfl, rfl⟩ := h₁
  have hS : (s.heap.push { cls := .type "list", data := .seq #[] }).get? s.heap.objs.size = some { cls := .type "list", data := .seq #[] } := Heap.get?_push_size _ rfl
  have hst1 : St 0 (s.heap.push { cls := .type "list", data := .seq #[] }) := (W A.in1.in1 hh).frame 0 _ _ hst fun b hb o e => Heap.get?_push_of_some _ e
  refine ⟨⟨_, hS, rfl⟩, F.args_list_init_2 _ _, ?_⟩
  show wpAny _ _ (do let old ← Builtin.List.listItems (.ref s.heap.objs.size); Builtin.List.listUpdate (.ref s.heap.objs.size) (fun _ => #[]); letGo old.toList.reverse; Builtin.List.listExtendWith (.ref s.heap.objs.size) (.ref it) .none) _ _ _
  refine wpAny_bind ?_
  unfold Builtin.List.listItems
  refine wpAny_bind (wpAny_seqItems (s := { s with heap := s.heap.push { cls := .type "list", data := .seq #[] } }) hS rfl (wpAny_pure ?_))
  show wpAny _ _ (updateSeq s.heap.objs.size (fun _ => #[]) >>= fun _ => letGo (#[] : Array Value).toList.reverse >>= fun _ => Builtin.List.listExtendWith (.ref s.heap.objs.size) (.ref it) .none) _ _ _
  refine wpAny_bind (wpAny_updateSeq (s := { s with heap := s.heap.push { cls := .type "list", data := .seq #[] } }) hS rfl ?_)
  have hS₂ := Heap.get?_update_self (Obj.mapSeq (fun _ => (#[] : Array Value))) hS rfl
  have oth : ∀ b o, b ≠ s.heap.objs.size → (s.heap.push { cls := .type "list", data := .seq #[] }).get? b = some o → ((s.heap.push { cls := .type "list", data := .seq #[] }).update s.heap.objs.size (Obj.mapSeq (fun _ => (#[] : Array Value)))).get? b = some o :=
    fun b o hb e => (Heap.get?_update_other _ _ (Ne.symm hb)).trans e
  refine wpAny_bind (wpAny_letGo ?_)
  refine extend_walk (A := A.in1) (W A.in1.in1 hh) hn hTl hTt hT (hint A.in1.in1) hit _ hSf .none _ hS₂ ((W A.in1.in1 hh).frame 0 _ _ hst1 fun b hb o e => oth b o (fun q => hSf (q ▸ hb)) e) fun h' tk acc' c' hk hS' hacc => ?_
  exact ⟨rfl, hQ h' tk acc' c' (fun b o hw e => hk b o (Nat.ne_of_lt (Heap.lt_size e)) hw (oth b o (Nat.ne_of_lt (Heap.lt_size e)) (Heap.get?_push_of_some _ e))) hS' hacc⟩
end

section
variable {prog : Program} {w : World} {A : Around} {E : Value → Shared → Prop} {s : Shared}
theorem hint_rev {it l : Addr} {i : Int} {Q : Bool → Shared → Prop} (hit : s.heap.IsRevIter it l i) (h : Q false s) : wpAny (model prog w) A (Builtin.List.listLengthHint (.ref it)) Q E s := by
  have hT : s.TypeIs (.ref it) "list_reverseiterator" := hit.typeIs
  unfold Builtin.List.listLengthHint
  refine wpAny_bind (wpAny_specialOf hT RT.nolen_lri ?_)
  show wpAny _ A (specialOf (Value.ref it) (Str.ofString "__length_hint__") >>= _) _ _ _
  refine wpAny_bind (wpAny_specialOf hT RT.hint_lri ?_)
  generalize hid : ("list_reverseiterator.__length_hint__" : String) = id0
  wp_delta
  rw [show splitId id0 = some ("list_reverseiterator", "__length_hint__") from by subst hid; decide +kernel]
  subst hid
  refine wpAny_bind (wpAny_isInstance (b := true) hT (by rw [isSubtype_type]; kernel_rfl) ?_)
  exact wpAny_pure h
theorem nolen_rt : typeLookup (.type "reversed") "__len__" = pure none := by rw [typeLookup_type, builtinLookup_eq_fast]; kernel_rfl
theorem slot_rt_hint : Slot "reversed" "__length_hint__" "reversed.__length_hint__" :=
  .of (owner := "reversed") (n := "__length_hint__") (by rw [typeLookup_type, builtinLookup_eq_fast]; kernel_rfl) (by decide +kernel) (by decide +kernel) (by decide +kernel)
    (by first | exact .inl (by decide +kernel) | exact .inr (by decide +kernel)) (by rw [isSubtype_type]; kernel_rfl)
theorem entry_rt_hint : entryFor table "reversed.__length_hint__" = some Builtin.«reversed.__length_hint__» := entryFor_of_tree (by kernel_rfl)
theorem args_rt_hint (a : Value) : argsOk "reversed.__length_hint__" ⟨[a], []⟩ := by
  unfold argsOk; rw [signature?_of (id := "reversed.__length_hint__") (n := ['_', '_', 't', 'n', 'i', 'h', '_', 'h', 't', 'g', 'n', 'e', 'l', '_', '_']) (o := ['d', 'e', 's', 'r', 'e', 'v', 'e', 'r']) (by kernel_rfl) RT.owner_rt]; kernel_rfl
theorem call_rt_hint {it t : Addr} {items : Array Value} {Q : Value → Shared → Prop} (hit : RT.IsRt s.heap it t ((items.size : Int) - 1)) (ht : IsTup s.heap t items) (hn : items.size ≤ sizeLine)
    (hQ : ∀ i u tk, s.toks ≤ tk → 0 ≤ i → i ≤ (sizeLine : Int) → Q (.int i u) { s with toks := tk }) : wpAny (model prog w) A (call (.builtin "reversed.__length_hint__") [.ref it]) Q E s := by
  obtain ⟨o, ho, hc, hd⟩ := id hit
  refine wpAny_call_entry slot_rt_hint hit.typeIs entry_rt_hint ?_ (args_rt_hint _)
  unfold Builtin.«reversed.__length_hint__»
  refine wpAny_bind (wpAny_of_eq (a := Value.ref it) rfl ?_)
  try dsimp only
  refine wpAny_bind (wpAny_field ho hd (x := .ref t) rfl ?_)
  try dsimp only
  rw [sizeLine_eq] at hn
  refine wpAny_bind (PyProof.Rows.len_tuple ht (by omega) ?_)
  try dsimp only
  refine wpAny_bind (wpAny_of_eq (a := some (items.size : Int)) rfl ?_)
  try dsimp only
  refine wpAny_bind (wpAny_field (s := { s with toks := s.toks + 1 + 1 }) ho hd (x := rawInt ((items.size : Int) - 1)) rfl ?_)
  show wpAny _ _ (if (items.size : Int) < (items.size : Int) - 1 + 1 then _ else _) _ _ _
  rw [if_neg (by omega)]
  refine wpAny_bind (wpAny_mkInt ?_)
  exact wpAny_pure ⟨_, rfl, hQ _ _ _ (by simp only; omega) (by omega) (by rw [sizeLine_eq]; omega)⟩
theorem hint_rt {it t : Addr} {items : Array Value} {Q : Bool → Shared → Prop} (hit : RT.IsRt s.heap it t ((items.size : Int) - 1)) (ht : IsTup s.heap t items) (hn : items.size ≤ sizeLine)
    (h : ∀ b tk, s.toks ≤ tk → Q b { s with toks := tk }) : wpAny (model prog w) A (Builtin.List.listLengthHint (.ref it)) Q E s := by
  have hT : s.TypeIs (.ref it) "reversed" := hit.typeIs
  unfold Builtin.List.listLengthHint
  refine wpAny_bind (wpAny_specialOf hT nolen_rt ?_)
  show wpAny _ A (specialOf (Value.ref it) (Str.ofString "__length_hint__") >>= _) _ _ _
  refine wpAny_bind (wpAny_specialOf hT slot_rt_hint.lookup ?_)
  generalize hid : ("reversed.__length_hint__" : String) = id0
  wp_delta
  rw [show splitId id0 = some ("reversed", "__length_hint__") from by subst hid; decide +kernel]
  subst hid
  refine wpAny_bind (wpAny_isInstance (b := true) hT (by rw [isSubtype_type]; kernel_rfl) ?_)
  rw [if_neg (by decide)]
  dsimp only
  split
  · rename_i hz
    exact absurd hz (by decide +kernel)
  refine wpAny_bind (wpAny_rule ?_)
  refine wpAny_bind (wpAny_of_eq (slot_rt_hint.bind _) ?_)
  dsimp only
  refine wpAny_bind (wpAny_attempt ?_)
  refine call_rt_hint hit ht hn fun i u tk h1 h2 h3 => ?_
  dsimp only
  refine wpAny_bind (wpAny_of_eq (a := some i) rfl ?_)
  dsimp only
  rw [sizeLine_eq] at h3
  have f1 : Builtin.List.listFitsIndex i = true := by unfold Builtin.List.listFitsIndex; simp; omega
  have f2 : Builtin.List.listTooLong i.toNat = false := by unfold Builtin.List.listTooLong; rw [sizeLine_eq]; simp; omega
  rw [if_neg (by rw [f1]; decide), if_neg (by omega), if_neg (by rw [f2]; decide)]
  exact wpAny_pure (h _ _ h1)
theorem walks_rt {prog : Program} {w : World} {A : Around} (hh : A.handled = none) (I t : Addr) (hne : t ≠ I) (items : Array Value) (hn : items.size ≤ sizeLine) :
    Walks prog w A I [I, t] [I] items.size (fun i v => items[items.size - 1 - i]? = some v) (fun i h => i ≤ items.size ∧ RT.IsRt h I t ((items.size : Int) - 1 - (i : Int)) ∧ IsTup h t items) where
  sub := fun b hb => by simp at hb; simp [hb]
  frame := fun _ _ _ x hk => ⟨x.1, x.2.1.at fun o e => hk I (by simp) o e, let ⟨o, ho, r⟩ := x.2.2; ⟨o, hk t (by simp) o ho, r⟩⟩
  item := fun i s Q E hi x hQ => by
    have e : (items.size : Int) - 1 - (i : Int) = ((items.size - 1 - i : Nat) : Int) := by omega
    have hit := x.2.1
    rw [e] at hit
    have hx : items[items.size - 1 - i]? = some (items[items.size - 1 - i]'(by omega)) := Array.getElem?_eq_getElem (by omega)
    refine RT.next_rt_item hit x.2.2 hx hn fun h' hit' hs' => ?_
    have e2 : ((items.size - 1 - i : Nat) : Int) - 1 = (items.size : Int) - 1 - ((i + 1 : Nat) : Int) := by omega
    rw [e2] at hit'
    exact hQ _ h' _ hx ⟨hi, hit', let ⟨o, ho, r⟩ := x.2.2; ⟨o, (hs'.2 t hne).trans ho, r⟩⟩ fun b o hb eo => hs'.extBut b o (fun h => hb (by simp [h])) eo
  done := fun s Q E x hQ => by
    have e : (items.size : Int) - 1 - (items.size : Int) = -1 := by omega
    have hit := x.2.1
    rw [e] at hit
    exact RT.next_rt_end hh hit fun h' he' => hQ h' s.toks fun b o hb eo => he' b o (fun h => hb (by simp [h])) eo
  self := fun _ _ _ _ x hQ => RT.iter_rt x.2.1 hQ
end

def tListRev (K : PySem.W.Frag) (te : TE) : TE := fun σ H Q => te σ H fun v H1 => ∃ (a : Addr) (xs : List V), v = .ref a ∧ (SqL K H1 a xs ∨ SqT K H1 a xs) ∧ ∀ q, H1 q = none → Q (.ref q) (upd H1 q (.lst xs.reverse))
section
variable {X : Cx}
theorem pe_listRev {e : Expr} {te : TE} {p p2 pos pos2 : Pos} (hc : X.calm = true) (hg : Gl X "list") (hm : X.mg "list" = none) (hg2 : Gl X "reversed") (hm2 : X.mg "reversed" = none) (he : PE X e te)
    (hs : starEach [e] X.env = (false, eval e X.env) :: starEach [] X.env := by rfl)
    (hs2 : starEach [.Call (.Name "reversed" p2) [e] [] pos2] X.env = (false, eval (.Call (.Name "reversed" p2) [e] [] pos2) X.env) :: starEach [] X.env := by rfl) :
    PE X (.Call (.Name "list" p) [.Call (.Name "reversed" p2) [e] [] pos2] [] pos) (tListRev X.K te) := by
  refine ⟨fun pins s σ H Q I h => ?_⟩
  refine Call_ (ld_blt I hg hm boot_list (PyProof.Rows.callWith_type1 (args_cons (Call_ (ld_blt I hg2 hm2 PyProof.Rows.boot_reversed (PyProof.Rows.callWith_type1 (args_cons (thn (he.run pins s σ H _ I h) fun u s1 ⟨v, H1, I1, r1, q1⟩ => args_nil ?_) hs) hs rfl))) hs2) hs2 rfl))
  obtain ⟨a, xs, ev, hq, q⟩ := q1
  subst ev
  obtain rfl : u = Value.ref a := r1
  rcases hq with hq | hq
  · obtain ⟨its, rv, p', hz⟩ := I1.list hq
    refine call_reversed_list p'.isList (args_nil ?_)
    have hl := p'.isList
    obtain ⟨ol, hol, _⟩ := id hl
    have hne : a ≠ s1.heap.objs.size := Nat.ne_of_lt (Heap.lt_size hol)
    have hn : its.toArray.size ≤ sizeLine := by rw [List.size_toArray, ← rv.length]; exact hz
    have e0 : ((its.toArray.size : Int) - 1 - ((0 : Nat) : Int)) = (its.toArray.size : Int) - 1 := by omega
    refine list_walk (s := { s1 with heap := s1.heap.push (revObj a ((its.toArray.size : Int) - 1)) }) (fun A hA => Walks.listRev (A := A) hA s1.heap.objs.size a hne its.toArray) (I1.ok.hd hc) hn (by decide) (by decide) (T := "list_reverseiterator") (fun s x => x.2.1.typeIs)
      (fun A s Q E x h => hint_rev x.2.1 (h false s.toks (Nat.le_refl _))) (by simp) (fun b hb => ?_) ⟨Nat.zero_le _, by rw [e0]; exact ⟨_, Heap.get?_push_size _ rfl, rfl, rfl⟩, hl.push _⟩ fun h' tk acc c' hk hS hi => ?_
    · simp only [List.mem_cons, List.not_mem_nil, or_false] at hb
      rcases hb with rfl | rfl
      · simp
      · simp; exact Nat.lt_succ_of_lt (Heap.lt_size hol)
    have hk' : ∀ b o, s1.heap.get? b = some o → h'.get? b = some o := fun b o e => hk b o (fun m => Nat.ne_of_lt (Heap.lt_size e) (by simpa using m)) (Heap.get?_push_of_some _ e)
    have hsz : s1.heap.objs.size ≤ (s1.heap.push (revObj a ((its.toArray.size : Int) - 1))).objs.size := by simp
    refine ⟨.ref (s1.heap.push (revObj a ((its.toArray.size : Int) - 1))).objs.size, upd H1 (s1.heap.push (revObj a ((its.toArray.size : Int) - 1))).objs.size (.lst xs.reverse), I1.laid hk' hsz (show ObjOk X.prog X.w _ _ _ (.lst xs.reverse) from ⟨by rw [List.length_reverse]; exact hz, acc.toList, c', RT.vals_rev rv hi, ?_⟩), rfl, q _ (I1.hok.fresh hsz)⟩
    rw [Array.toArray_toList]; exact hS
  · obtain ⟨its, rv, p', hz⟩ := I1.tuple hq
    have hz' := hz
    rw [sizeLine_eq] at hz'
    have hl := rv.length
    refine RT.call_reversed_tup p' (fun A E Q k => PyProof.Rows.len_tuple p' (by simp only [List.size_toArray]; omega) k) (args_nil ?_)
    obtain ⟨ol, hol, hrest⟩ := id p'
    have hne : a ≠ s1.heap.objs.size := Nat.ne_of_lt (Heap.lt_size hol)
    have hn : its.toArray.size ≤ sizeLine := by rw [List.size_toArray, ← rv.length]; exact hz
    have e0 : ((its.toArray.size : Int) - 1 - ((0 : Nat) : Int)) = (its.toArray.size : Int) - 1 := by omega
    refine list_walk (s := { s1 with heap := s1.heap.push (RT.rtObj a ((its.toArray.size : Int) - 1)), toks := s1.toks + 1 + 1 }) (fun A hA => walks_rt (A := A) hA s1.heap.objs.size a hne its.toArray hn) (I1.ok.hd hc) hn (by decide) (by decide) (T := "reversed") (fun s x => x.2.1.typeIs)
      (fun A s Q E x h => hint_rt (by have := x.2.1; rw [e0] at this; exact this) x.2.2 hn h) (by simp) (fun b hb => ?_) ⟨Nat.zero_le _, by rw [e0]; exact ⟨_, Heap.get?_push_size _ rfl, rfl, rfl⟩, ⟨ol, Heap.get?_push_of_some _ hol, hrest⟩⟩ fun h' tk acc c' hk hS hi => ?_
    · simp only [List.mem_cons, List.not_mem_nil, or_false] at hb
      rcases hb with rfl | rfl
      · simp
      · simp; exact Nat.lt_succ_of_lt (Heap.lt_size hol)
    have hk' : ∀ b o, s1.heap.get? b = some o → h'.get? b = some o := fun b o e => hk b o (fun m => Nat.ne_of_lt (Heap.lt_size e) (by simpa using m)) (Heap.get?_push_of_some _ e)
    have hsz : s1.heap.objs.size ≤ (s1.heap.push (RT.rtObj a ((its.toArray.size : Int) - 1))).objs.size := by simp
    refine ⟨.ref (s1.heap.push (RT.rtObj a ((its.toArray.size : Int) - 1))).objs.size, upd H1 (s1.heap.push (RT.rtObj a ((its.toArray.size : Int) - 1))).objs.size (.lst xs.reverse), I1.laid hk' hsz (show ObjOk X.prog X.w _ _ _ (.lst xs.reverse) from ⟨by rw [List.length_reverse]; exact hz, acc.toList, c', RT.vals_rev rv hi, ?_⟩), rfl, q _ (I1.hok.fresh hsz)⟩
    rw [Array.toArray_toList]; exact hS
end

section
variable {X : Cx} {c : Cfg} {W : WX}
theorem L_listRev {a : CE} {e1 : Expr} {p p2 pos pos2 : Pos} (hc : X.calm = true) (hg : Gl X "list") (hm : X.mg "list" = none) (hg2 : Gl X "reversed") (hm2 : X.mg "reversed" = none) (hp : plainE e1 = true) (ha : PE X e1 (tE X.K X.mg c W a)) :
    PE X (.Call (.Name "list" p) [.Call (.Name "reversed" p2) [e1] [] pos2] [] pos) (tL X.K X.mg c W (.revl (.list a))) :=
  PE_imp (pe_listRev hc hg hm hg2 hm2 ha (star_plain hp)) fun σ H Q ⟨m, F, S, ρ, s, r, h⟩ => by
    have e : evalL c (.revl (.list a)) ρ S = (evalE c a ρ S).bd fun x S1 => (Res.of (items S1 x) S1).bd fun xs S2 => .ok (xs.reverse, S2) := by
      rw [evalL, evalL]
      cases evalE c a ρ S <;> rfl
    rw [e] at h
    refine ⟨m, F, S, ρ, s, r, (FinL.bd h).imp fun x S1 m1 H1 g1 s1 h1 v rv => ?_⟩
    cases z : items S1 x with
    | none => rw [z] at h1; exact h1.elim
    | some xs =>
      rw [z] at h1
      obtain ⟨b, ws, rfl, hq, hr⟩ := items_at s1 rv z
      refine ⟨b, ws, rfl, hq, fun q nq => ?_⟩
      exact FinL.lay (xs := xs.reverse) (S := S1) h1 s1 hr.rev nq
end
end Rf


namespace Rf
open PySem PySem.Spec PyProof.Rows L2
def keyT (e : Int × Value) : Str := match e.2 with | .str k _ => k | _ => Str.empty
def GoodT (w : World) (e : Int × Value) : Prop := ∃ k tk, e.2 = Value.str k tk ∧ e.1 = hashStr w k

def SetT (w : World) (h : Heap) (a : Addr) (S : Str → Bool) (n : Nat) : Prop :=
  ∃ o es ep t, h.get? a = some o ∧ o.ExactSet ∧ o.data = .set es ep t ∧ (∀ e ∈ es.toList, GoodT w e) ∧ (es.toList.map keyT).Nodup ∧ (∀ k, S k = true ↔ k ∈ es.toList.map keyT) ∧
    es.size < scanBound ∧ t.fits es.size = true ∧ es.size = n ∧ Ris t.place.toList ∧ (w.params.followText "set-order" = true ∨ t.led = true)
section
variable {P : Program} {w : World} {h h' : Heap} {a : Addr} {S : Str → Bool} {n : Nat}
theorem SetT.at (R : SetT w h a S n) (k : ∀ o, h.get? a = some o → h'.get? a = some o) : SetT w h' a S n := by
  obtain ⟨o, es, ep, t, ho, r⟩ := R
  exact ⟨o, es, ep, t, k o ho, r⟩
theorem SetT.congr {S' : Str → Bool} (R : SetT w h a S n) (e : ∀ k, S' k = S k) : SetT w h a S' n := by
  have q : S' = S := funext e
  rw [q]; exact R
theorem strK_is (k : Str) (u : Tok) : (PySem.strKind P w).is k (.str k u) = true := by
  show Value.isStrOf k (.str k u) = true
  simp [Value.isStrOf]
theorem goodT_elems {l : List (Int × Value)} (g : ∀ e ∈ l, GoodT w e) : ElemsOf (PySem.strKind P w) l := fun e he => by
  obtain ⟨k, tk, h1, h2⟩ := g e he
  exact ⟨⟨k, by rw [h1]; exact strK_is k tk, h2⟩, by rw [h1]; rfl⟩
theorem goodT_is {e : Int × Value} (g : GoodT w e) (k : Str) : (PySem.strKind P w).is k e.2 = true ↔ keyT e = k := by
  obtain ⟨k0, tk, h1, _⟩ := g
  unfold keyT
  rw [h1]
  constructor
  · intro z
    exact (PySem.strKind P w).inj (.str k0 tk) k0 k (strK_is k0 tk) z
  · rintro rfl
    exact strK_is _ tk
theorem goodT_mem {l : List (Int × Value)} (g : ∀ e ∈ l, GoodT w e) (k : Str) : k ∈ l.map keyT ↔ ∃ e ∈ l, (PySem.strKind P w).is k e.2 = true := by
  rw [List.mem_map]
  constructor
  · rintro ⟨e, he, q⟩
    exact ⟨e, he, (goodT_is (g e he) k).2 q⟩
  · rintro ⟨e, he, q⟩
    exact ⟨e, he, (goodT_is (g e he) k).1 q⟩
end
section
variable {P : Program} {w : World} {A : Around} {E : Value → Shared → Prop} {s : Shared} {a : Addr} {S : Str → Bool} {n : Nat}
theorem setT_tail {g : Bool → Sem Unit} (hg : ∀ (b : Bool) (s₁ : Shared) (Q' : Unit → Shared → Prop), Q' () s₁ → wpAny (model P w) A (g b) Q' E s₁)
    {o : Obj} {es : Array (Int × Value)} {ep : Nat} {t : SetTable} (ho : s.heap.get? a = some o) (hex : o.ExactSet) (hd : o.data = .set es ep t)
    {es1 : Array (Int × Value)} {t2 : SetTable} {S' : Str → Bool} (g1 : ∀ e ∈ es1.toList, GoodT w e) (nd1 : (es1.toList.map keyT).Nodup) (m1 : ∀ k, S' k = true ↔ k ∈ es1.toList.map keyT)
    (hb1 : es1.size < scanBound) (hf2 : t2.fits es1.size = true) (hr : Ris t2.place.toList) (hl : w.params.followText "set-order" = true ∨ t2.led = true) {wasDummy : Bool} {R : Option Bool → Shared → Prop}
    (hR : ∀ h', Heap.SameBut a s.heap h' → SetT w h' a S' es1.size → R (some true) { s with heap := h' }) :
    wpAny (model P w) A (do
        storeSet a es1 t2
        if (!wasDummy && t2.tooFull) = true then do
            g (relayAll t2 es1 (SetTable.grown es1.size)).2.2
            storeSet a (relayAll t2 es1 (SetTable.grown es1.size)).1 (relayAll t2 es1 (SetTable.grown es1.size)).2.1
            pure (some true)
          else pure (some true)) R E s := by
  refine wpAny_bind (wpAny_storeSet_of ho hd ?_ (fits_of_scanBound hb1))
  have ho1 := store_at (es' := es1) (t' := t2) ho hd
  have sb1 := Heap.SameBut.update s.heap a (Obj.putSet es1 t2)
  split
  · have pm := relayAll_perm t2 es1 (SetTable.grown es1.size)
    have hf3 := relayAll_fits t2 es1 (SetTable.grown es1.size)
    have hr3 := relayAll_ris t2 es1 (SetTable.grown es1.size)
    have hl3 := relayAll_led t2 es1 (SetTable.grown es1.size)
    generalize relayAll t2 es1 (SetTable.grown es1.size) = Z at pm hf3 hr3 hl3 ⊢
    obtain ⟨es2, t3, gave⟩ := Z
    dsimp only at pm hf3 hr3 hl3 ⊢
    have hsz : es2.size = es1.size := by rw [← Array.length_toList, pm.length_eq, Array.length_toList]
    have hb2 : es2.size < scanBound := by rw [hsz]; exact hb1
    refine wpAny_bind (hg _ _ _ ?_)
    refine wpAny_bind (wpAny_storeSet_of ho1 rfl ?_ (fits_of_scanBound hb2))
    have ho2 := store_at (es' := es2) (t' := t3) ho1 rfl
    refine wpAny_pure (hR _ (sb1.trans (Heap.SameBut.update _ a _)) ?_)
    exact ⟨_, es2, _, t3, ho2, hex, rfl, fun e he => g1 e (pm.mem_iff.mp he), (pm.map keyT).nodup_iff.mpr nd1, fun k => (m1 k).trans (pm.map keyT).mem_iff.symm, hb2, hf3, hsz, hr3,
      hl.imp id fun z => by rw [hl3]; exact z⟩
  · exact wpAny_pure (hR _ sb1 ⟨_, es1, _, t2, ho1, hex, rfl, g1, nd1, m1, hb1, hf2, rfl, hr, hl⟩)
theorem setT_add {k : Str} {tk : Tok} {Q : Bool → Shared → Prop} (R : SetT w s.heap a S n) (room : n + 1 < scanBound)
    (hQ : ∀ h', Heap.SameBut a s.heap h' → SetT w h' a (fun j => S j || decide (j = k)) (if S k = true then n else n + 1) → Q (!S k) { s with heap := h' }) :
    wpAny (model P w) A (setAddHashed a (.str k tk) (hashStr w k)) Q E s := by
  obtain ⟨o, es, ep, t, ho, hex, hd, g, nd, hm, hb, hf, hn, hr, hl⟩ := R
  have hkey : (PySem.strKind P w).is k (.str k tk) = true := strK_is k tk
  have hsc : (Value.str k tk).scannable = true := rfl
  have hel : ElemsOf (PySem.strKind P w) es.toList := goodT_elems g
  unfold setAddHashed setAddHashedIn
  refine wpAny_holding (wpAny_bind (wpAny_setState_of ho hd hf ?_))
  dsimp only
  rw [byScan_of hsc hb hel]
  simp only [↓reduceIte]
  unfold setAddByScan
  refine wpAny_bind ?_
  refine wpAny_bind (wpAny_rule ?_)
  refine wpAny_bind (wpAny_setScan_of (knd := PySem.strKind P w) (k := k) hkey ho hd hf hel ?_)
  cases hfi : List.findIdx? (fun e => (PySem.strKind P w).is k e.2) es.toList with
  | some j =>
    dsimp only
    obtain ⟨hj, pj, _⟩ := List.findIdx?_eq_some_iff_getElem.mp hfi
    have hSk : S k = true := (hm k).2 ((goodT_mem (P := P) (w := w) g k).2 ⟨es.toList[j], List.getElem_mem hj, pj⟩)
    refine wpAny_pure (wpAny_pure ?_)
    have q := hQ s.heap (Heap.SameBut.refl a s.heap) ⟨o, es, ep, t, ho, hex, hd, g, nd, fun i => by
      rw [Bool.or_eq_true, decide_eq_true_eq, ← hm i]
      exact ⟨fun z => z.elim id (fun e => e ▸ hSk), .inl⟩, hb, hf, by rw [if_pos hSk]; exact hn, hr, hl⟩
    rw [hSk] at q
    exact q
  | none =>
    dsimp only
    have hnk : k ∉ es.toList.map keyT := fun z => by
      obtain ⟨e, he, q⟩ := (goodT_mem (P := P) (w := w) g k).1 z
      have c := List.findIdx?_eq_none_iff.mp hfi e he
      rw [q] at c
      cases c
    have hSk : S k = false := by
      cases q : S k with
      | false => rfl
      | true => exact absurd ((hm k).1 q) hnk
    have hgw : ∀ (b : Bool) {s₁ : Shared} {Q' : Unit → Shared → Prop}, Q' () s₁ → wpAny (model P w) A (match b with | true => rule "set.scan.the-table-gave-way" | false => pure ()) Q' E s₁ :=
      fun b s₁ Q' q => by cases b <;> first | exact wpAny_pure q | exact wpAny_rule q
    have pm := layNew_perm t es (hashStr w k) (.str k tk)
    have hf1 := layNew_fits t es (hashStr w k) (.str k tk)
    have hr1 := layNew_ris t es (hashStr w k) (.str k tk) hr
    have hl1 := layNew_led t es (hashStr w k) (.str k tk)
    generalize layNew t es (hashStr w k) (.str k tk) = Z at pm hf1 hr1 hl1 ⊢
    obtain ⟨es1, t1, wasDummy, gave⟩ := Z
    dsimp only at pm hf1 hr1 hl1 ⊢
    rw [Array.toList_push] at pm
    have pc : es1.toList.Perm ((hashStr w k, Value.str k tk) :: es.toList) := pm.trans (List.perm_append_singleton _ _)
    have pk : (es1.toList.map keyT).Perm (k :: es.toList.map keyT) := pc.map keyT
    have g1 : ∀ e ∈ es1.toList, GoodT w e := fun e he => by
      rcases List.mem_cons.mp (pc.mem_iff.mp he) with z | z
      · rw [z]; exact ⟨k, tk, rfl, rfl⟩
      · exact g e z
    have nd1 : (es1.toList.map keyT).Nodup := pk.nodup_iff.mpr (List.nodup_cons.mpr ⟨hnk, nd⟩)
    have m1 : ∀ i, (S i || decide (i = k)) = true ↔ i ∈ es1.toList.map keyT := fun i => by
      rw [Bool.or_eq_true, decide_eq_true_eq, hm i, pk.mem_iff, List.mem_cons]
      exact Or.comm
    have hsz : es1.size = n + 1 := by rw [← Array.length_toList, pc.length_eq, List.length_cons, Array.length_toList, hn]
    have hb1 : es1.size < scanBound := by rw [hsz]; exact room
    have hled : w.params.followText "set-order" = true ∨ t1.led = true := hl.imp id fun z => by rw [hl1]; exact z
    have fin : ∀ h', Heap.SameBut a s.heap h' → SetT w h' a (fun j => S j || decide (j = k)) es1.size → Q true { s with heap := h' } := fun h' sb r => by
      have q := hQ h' sb
      rw [hSk] at q
      rw [hsz] at r
      exact q r
    refine wpAny_bind (hgw _ ?_)
    split
    · refine wpAny_bind ?_
      rw [hashByValue_scannable 8 hsc]
      refine wpAny_pure ?_
      refine setT_tail ?_ ho hex hd g1 nd1 m1 hb1 ?_ ?_ ?_ ?_
      · intro b s₁ Q' q; cases b <;> first | exact wpAny_pure q | exact wpAny_rule q
      · first | (split <;> first | exact hf1 | exact SetTable.fits_plain_off hf1) | exact hf1
      · first | (split <;> exact hr1) | exact hr1
      · first | (split <;> exact hled) | exact hled
      · intro h' sb r; dsimp only; exact wpAny_pure (fin h' sb r)
    · refine wpAny_bind (wpAny_pure ?_)
      simp only [↓reduceIte]
      refine setT_tail ?_ ho hex hd g1 nd1 m1 hb1 hf1 hr1 hled ?_
      · intro b s₁ Q' q; cases b <;> first | exact wpAny_pure q | exact wpAny_rule q
      · intro h' sb r; dsimp only; exact wpAny_pure (fin h' sb r)
end
end Rf


namespace Rf
open PySem PySem.Spec PyProof.Rows L2
section
variable {P : Program} {w : World} {A : Around} {E : Value → Shared → Prop} {s : Shared} {a : Addr} {S : Str → Bool} {n : Nat}
theorem set_new_led (a : Value) {Q₁ : Value → Shared → Prop}
    (h : Q₁ (.ref s.heap.objs.size) { s with heap := s.heap.push { cls := .type "set", dict := none, data := .set #[] 0 (.fresh 0 0 (!w.params.followText "set-order")) } }) :
    codeAny (model P w) A (.call (.builtin "set.__new__") ⟨[.type "set", a], []⟩) (wants Q₁ E) s := by
  refine codeAny_of_tree ?_
  show wpAny _ A.in1 (do checkBuiltinCall "set.__new__" ⟨[.type "set", a], []⟩; again (.builtin "set.__new__" ⟨[.type "set", a], []⟩)) _ _ s
  refine wpAny_bind (wpAny_of_eq (F.newCall_set_1 a) (wpAny_pure ⟨plainId_quiet F.plain_set_new _, codeAny_builtin F.entry_set_new ?_⟩))
  rw [Around.under_plainId F.plain_set_new _]
  unfold Builtin.«set.__new__» Builtin.Frozenset.newClass
  have hsub := sub_set_self
  obtain ⟨hp, g, d, tk, os⟩ := s
  dsimp only
  wp_walk
  refine wpAny_askSetting (wpAny_pure ?_)
  dsimp only
  simp only [newObj]
  refine wpAny_bind (wpAny_alloc (wpAny_pure ?_))
  exact wpAny_pure h
theorem setT_fresh {h : Heap} (w : World) : SetT w (h.push { cls := .type "set", dict := none, data := .set #[] 0 (.fresh 0 0 (!w.params.followText "set-order")) }) h.objs.size (fun _ => false) 0 :=
  ⟨_, #[], 0, _, Heap.get?_push_size _ rfl, ⟨rfl, rfl, rfl⟩, rfl, (fun e he => by simp at he), (by simp), (fun k => by simp), (by decide), (by rfl), rfl, List.Pairwise.nil, by
    show _ ∨ (!w.params.followText "set-order") = true
    cases w.params.followText "set-order"
    · exact .inr rfl
    · exact .inl rfl⟩
variable {R : Result → Shared → Prop} {I : Addr} {fp wr : List Addr} {G : Array GenState → Array GenState → Prop} {Pv : Nat → Value → Prop} {St : Nat → Shared → Prop}
theorem loopT (W : WalksS P w A.in1 I fp wr G n Pv St) (Sa : Addr) (hSf : Sa ∉ fp) (xs : List Str) (hsz : xs.length = n) (hn1 : n < 4000)
    (hval : ∀ i v, Pv i v → ∃ t, v = .str (xs.getD i Str.empty) t) :
    ∀ (k i : Nat) (s : Shared), n - i = k → i ≤ n → St i s →
      (∃ m, m ≤ i ∧ SetT w s.heap Sa (fun k' => decide (k' ∈ xs.take i)) m) →
      (∀ s', Moved (Sa :: wr) G s s' → (∃ m, m ≤ n ∧ SetT w s'.heap Sa (fun k' => decide (k' ∈ xs)) m) → R (.ok (.ret .none)) s') →
      codeAny (model P w) A (.builtin "set.update.loop" ⟨[.ref Sa, .ref I], []⟩) R s := by
  have hSw : Sa ∉ wr := fun h => hSf (W.sub _ h)
  have hsub : ∀ b ∈ wr, b ∈ Sa :: wr := fun b hb => List.mem_cons_of_mem _ hb
  intro k
  induction k with
  | zero =>
    intro i s hk hi hst hS hR
    have hin : i = n := by omega
    subst hin
    refine codeAny_builtin PyProof.Rows.F.entry_set_update_loop ?_
    rw [Around.under_plainId PyProof.Rows.F.plain_set_update_loop _]
    show wpAny _ A.in1 (pyNext (.ref I) >>= _) _ _ s
    refine wpAny_bind (W.done s _ _ hst fun s' hm => ?_)
    show wpAny _ A.in1 (ret Value.none) _ _ s'
    refine wpAny_pure (hR s' (hm.mono hsub) ?_)
    obtain ⟨m, hm1, hS⟩ := hS
    rw [List.take_of_length_le (by omega)] at hS
    exact ⟨m, hm1, hS.at fun o e => hm.heap Sa _ hSw e⟩
  | succ k ih =>
    intro i s hk hi hst hS hR
    have hlt : i < n := by omega
    refine codeAny_builtin PyProof.Rows.F.entry_set_update_loop ?_
    rw [Around.under_plainId PyProof.Rows.F.plain_set_update_loop _]
    show wpAny _ A.in1 (pyNext (.ref I) >>= _) _ _ s
    refine wpAny_bind (W.item i s _ _ hlt hst fun v s' hP hst' hm => ?_)
    obtain ⟨t, rfl⟩ := hval i v hP
    obtain ⟨m, hm1, hS⟩ := hS
    have hS' := hS.at (h' := s'.heap) fun o e => hm.heap Sa _ hSw e
    show wpAny _ A.in1 (holding [Value.str (xs.getD i Str.empty) t] (setAdd Sa (.str (xs.getD i Str.empty) t)) >>= _) _ _ s'
    refine wpAny_bind (wpAny_holding ?_)
    unfold setAdd
    refine wpAny_holding ?_
    refine wpAny_bind ((PySem.strKind P w).pyHash (k := xs.getD i Str.empty) (strK_is _ _) ?_)
    refine setT_add (s := { s' with toks := s'.toks + 1 }) hS' (by have : (4001 : Nat) < scanBound := by decide
                                                                   omega) fun h' hsb hS2 => ?_
    have hSi : ∃ m, m ≤ i + 1 ∧ SetT w h' Sa (fun k' => decide (k' ∈ xs.take (i + 1))) m := by
      refine ⟨_, ?_, SetT.congr hS2 fun k' => ?_⟩
      · split <;> omega
      · have hl : i < xs.length := by omega
        have ex : xs.getD i Str.empty = xs[i] := by rw [List.getD_eq_getElem?_getD, List.getElem?_eq_getElem hl]; rfl
        rw [List.take_succ_eq_append_getElem hl, ex, ← Bool.decide_or]
        apply decide_eq_decide.mpr
        rw [List.mem_append, List.mem_singleton]
    refine wpAny_pure ⟨plainId_quiet PyProof.Rows.F.plain_set_update_loop _, ih (i + 1) _ (by omega) hlt (W.frame _ s' _ _ hst' (Nat.le_succ _) fun b hb o e => ?_) hSi fun s'' hm'' hS'' => ?_⟩
    · rw [hsb.2 b (fun h : b = Sa => hSf (by rw [← h]; exact hb))]; exact e
    · refine hR s'' (Moved.trans W.gtrans ((hm.mono hsub).then_heap (Nat.le_succ _) fun b o hb e => ?_) hm'') hS''
      rw [hsb.2 b (fun h : b = Sa => hb (by rw [h]; exact List.mem_cons_self))]; exact e
end
section
variable {prog : Program} {w : World} {A : Around} {E : Value → Shared → Prop} {s : Shared}
theorem call_setT {l : Addr} {items : Array Value} {xs : List Str} {Q : Value → Shared → Prop}
    (hh : A.handled = none) (hl : s.heap.IsList l items) (hi : PyProof.Rows.StrsAre items.toList xs) (hn1 : xs.length < 4000)
    (h : ∀ (h' : Heap) (tk m : Nat), m ≤ xs.length → SetT w h' s.heap.objs.size (fun k' => decide (k' ∈ xs)) m →
      (∀ b o, b < s.heap.objs.size → s.heap.get? b = some o → h'.get? b = some o) → Q (.ref s.heap.objs.size) { s with heap := h', toks := tk }) :
    wpAny (model prog w) A (call (.type "set") [.ref l]) Q E s := by
  obtain ⟨c, tl, hmro⟩ := PySem.F.called_set.mro
  have hmade := PySem.F.called_set.made
  have hsub := PySem.F.called_set.sub
  refine wpAny_call (codeAny_of_tree ?_)
  show wpAny _ _ (callAny (.type "set") _) _ _ _
  refine wpAny_pure ⟨Code.quiet_builtin _ (by decide +kernel), codeAny_builtin PySem.F.entry_type_call ?_⟩
  rw [Around.under_plain (weight_type_call_type "set" [.ref l] []) rfl]
  have h1 := PySem.F.called_set.notType
  have h2 := PySem.F.called_set.canCreate
  have hct := PySem.F.typeCall_set_1 (.ref l)
  repeat (any_goals (first | assumption | wp_step))
  obtain ⟨led, hled⟩ : ∃ led, led = !w.params.followText "set-order" := ⟨_, rfl⟩
  refine codeAny_mono (set_new_led (.ref l) (E := E) (Q₁ := fun obj s₁ => obj = .ref s.heap.objs.size ∧ s₁ = { s with heap := s.heap.push { cls := .type "set", dict := none, data := .set #[] 0 (.fresh 0 0 led) } }) (by rw [hled]; exact ⟨rfl, rfl⟩)) fun r s₁ hr => ?_
  cases r with
  | error e => exact hr
  | ok fl =>
    cases fl with
    | ret obj =>
      obtain ⟨rfl, rfl⟩ := hr
      have hS : (s.heap.push { cls := .type "set", dict := none, data := .set #[] 0 (.fresh 0 0 led) }).get? s.heap.objs.size = some { cls := .type "set", dict := none, data := .set #[] 0 (.fresh 0 0 led) } := Heap.get?_push_size _ rfl
      have hT : Shared.TypeIs { s with heap := s.heap.push { cls := .type "set", dict := none, data := .set #[] 0 (.fresh 0 0 led) } } (.ref s.heap.objs.size) "set" := ⟨_, hS, rfl⟩
      have hli := PySem.F.called_set.init.lookup
      have hbi := PySem.F.called_set.init.bind (.ref s.heap.objs.size)
      repeat (any_goals (first | assumption | wp_step))
      refine codeAny_mono (codeAny_call_builtin (R := wants (fun r s₂ => r = .none ∧ ∃ h' tk m, s₂ = { s with heap := h', toks := tk } ∧ m ≤ xs.length ∧
          SetT w h' s.heap.objs.size (fun k' => decide (k' ∈ xs)) m ∧
          (∀ b o, b < s.heap.objs.size → s.heap.get? b = some o → h'.get? b = some o)) E) PySem.F.called_set.init.plain PySem.F.entry_set_init (check_set_init_1 hT ?_)) fun r₂ s₂ hr₂ => ?_
      · obtain ⟨ol, hol, hcl, nl, hdl⟩ := hl
        obtain ⟨ocls, odict, odata, oslots⟩ := ol
        simp only at hcl hdl
        subst hcl; subst hdl
        have hol' : (s.heap.push { cls := .type "set", dict := none, data := .set #[] 0 (.fresh 0 0 led) }).get? l = some { cls := .type "list", dict := odict, data := .seq items nl, slots := oslots } := Heap.get?_push_of_some _ hol
        have hsls := PySem.F.sub_list_set
        have hslf := PySem.F.sub_list_frozenset
        have hne : (Value.type "list" == Value.type "dict") = false := by decide
        have hl1 : (s.heap.push { cls := .type "set", dict := none, data := .set #[] 0 (.fresh 0 0 led) }).IsList l items := ⟨_, hol', rfl, nl, rfl⟩
        unfold Builtin.«set.__init__» noKeywords Builtin.Frozenset.updateFrom
        generalize hPI : pyIter = PI
        wp_walk
        subst hPI
        refine wpAny_pyIter_list hl1 ?_
        refine wpAny_bind (wpAny_runValue ?_)
        have hlS : l < s.heap.objs.size := Heap.lt_size hol
        have hh3 : A.in1.in1.in1.handled = none := by simp [hh]
        have hneI : l ≠ (s.heap.push { cls := .type "set", dict := none, data := .set #[] 0 (.fresh 0 0 led) }).objs.size := by
          rw [Heap.size_push]; exact Nat.ne_of_lt (Nat.lt_succ_of_lt hlS)
        have hSf : s.heap.objs.size ∉ [(s.heap.push { cls := .type "set", dict := none, data := .set #[] 0 (.fresh 0 0 led) }).objs.size, l] := by
          rw [Heap.size_push]; simp only [List.mem_cons, List.mem_singleton, List.not_mem_nil, or_false, not_or]
          exact ⟨Nat.ne_of_lt (Nat.lt_succ_self _), Nat.ne_of_gt hlS⟩
        have hsz : xs.length = items.size := by rw [← StrsAre.len_eq hi, Array.length_toList]
        have hval : ∀ (i : Nat) (v : Value), items[i]? = some v → ∃ t, v = .str (xs.getD i Str.empty) t := fun i v hv => SS.strs_at hi i v (by rw [Array.getElem?_toList]; exact hv)
        refine loopT ((Walks.list hh3 _ l hneI items).toS) s.heap.objs.size
          hSf xs hsz (by rw [← hsz]; exact hn1) hval (items.size - 0) 0 _ (by omega) (Nat.zero_le _)
          ⟨⟨_, Heap.get?_push_size _ rfl, rfl, rfl⟩, (hl1.push _)⟩ ?hS0 ?hR
        case hS0 =>
          refine ⟨0, Nat.le_refl _, ?_⟩
          have := setT_fresh (h := s.heap) w
          rw [← hled] at this
          exact (this.congr fun k => by simp).at fun o e => Heap.get?_push_of_some _ e
        case hR =>
          intro s' hm hS'
          obtain ⟨h', g', d', tk', os'⟩ := s'
          have eg : g' = s.gens := hm.gens
          have ed : d' = s.drawn := hm.drawn
          have eo : os' = s.os := hm.os
          subst eg; subst ed; subst eo
          show wpAny _ _ _ _ _ _
          refine wpAny_pure ?_
          show wpAny _ _ (ret Value.none) _ _ _
          obtain ⟨m, hm1, hS'⟩ := hS'
          refine wpAny_pure ⟨rfl, h', tk', m, rfl, by omega, hS', fun b o hb e => ?_⟩
          have hb1 : b ≠ s.heap.objs.size := Nat.ne_of_lt hb
          have hb2 : b ≠ (s.heap.push { cls := .type "set", dict := none, data := .set #[] 0 (.fresh 0 0 led) }).objs.size := by
            rw [Heap.size_push]; exact Nat.ne_of_lt (Nat.lt_succ_of_lt hb)
          exact hm.heap b o (by simp only [List.mem_cons, List.mem_singleton, List.not_mem_nil, or_false, not_or]; exact ⟨hb1, hb2⟩) (Heap.get?_push_of_some _ (Heap.get?_push_of_some _ e))
      · cases r₂ with
        | error e => exact hr₂
        | ok fl₂ =>
          cases fl₂ with
          | ret r =>
            obtain ⟨rfl, h', tk, m, rfl, hm1, hS', hk'⟩ := hr₂
            repeat (any_goals (first | assumption | wp_step))
            exact h _ _ _ hm1 hS' hk'
          | _ => exact hr₂.elim
    | _ => exact hr.elim
theorem strs_keyT {w : World} : ∀ (l : List (Int × Value)), (∀ e ∈ l, GoodT w e) → StrsAre (l.map (·.2)) (l.map keyT)
  | [], _ => .nil
  | e :: l, g => by
    obtain ⟨k, tk, h1, _⟩ := g e (by simp)
    have e1 : keyT e = k := by unfold keyT; rw [h1]
    rw [List.map_cons, List.map_cons, h1, e1]
    exact .cons k tk (strs_keyT l fun x hx => g x (by simp [hx]))
theorem sorted_setT {a : Addr} {S : Str → Bool} {n : Nat} {Q : Value → Shared → Prop} (R : SetT w s.heap a S n) (hh : A.handled = none) (h64 : n ≤ 4000)
    (hQ : ∀ s' p (out : Array Value) (c : Nat) (ns : List Str), (∀ b o, s.heap.get? b = some o → s'.heap.get? b = some o) → s'.gens = s.gens → s'.os = s.os → s.heap.objs.size ≤ p →
      s'.heap.get? p = some (seqObj "list" out c) → StrsAre out.toList ns → sortedS ns = true → ns.Nodup → (∀ k, k ∈ ns ↔ S k = true) → ns.length = n → Q (.ref p) s') :
    wpAny (model prog w) A (call (.builtin "sorted") [.ref a]) Q E s := by
  obtain ⟨o, es, ep, t, ho, hex, hd, g, nd, hm, hb, hf, hn, hr, hl⟩ := R
  refine Calls.call_function_entry kind_sorted plain_sorted entry_sorted (args_sorted1 _) ?_
  unfold Builtin.«sorted»
  refine wpAny_bind (m := checkCount "sorted" 1 1 _) (wpAny_pure ?_)
  refine wpAny_bind (collect_set (A := A.in1) hh ⟨o, ho, hex.1, hd⟩ hf hb hr hl fun s1 vs k1 hz g1 o1 pm => ?_)
  have hvl : vs.length = n := by rw [pm.length_eq, List.length_map, Array.length_toList]; exact hn
  have hS0 : StrsAre (es.toList.map (·.2)) (es.toList.map keyT) := strs_keyT _ g
  have hI : StrsAre vs (vs.map strOf) := strsAre_map vs fun v hv => hS0.all v (pm.mem_iff.mp hv)
  have pk : (vs.map strOf).Perm (es.toList.map keyT) := by
    have q := pm.map strOf
    rw [hS0.strs] at q
    exact q
  refine wpAny_bind (wpAny_newList ?_ (by rw [hvl, sizeLine_eq]; omega))
  have hoL : (s1.heap.push (seqObj "list" vs.toArray 0)).get? s1.heap.objs.size = some (seqObj "list" vs.toArray 0) := Heap.get?_push_size _ rfl
  refine wpAny_bind (wpAny_holding (wpAny_call_entry slot_list_sort ⟨_, hoL, rfl⟩ entry_list_sort (list_sort_treeKAny strKind_oneLt hoL hI.keysOf (fun v₁ v₂ rest e => keyKind_strs (by rw [← e]; exact hI)) (by rw [hvl, sizeLine_eq]; omega) fun st' hp hs => ⟨_, rfl, ?_⟩) (args_list_sort _)))
  obtain ⟨ns', a1, a2, a3⟩ := sorted_out_str hI hp hs
  obtain ⟨c, hc⟩ := sortedHeap_at (vs := vs) (out := (arrOf st').map (·.2)) hoL
  have pn : ns'.Perm (es.toList.map keyT) := a2.trans pk
  refine wpAny_pure ⟨_, rfl, hQ _ s1.heap.objs.size _ c ns' (fun b u e => ?_) g1 o1 hz hc a1 a3 (pn.nodup_iff.mpr nd) (fun k => by rw [pn.mem_iff, ← hm k]) ?_⟩
  · have q := k1 b u e
    have hlt := Heap.lt_size q
    show (sortedHeap (s1.heap.push (seqObj "list" vs.toArray 0)) s1.heap.objs.size vs _).get? b = some u
    rw [sortedHeap_old (Nat.ne_of_lt hlt) (by rw [size_push']; exact Nat.lt_succ_of_lt hlt)]
    exact Heap.get?_push_of_some _ q
  · rw [pn.length_eq, List.length_map, Array.length_toList]; exact hn
end
end Rf


namespace Rf
open PySem PySem.Spec PyProof.Rows L2
def ltS (a b : Str) : Prop := a.cps.toList < b.cps.toList
theorem ltS_irr (a : Str) : ¬ ltS a a := List.lt_irrefl _
theorem ltS_tr {a b c : Str} (h : ltS a b) (k : ltS b c) : ltS a c := List.lt_trans h k
theorem ltS_tot {a b : Str} (h : ¬ ltS b a) (ne : a ≠ b) : ltS a b := by
  by_cases q : ltS a b
  · exact q
  · refine absurd ?_ ne
    have e : a.cps.toList = b.cps.toList := List.le_antisymm (List.not_lt.mp h) (List.not_lt.mp q)
    cases a; cases b
    simpa using e
theorem insS_mem {x k : Str} : ∀ {l : List Str}, k ∈ insS x l ↔ k = x ∨ k ∈ l
  | [] => by simp [insS]
  | y :: l => by
    unfold insS
    split
    · rename_i h
      subst h
      simp
    · split
      · simp
      · rw [List.mem_cons, insS_mem, List.mem_cons]
        constructor
        · rintro (h | h | h) <;> simp [h]
        · rintro (h | h | h) <;> simp [h]
theorem insS_srt {x : Str} : ∀ {l : List Str}, l.Pairwise ltS → (insS x l).Pairwise ltS
  | [], _ => List.pairwise_singleton _ _
  | y :: l, h => by
    obtain ⟨h1, h2⟩ := List.pairwise_cons.mp h
    unfold insS
    split
    · exact h
    · rename_i ne
      split
      · rename_i lt
        refine List.pairwise_cons.mpr ⟨fun z hz => ?_, h⟩
        rcases List.mem_cons.mp hz with rfl | hz
        · exact lt
        · exact ltS_tr lt (h1 z hz)
      · rename_i nlt
        refine List.pairwise_cons.mpr ⟨fun z hz => ?_, insS_srt h2⟩
        rcases insS_mem.mp hz with rfl | hz
        · exact ltS_tot nlt (fun e => ne e.symm)
        · exact h1 z hz
theorem ssetL_mem {k : Str} : ∀ {l : List Str}, k ∈ ssetL l ↔ k ∈ l
  | [] => by simp [ssetL]
  | x :: l => by
    show k ∈ insS x (ssetL l) ↔ _
    rw [insS_mem, ssetL_mem, List.mem_cons]
theorem ssetL_srt : ∀ l : List Str, (ssetL l).Pairwise ltS
  | [] => List.Pairwise.nil
  | x :: l => insS_srt (ssetL_srt l)
theorem srtS_uniq : ∀ {l m : List Str}, l.Pairwise ltS → m.Pairwise ltS → (∀ k, k ∈ l ↔ k ∈ m) → l = m
  | [], [], _, _, _ => rfl
  | [], y :: m, _, _, h => absurd ((h y).mpr (by simp)) (by simp)
  | x :: l, [], _, _, h => absurd ((h x).mp (by simp)) (by simp)
  | x :: l, y :: m, h1, h2, h => by
    obtain ⟨a1, a2⟩ := List.pairwise_cons.mp h1
    obtain ⟨b1, b2⟩ := List.pairwise_cons.mp h2
    have e : x = y := by
      rcases List.mem_cons.mp ((h x).mp (by simp)) with e | e
      · exact e
      · rcases List.mem_cons.mp ((h y).mpr (by simp)) with e2 | e2
        · exact e2.symm
        · exact absurd (ltS_tr (b1 x e) (a1 y e2)) (ltS_irr _)
    subst e
    rw [srtS_uniq a2 b2 fun k => ?_]
    constructor
    · intro hk
      rcases List.mem_cons.mp ((h k).mp (by simp [hk])) with e | e
      · subst e; exact absurd (a1 k hk) (ltS_irr _)
      · exact e
    · intro hk
      rcases List.mem_cons.mp ((h k).mpr (by simp [hk])) with e | e
      · subst e; exact absurd (b1 k hk) (ltS_irr _)
      · exact e
theorem rising_srt : ∀ {p : Str} {l : List Str}, risingS p l = true → (p :: l).Nodup → (p :: l).Pairwise ltS
  | p, [], _, _ => List.pairwise_singleton _ _
  | p, x :: r, h, nd => by
    have h' : (!ltCps x.cps.toList p.cps.toList && risingS x r) = true := h
    rw [Bool.and_eq_true, Bool.not_eq_true', ltCps_eq] at h'
    obtain ⟨n1, n2⟩ := List.nodup_cons.mp nd
    have ih := rising_srt h'.2 n2
    have px : ltS p x := ltS_tot (of_decide_eq_false (p := x.cps.toList < p.cps.toList) h'.1) (fun e => n1 (by simp [e]))
    refine List.pairwise_cons.mpr ⟨fun z hz => ?_, ih⟩
    rcases List.mem_cons.mp hz with rfl | hz
    · exact px
    · exact ltS_tr px ((List.pairwise_cons.mp ih).1 z hz)
theorem sset_eq {ns xs : List Str} (h : sortedS ns = true) (nd : ns.Nodup) (hm : ∀ k, k ∈ ns ↔ k ∈ xs) : ns = ssetL xs := by
  refine srtS_uniq ?_ (ssetL_srt xs) fun k => by rw [hm k, ssetL_mem]
  cases ns with
  | nil => exact List.Pairwise.nil
  | cons p l => exact rising_srt h nd
theorem vals_of_strs : ∀ {us : List Value} {xs : List Str}, StrsAre us xs → Vals (xs.map V.str) us
  | _, _, .nil => .nil
  | _, _, .cons x t r => .cons ⟨t, rfl⟩ (vals_of_strs r)
def tSset (K : PySem.W.Frag) (te : TE) : TE := fun σ H Q => te σ H fun v H1 => ∃ (a : Addr) (ss : List Str), v = .ref a ∧ SqL K H1 a (ss.map V.str) ∧ ss.length < 4000 ∧ ∀ q, H1 q = none → Q (.ref q) (upd H1 q (.lst ((ssetL ss).map V.str)))
theorem ssetL_len (l : List Str) : (ssetL l).length ≤ l.length := by
  have ins : ∀ (x : Str) (l : List Str), (insS x l).length ≤ l.length + 1 := by
    intro x l
    induction l with
    | nil => simp [insS]
    | cons y l ih =>
      unfold insS
      split
      · simp
      · split
        · simp
        · simp; exact ih
  induction l with
  | nil => simp [ssetL]
  | cons x l ih =>
    have := ins x (ssetL l)
    show (insS x (ssetL l)).length ≤ _
    rw [List.length_cons]; omega
section
variable {X : Cx}
theorem pe_sset {e : Expr} {te : TE} {p p2 pos pos2 : Pos} (hc : X.calm = true) (hg : Gl X "sorted") (hm : X.mg "sorted" = none) (hg2 : Gl X "set") (hm2 : X.mg "set" = none) (he : PE X e te)
    (hs : starEach [e] X.env = (false, eval e X.env) :: starEach [] X.env := by rfl)
    (hs2 : starEach [.Call (.Name "set" p2) [e] [] pos2] X.env = (false, eval (.Call (.Name "set" p2) [e] [] pos2) X.env) :: starEach [] X.env := by rfl) :
    PE X (.Call (.Name "sorted" p) [.Call (.Name "set" p2) [e] [] pos2] [] pos) (tSset X.K te) := by
  refine ⟨fun pins s σ H Q I h => ?_⟩
  refine Call_ (ld_blt I hg hm (by rfl) (PyProof.Rows.callWith_builtin1 (args_cons (Call_ (ld_blt I hg2 hm2 boot_set (PyProof.Rows.callWith_type1 (args_cons (thn (he.run pins s σ H _ I h) fun u s1 ⟨v, H1, I1, r1, q1⟩ => args_nil ?_) hs) hs rfl))) hs2) hs2 rfl))
  obtain ⟨a, ss, ev, hq, h4, q⟩ := q1
  subst ev
  obtain rfl : u = Value.ref a := r1
  obtain ⟨its, rv, p', hz⟩ := I1.list hq
  refine call_setT (I1.ok.hd hc) p'.isList (by simpa using L2.strsAre_of rv) h4 fun h' tk m hm1 hS hk => args_nil ?_
  have I2 : Inv X pins σ H1 { s1 with heap := h', toks := tk } := I1.kept fun b o e => hk b o (Heap.lt_size e) e
  generalize hs2 : ({ s1 with heap := h', toks := tk } : Shared) = s2 at I2
  have hS : SetT X.w s2.heap s1.heap.objs.size (fun k' => decide (k' ∈ ss)) m := by rw [← hs2]; exact hS
  refine sorted_setT (s := s2) hS (I2.ok.hd hc) (by omega) fun s' p out c ns k g o hp hg3 hi hso hnd hmem hln => ?_
  have e1 : ns = ssetL ss := sset_eq hso hnd fun k => by rw [hmem k, decide_eq_true_iff]
  subst e1
  have hlen : ((ssetL ss).map V.str).length ≤ sizeLine := by have := ssetL_len ss; rw [List.length_map, sizeLine_eq]; omega
  have hn : H1 p = none := I2.hok.fresh hp
  have J : Inv X pins σ (upd H1 p (.lst ((ssetL ss).map V.str))) { s2 with heap := s'.heap, gens := s'.gens, drawn := s'.drawn, toks := s'.toks } :=
    I2.call (ch := []) (Un.laid k hp hn) (I2.hok.laid k hp ⟨hlen, out.toList, c, vals_of_strs hi, hg3⟩) (by rw [g]; exact I2.bare) (fun _ z => nomatch z)
  have e : s' = { s2 with heap := s'.heap, gens := s'.gens, drawn := s'.drawn, toks := s'.toks } := by
    cases s'
    cases s2
    cases o
    rfl
  rw [e]
  exact ⟨.ref p, _, J, rfl, q p hn⟩
end
theorem strs_of {K : PySem.W.Frag} {m : List Addr} {F : Addr → Prop} {H : Hp} : ∀ {xs : List D} {ss : List Str} {vs : List V}, strL xs = some ss → Rps K m F H xs vs → vs = ss.map V.str ∧ xs = ss.map D.str
  | [], ss, vs, h, r => by rw [strL] at h; cases h; exact ⟨Rps.nil_iff.mp r, rfl⟩
  | x :: xs, ss, vs, h, r => by
    obtain ⟨v, vr, rfl, r1, r2⟩ := r.uncons
    cases x with
    | str y =>
      rw [strL] at h
      cases z : strL xs with
      | none => rw [z] at h; cases h
      | some ys =>
        rw [z] at h; cases h
        obtain ⟨e1, e2⟩ := strs_of z r2
        rw [Rp] at r1
        subst r1
        rw [e1, e2]; exact ⟨rfl, rfl⟩
    | _ => simp [strL] at h
theorem rps_strsV {K : PySem.W.Frag} {m : List Addr} {F : Addr → Prop} {H : Hp} : ∀ ss : List Str, Rps K m F H (ss.map D.str) (ss.map V.str)
  | [] => .nil
  | x :: ss => .cons (by rw [Rp]) (rps_strsV ss)
section
variable {X : Cx} {c : Cfg} {W : WX}
theorem L_sset {a : CE} {e1 : Expr} {p p2 pos pos2 : Pos} (hc : X.calm = true) (hg : Gl X "sorted") (hm : X.mg "sorted" = none) (hg2 : Gl X "set") (hm2 : X.mg "set" = none) (hp : plainE e1 = true) (ha : PE X e1 (tE X.K X.mg c W a)) :
    PE X (.Call (.Name "sorted" p) [.Call (.Name "set" p2) [e1] [] pos2] [] pos) (tL X.K X.mg c W (.sset a)) :=
  PE_imp (pe_sset hc hg hm hg2 hm2 ha (star_plain hp)) fun σ H Q ⟨m, F, S, ρ, s, r, h⟩ => by
    rw [evalL] at h
    refine ⟨m, F, S, ρ, s, r, (FinL.bd h).imp fun x S1 m1 H1 g1 s1 h1 v rv => ?_⟩
    cases z : ssetD S1 x with
    | none => rw [z] at h1; exact h1.elim
    | some out =>
      rw [z] at h1
      unfold ssetD at z
      cases z1 : litems S1 x with
      | none => rw [z1] at z; cases z
      | some xs =>
        rw [z1] at z
        cases z2 : strL xs with
        | none => simp [z2] at z
        | some ss =>
          simp only [Option.bind_some, z2] at z
          split at z
          · rename_i h4
            cases z
            obtain ⟨l, ivs, rfl, hq, hrx⟩ := litems_at s1 rv z1
            obtain ⟨e1, e2⟩ := strs_of z2 hrx
            refine ⟨l, ss, rfl, by rw [← e1]; exact SqL.of hq, h4, fun q nq => ?_⟩
            exact FinL.lay (xs := (ssetL ss).map D.str) (S := S1) h1 s1 (rps_strsV _) nq
          · cases z
end
end Rf


namespace HT
open PySem PySem.Spec PyProof.Rows
section
variable {prog : Program} {w : World} {A : Around} {E : Value → Shared → Prop} {s : Shared}
theorem pick_rev (xs : Array Value) : ((List.range xs.size).filterMap fun (m : Nat) => xs[((xs.size : Int) - 1 + (m : Int) * (-1)).toNat]?).toArray = xs.toList.reverse.toArray := by
  congr 1
  apply List.ext_getElem?
  intro i
  have e : (fun (m : Nat) => xs[((xs.size : Int) - 1 + (m : Int) * (-1)).toNat]?) = fun m => xs[xs.size - 1 - m]? := by
    funext m
    by_cases hm : m < xs.size
    · rw [show ((xs.size : Int) - 1 + (m : Int) * (-1)).toNat = xs.size - 1 - m from by omega]
    · rw [show ((xs.size : Int) - 1 + (m : Int) * (-1)).toNat = xs.size - 1 - m from by omega]
  rw [e]
  have go : ∀ (n k : Nat), k + n = xs.size → (List.range' k n).filterMap (fun m => xs[xs.size - 1 - m]?) = xs.toList.reverse.drop k := by
    intro n
    induction n with
    | zero =>
      intro k hk
      rw [List.range'_zero, List.filterMap_nil, List.drop_eq_nil_of_le (by simp; omega)]
    | succ n ih =>
      intro k hk
      have hlt : k < xs.toList.reverse.length := by simp; omega
      have hx : xs[xs.size - 1 - k]? = some (xs.toList.reverse[k]'hlt) := by
        rw [Array.getElem?_eq_getElem (by omega), List.getElem_reverse]
        simp
      rw [List.range'_succ, List.filterMap_cons, hx, ih (k + 1) (by omega), List.drop_eq_getElem_cons hlt]
  rw [List.range_eq_range', go xs.size 0 (by omega), List.drop_zero]
theorem sliceApplied_rev {sl : Addr} {vl vu vs : Value} {n : Nat} {Q : Int × Int × Nat → Shared → Prop} (hs : s.heap.IsSliceOf sl vl vu vs) (pl : IsPart vl none) (pu : IsPart vu none) (ps : IsPart vs (some (-1)))
    (h : Q ((n : Int) - 1, -1, n) s) : wpAny (model prog w) A (Builtin.Slice.sliceApplied (.ref sl) (pure (n : Int))) Q E s := by
  obtain ⟨os, hos, hcs, hds⟩ := id hs
  unfold Builtin.Slice.sliceApplied Builtin.Slice.sliceFields
  refine wpAny_bind (wpAny_bind (wpAny_field hos hds (x := vl) rfl (wpAny_bind (wpAny_field hos hds (x := vu) rfl (wpAny_bind (wpAny_field hos hds (x := vs) rfl (wpAny_pure ?_)))))))
  refine wpAny_bind (slicePart_ ps ?_)
  show wpAny _ _ (if ((-1 : Int) == 0) = true then _ else _) _ _ s
  rw [if_neg (by decide)]
  refine wpAny_bind (slicePart_ pl (wpAny_bind (slicePart_ pu (wpAny_bind (wpAny_pure ?_)))))
  show wpAny _ _ (pure ((n : Int) - 1, (-1 : Int), Builtin.Slice.slicePlaces ((n : Int) - 1) (-1) (-1))) _ _ s
  have e : Builtin.Slice.slicePlaces ((n : Int) - 1) (-1) (-1) = n := by
    unfold Builtin.Slice.slicePlaces
    have h1 : ¬ ((-1 : Int) > 0) := by omega
    simp only [h1, if_false]
    rw [show (-(-1 : Int)) = 1 from rfl, Int.ediv_one]
    split <;> omega
  rw [e]
  exact wpAny_pure h
theorem getItem_tuple_rev {t sl : Addr} {items : Array Value} {vl vu vs : Value} {Q : Value → Shared → Prop} (ht : IsTup s.heap t items) (hs : s.heap.IsSliceOf sl vl vu vs) (pl : IsPart vl none) (pu : IsPart vu none) (ps : IsPart vs (some (-1)))
    (h : Q (.ref s.heap.objs.size) { s with heap := s.heap.push { cls := .type "tuple", data := .seq items.toList.reverse.toArray } })
    (hsz : items.size ≤ sizeLine) : wpAny (model prog w) A (getItem (.ref t) (.ref sl)) Q E s := by
  have htake : sizeOk (.seq items.toList.reverse.toArray) := by
    show items.toList.reverse.toArray.size ≤ sizeLine
    rw [List.size_toArray, List.length_reverse, Array.length_toList]
    exact hsz
  obtain ⟨os, hos, hcs, hds⟩ := id hs
  have hTs : s.TypeIs (.ref sl) "slice" := ⟨os, hos, hcs⟩
  unfold getItem
  try with_reducible refine wpAny_holding ?_
  first | refine wpAny_bind (wpAny_pure ?_) | skip
  refine wpAny_bind (wpAny_sequenceKey ht.typeIs (by decide) ?_)
  refine wpAny_bind (wpAny_callSpecial?_slot (name := Str.ofString "__getitem__") ht.typeIs PyProof.Rows.slot_tuple_getitem
    (wpAny_call_entry PyProof.Rows.slot_tuple_getitem ht.typeIs entry_tuple_getitem ?_ (args_tuple_getitem _ _)))
  show wpAny _ _ (Builtin.Tuple.tupleItemsOf (.ref t) >>= _) _ _ s
  refine wpAny_bind (tupleItemsOf_ ht ?_)
  refine wpAny_bind (wpAny_typeOf hTs ?_)
  rw [if_pos (by decide)]
  refine wpAny_bind (sliceApplied_rev hs pl pu ps ?_)
  have hno : ¬ ((((items.size : Int) - 1) == 0 && (-1 : Int) == 1 && items.size == items.size) = true) := by
    intro q
    rw [Bool.and_eq_true, Bool.and_eq_true] at q
    exact absurd (eq_of_beq q.1.2) (by decide)
  show wpAny _ _ (if (((items.size : Int) - 1) == 0 && (-1 : Int) == 1 && items.size == items.size) = true then _ else _) _ _ s
  rw [if_neg hno, pick_rev]
  first
    | exact wpAny_bind (m := Builtin.Tuple.tupleExact _) (wpAny_newObj_type (wpAny_pure ⟨_, rfl, wpAny_pure h⟩) htake)
    | exact wpAny_bind (m := Builtin.Tuple.tupleExact _) (wpAny_newObj_type (wpAny_bind (wpAny_pure (wpAny_pure ⟨_, rfl, wpAny_pure h⟩))) htake)
    | exact wpAny_bind (wpAny_bind (m := Builtin.Tuple.tupleExact _) (wpAny_newObj_type (wpAny_pure (wpAny_pure ⟨_, rfl, wpAny_pure h⟩)) htake))
    | exact wpAny_bind (wpAny_bind (m := Builtin.Tuple.tupleExact _) (wpAny_newObj_type (wpAny_pure ⟨_, rfl, wpAny_pure h⟩) htake))
end
end HT
namespace L2
open PySem PySem.Spec PyProof.Rows
def tRevT (K : PySem.W.Frag) (te : TE) : TE := fun σ H Q => te σ H fun x H1 => ∃ a xs, x = .ref a ∧ SqT K H1 a xs ∧ ∀ p, H1 p = none → Q (.ref p) (upd H1 p (.tup xs.reverse))
section
variable {X : Cx}
theorem pe_revT {e : Expr} {te : TE} {k : Nat} {p1 p2 p3 pos : Pos} (he : PE X e te) : PE X (.Subscript e (.Slice none none (some (.UnaryOp .USub (.Constant (.int 1) k p1) p2)) p3) pos) (tRevT X.K te) := by
  refine ⟨fun pins s σ H Q I h => ?_⟩
  refine Subscript_ (thn (he.run pins s σ H _ I h) fun v s1 ⟨x, H1, I1, r1, q1⟩ => ?_)
  obtain ⟨a, xs, ex, hx, q⟩ := q1
  subst ex
  cases r1
  have hst : PO X (some (.UnaryOp .USub (.Constant (.int 1) k p1) p2)) (tPart (tUn (rU fun i => .int (-i)) (tC (.int 1)))) := po_some (pe_un un_neg pe_int)
  refine wpAny_Slice (thn (po_none.run pins s1 σ H1 (fun o H2 => o = none ∧ H2 = H1) I1 ⟨rfl, rfl⟩) fun vl s2 ⟨l, H2, I2, pl, el, e2⟩ => ?_)
  subst el e2
  refine thn (po_none.run pins s2 σ H2 (fun o H3 => o = none ∧ H3 = H2) I2 ⟨rfl, rfl⟩) fun vu s3 ⟨u, H3, I3, pu, eu, e3⟩ => ?_
  subst eu e3
  refine thn (hst.run pins s3 σ H3 (fun o H4 => o = some (-1) ∧ H4 = H3) I3 ⟨1, rfl, -1, rfl, rfl, rfl⟩) fun vs s4 ⟨o, H4, I4, ps, eo, e4⟩ => ?_
  subst eo e4
  have I5 : Inv X pins σ H4 { s4 with heap := s4.heap.push { cls := .type "slice", data := .fields #[vl, vu, vs] } } := I4.kept (t' := s4.toks) fun b ob q => Heap.get?_push_of_some _ q
  obtain ⟨its, r, ht, hz⟩ := I5.tuple hx
  have hlen := r.length
  show wpAny (model X.prog X.w) X.A (subscriptTail e (.Slice none none (some (.UnaryOp .USub (.Constant (.int 1) k p1) p2)) p3) (.ref a) (.ref s4.heap.objs.size)) (EP X pins σ Q) X.xe { s4 with heap := s4.heap.push { cls := .type "slice", data := .fields #[vl, vu, vs] } }
  refine tail_any (ops := [.ref a, .ref s4.heap.objs.size]) ht.typeIs (PyProof.Rows.slot_tuple_getitem.lookup) ?_ (by with_unfolding_all rfl)
  refine HT.getItem_tuple_rev ht (Heap.IsSliceOf.new _ vl vu vs) pl pu ps ?_ (by rw [List.size_toArray]; omega)
  refine ⟨.ref _, _, I5.laid (t' := s4.toks) (o := .tup xs.reverse) (fun b ob q => Heap.get?_push_of_some _ q) (Nat.le_refl _) ?_, rfl, q _ (I5.hok.fresh (Nat.le_refl _))⟩
  exact ⟨by rw [List.length_reverse]; exact hz, _, r.reverse, IsTup.new _ _⟩
end
end L2
namespace Rf
open PySem PySem.Spec PyProof.Rows L2
def lmName : Lm → Str
  | .count => "count" | .index => "index"
def rLm (K : PySem.W.Frag) (mu : Lm) : V → List V → Hp → VK → Prop := fun v vs H Q => ∃ m F S x y d, Sm K m F S H ∧ Rp K m F H x v ∧ Rps K m F H [y] vs ∧ lmD mu S x y = some d ∧ Out K m F S H d Q
theorem cnt_pick {h : Heap} {x : D} : ∀ {ys : List D} {us : List Value}, Rvs h ys us → ∀ e : Value → Bool, (∀ y u, Rv h y u → e u = D.eqv y x) → us.countP e = ys.countP (fun y => D.eqv y x)
  | [], us, r, e, k => by rw [Rvs] at r; subst r; rfl
  | y :: ys, us, r, e, k => by
    rw [Rvs] at r
    obtain ⟨u, t, rfl, r1, r2⟩ := r
    rw [List.countP_cons, List.countP_cons, k y u r1, cnt_pick r2 e k]
theorem at_pick {h : Heap} : ∀ {ys : List D} {us : List Value}, Rvs h ys us → ∀ (j : Nat) (h1 : j < ys.length) (h2 : j < us.length), Rv h ys[j] us[j]
  | [], us, r, j, h1, h2 => absurd h1 (Nat.not_lt_zero _)
  | y :: ys, us, r, j, h1, h2 => by
    rw [Rvs] at r
    obtain ⟨u, t, rfl, r1, r2⟩ := r
    cases j with
    | zero => exact r1
    | succ j => exact at_pick r2 j (Nat.lt_of_succ_lt_succ h1) (Nat.lt_of_succ_lt_succ h2)
section
variable {X : Cx} {c : Cfg} {W : WX}
theorem lm_count {S : Store} {x y d : D} (h : lmD .count S x y = some d) : ∃ xs, litems S x = some xs ∧ D.okd deep (rs S y) = true ∧ D.okds deep xs = true ∧ some (D.int (xs.countP fun z => D.eqv z (rs S y) : Nat)) = some d := by
  unfold lmD at h
  obtain ⟨xs, h1, h2⟩ := Option.bind_eq_some_iff.mp h
  split at h2
  · rename_i hc
    rw [Bool.and_eq_true] at hc
    exact ⟨xs, h1, hc.1, hc.2, h2⟩
  · cases h2
theorem lm_index {S : Store} {x y d : D} (h : lmD .index S x y = some d) : ∃ xs, litems S x = some xs ∧ D.okd deep (rs S y) = true ∧ D.okds deep xs = true ∧ ((xs.findIdx? fun z => D.eqv z (rs S y)).map fun j => D.int (j : Nat)) = some d := by
  unfold lmD at h
  obtain ⟨xs, h1, h2⟩ := Option.bind_eq_some_iff.mp h
  split at h2
  · rename_i hc
    rw [Bool.and_eq_true] at hc
    exact ⟨xs, h1, hc.1, hc.2, h2⟩
  · cases h2
theorem mt_lcount_rf (hu : X.A.units + 64 < cLine) : L2.MtR X "list.count" (rLm X.K .count) := by
  intro pins s σ H v vs vv us Q I rv rvs h
  obtain ⟨m, F, S, x, y, d, hs, rx, ry, hb, q⟩ := h
  have hd : deep = 40 := rfl
  obtain ⟨xs, hi, h1, h2, e⟩ := lm_count hb
  obtain ⟨a, ws, rfl, hq, hr⟩ := litems_at hs rx hi
  obtain ⟨w, rfl, rw1⟩ := ry.one
  obtain ⟨uy, rfl, ru⟩ := rvs.one
  cases (show vv = Value.ref a from rv)
  have rvx := rv_rs I hs rw1 ru h1
  obtain ⟨its, r1, ⟨⟨cls, dd, data, sl⟩, n, ho, hc, hdn, hdt⟩, hlen⟩ := I.list (SqL.of hq)
  simp only at hc hdt
  subst hc hdt
  have rvy : Rvs s.heap xs its := rvs_pure I deep xs ws its hr r1 h2
  refine call_meets PySem.F.slot_list_count ⟨_, ho, rfl⟩ PySem.F.entry_list_count (PySem.F.args_list_count_2 _ _)
    (SeqAt.list_countAt a its.toArray n dd sl uy (pickE s.heap (rs S y))) ⟨ho, fun z hz => ?_, ?_⟩
  · obtain ⟨w', hw, rw'⟩ := mem_pick rvy (by simpa using hz)
    rw [pickE_of rw']
    exact eqAt_rv deep w' (rs S y) X.A.in1 s z uy rw' rvx (okds_mem h2 hw) h1 (by show X.A.units + 1 + deep < cLine; rw [hd]; omega)
  · have e1 : its.toArray.toList.countP (pickE s.heap (rs S y)) = xs.countP fun z => D.eqv z (rs S y) := cnt_pick (by simpa using rvy) _ fun y u r => pickE_of r
    have e2 : d = .int ((xs.countP fun z => D.eqv z (rs S y) : Nat) : Int) := (Option.some.inj e).symm
    subst e2
    refine ⟨.int ((xs.countP fun z => D.eqv z (rs S y) : Nat) : Int), H, I.tok _, ⟨s.toks, ?_⟩, q.now hs rp_int⟩
    show Value.int ((its.toArray.toList.countP (pickE s.heap (rs S y)) : Nat) : Int) s.toks = Value.int _ s.toks
    rw [e1]
theorem mt_lindex_rf (hu : X.A.units + 64 < cLine) : L2.MtR X "list.index" (rLm X.K .index) := by
  intro pins s σ H v vs vv us Q I rv rvs h
  obtain ⟨m, F, S, x, y, d, hs, rx, ry, hb, q⟩ := h
  have hd : deep = 40 := rfl
  obtain ⟨xs, hi, h1, h2, e⟩ := lm_index hb
  obtain ⟨a, ws, rfl, hq, hr⟩ := litems_at hs rx hi
  obtain ⟨w, rfl, rw1⟩ := ry.one
  obtain ⟨uy, rfl, ru⟩ := rvs.one
  cases (show vv = Value.ref a from rv)
  have rvx := rv_rs I hs rw1 ru h1
  obtain ⟨its, r1, ⟨⟨cls, dd, data, sl⟩, n, ho, hc, hdn, hdt⟩, hlen⟩ := I.list (SqL.of hq)
  simp only at hc hdt
  subst hc hdt
  have rvy : Rvs s.heap xs its := rvs_pure I deep xs ws its hr r1 h2
  obtain ⟨j, hj, e2⟩ := Option.map_eq_some_iff.mp e
  subst e2
  rw [List.findIdx?_eq_some_iff_getElem] at hj
  obtain ⟨j1, j2, j3⟩ := hj
  have hl := rvy.len
  have hsl := sizeLine_eq
  have hlen' : its.length ≤ sizeLine := by have := r1.length; omega
  have jj : j < its.toArray.size := by simp; omega
  refine call_meets PySem.F.slot_list_index ⟨_, ho, rfl⟩ PySem.F.entry_list_index (PySem.F.args_list_index_2 _ _)
    (SeqAt.list_indexAt a its.toArray n dd sl uy (pickE s.heap (rs S y)) j jj (by omega) ?_ ?_) ⟨ho, fun z hz => ?_, ?_⟩
  · have := at_pick rvy j j1 (by omega)
    simp only [List.getElem_toArray]
    rw [pickE_of this]
    exact j2
  · intro k hk hkj
    have k1 : k < xs.length := by omega
    have := at_pick rvy k k1 (by omega)
    simp only [List.getElem_toArray]
    rw [pickE_of this]
    simpa using j3 k hkj
  · obtain ⟨w', hw, rw'⟩ := mem_pick rvy (by simpa using hz)
    rw [pickE_of rw']
    exact eqAt_rv deep w' (rs S y) X.A.in1 s z uy rw' rvx (okds_mem h2 hw) h1 (by show X.A.units + 1 + deep < cLine; rw [hd]; omega)
  · exact ⟨.int (j : Nat), H, I.tok _, ⟨_, rfl⟩, q.now hs rp_int⟩
theorem isLs_of {m : List Addr} {F : Addr → Prop} {S : Store} {H : Hp} {x : D} {v : V} (s : Sm X.K m F S H) (rv : Rp X.K m F H x v) (h : isLs S x = true) : tyV X.K "list" v H := by
  cases x with
  | ref n =>
    rw [Rp] at rv
    obtain ⟨a, h1, rfl⟩ := rv
    simp only [isLs] at h
    cases z : S[n]? with
    | none => rw [z] at h; cases h
    | some o =>
      rw [z] at h
      cases o with
      | lst ys =>
        obtain ⟨vs, e2, rr⟩ := s.obj n a _ h1 z
        exact .inl ⟨rfl, vs, SqL.of e2⟩
      | dic _ => cases h
      | dks _ _ => cases h
  | lst xs =>
    rw [Rp] at rv
    obtain ⟨a, vs, rfl, ht, _⟩ := rv
    exact .inl ⟨rfl, vs, SqL.of ht⟩
  | _ => cases h
theorem lm_rd {mu : Lm} {a b : CE} {σ : L2.St} {H : Hp} {Q : VK} (h : tE X.K X.mg c W (.lm mu a b) σ H Q) : tBM X.K "list" (rLm X.K mu) (tE X.K X.mg c W a) (tA X.K X.mg c W (.cons b .nil)) σ H Q := by
  obtain ⟨m, F, S, ρ, s, r, h⟩ := h
  rw [evalE] at h
  refine ⟨m, F, S, ρ, s, r, h.bd.imp fun x S1 m1 H1 g1 s1 h1 v rv => ?_⟩
  split at h1
  · rename_i hs
    refine ⟨isLs_of s1 rv hs, m1, F, S1, ρ, s1, r.mono g1, ?_⟩
    rw [evalEs]
    have h := h1.bd
    unfold Fin at h ⊢
    cases z2 : evalE c b ρ S1 with
    | bad => rw [z2] at h; exact h
    | ex e ρ' S' => rw [z2] at h; exact h
    | ok q =>
      obtain ⟨y, S2⟩ := q
      rw [z2] at h
      show ∀ m' H', _ → _ → ∀ vs, _ → _
      intro m2 H2 g2 s2 vs rvs
      obtain ⟨d, e, q⟩ := Fin.of (h m2 H2 g2 s2)
      exact ⟨m2, F, S2, x, y, d, s2, rv.mono g2, rvs, e, fun m' H' w g s r => q m' H' g s w r⟩
  · exact h1.elim
theorem E_lm {mu : Lm} {a b : CE} {o e1 : Expr} {apos cpos : Pos} (hu : X.A.units + 64 < cLine) (ho : PE X o (tE X.K X.mg c W a)) (hbase : baseOk o = true) (hline : (apos.endLine == cpos.line) = true)
    (hp : plainE e1 = true) (hb : PE X e1 (tE X.K X.mg c W b)) : PE X (.Call (.Attribute o (lmName mu) apos) [e1] [] cpos) (tE X.K X.mg c W (.lm mu a b)) := by
  have ha := A_cons (as := .nil) hp hb A_nil
  cases mu with
  | count => exact PE_imp (pe_bm PySem.F.plainAttrs_list PySem.F.slot_list_count PySem.F.type_list_count (mt_lcount_rf hu) ho ha (base_ok hbase) (few_ok (by simp [plainEs, hp]) (by simp)) hline (star_plain hp) rfl) fun _ _ _ => lm_rd
  | index => exact PE_imp (pe_bm PySem.F.plainAttrs_list PySem.F.slot_list_index PySem.F.type_list_index (mt_lindex_rf hu) ho ha (base_ok hbase) (few_ok (by simp [plainEs, hp]) (by simp)) hline (star_plain hp) rfl) fun _ _ _ => lm_rd
theorem E_slr {a : CE} {e1 : Expr} {k : Nat} {p1 p2 p3 pos : Pos} (ha : PE X e1 (tE X.K X.mg c W a)) : PE X (.Subscript e1 (.Slice none none (some (.UnaryOp .USub (.Constant (.int 1) k p1) p2)) p3) pos) (tE X.K X.mg c W (.slr a)) :=
  PE_imp (pe_revT ha) fun σ H Q ⟨m, F, S, ρ, s, r, h⟩ => by
    rw [evalE] at h
    refine ⟨m, F, S, ρ, s, r, h.bd.imp fun x S1 m1 H1 g1 s1 h1 v rv => ?_⟩
    obtain ⟨d, e, q⟩ := h1.of
    cases x with
    | tup xs =>
      rw [Rp] at rv
      obtain ⟨b, vs, rfl, ht, hx⟩ := rv
      simp only [slrD] at e
      split at e
      · cases e
      rename_i nn
      have nn : D.need xs = false := by simpa using nn
      cases e
      exact ⟨b, vs, rfl, ht.1, fun p np => Out.tup (fun m' H' w g s r => q m' H' g s w r) s1 hx.rev (by unfold D.need at nn ⊢; rw [List.all_reverse]; exact nn) np⟩
    | _ => simp [slrD] at e
theorem L_slr {a : CE} {e1 : Expr} {k : Nat} {p1 p2 p3 pos : Pos} (ha : PE X e1 (tE X.K X.mg c W a)) : PE X (.Subscript e1 (.Slice none none (some (.UnaryOp .USub (.Constant (.int 1) k p1) p2)) p3) pos) (tL X.K X.mg c W (.slr a)) :=
  PE_imp (pe_revL ha) fun σ H Q ⟨m, F, S, ρ, s, r, h⟩ => by
    rw [evalL] at h
    refine ⟨m, F, S, ρ, s, r, (FinL.bd h).imp fun x S1 m1 H1 g1 s1 h1 v rv => ?_⟩
    obtain ⟨d, e, q⟩ := FinL.of h1
    obtain ⟨xs, e1, rfl⟩ := Option.map_eq_some_iff.mp e
    obtain ⟨b, vs, rfl, hq, hr⟩ := litems_at s1 rv e1
    exact ⟨b, vs, rfl, SqL.of hq, fun p np => q.lay s1 hr.rev np⟩
end
end Rf


namespace Rf
open SrtO
section
variable {α β : Type}
def insR (r : α → Nat) (x : α) : List α → List α
  | [] => [x]
  | y :: t => if r y < r x then y :: insR r x t else x :: y :: t
def isort (r : α → Nat) (l : List α) : List α := l.foldr (insR r) []
theorem insR_perm (r : α → Nat) (x : α) : ∀ l : List α, (insR r x l).Perm (x :: l)
  | [] => List.Perm.refl _
  | y :: t => by
    unfold insR
    split
    · exact ((insR_perm r x t).cons y).trans (List.Perm.swap x y t)
    · exact List.Perm.refl _
theorem isort_perm (r : α → Nat) : ∀ l : List α, (isort r l).Perm l
  | [] => List.Perm.refl _
  | x :: l => (insR_perm r x (isort r l)).trans ((isort_perm r l).cons x)
theorem insR_srt {r : α → Nat} {x : α} : ∀ {l : List α}, l.Pairwise (fun a b => r a ≤ r b) → (insR r x l).Pairwise (fun a b => r a ≤ r b)
  | [], _ => List.pairwise_singleton _ _
  | y :: t, h => by
    have h' := List.pairwise_cons.mp h
    unfold insR
    split
    · rename_i hy
      refine List.pairwise_cons.mpr ⟨fun z hz => ?_, insR_srt h'.2⟩
      rcases List.mem_cons.mp ((insR_perm r x t).mem_iff.mp hz) with e | hz
      · rw [e]; omega
      · exact h'.1 z hz
    · rename_i hy
      refine List.pairwise_cons.mpr ⟨fun z hz => ?_, h⟩
      rcases List.mem_cons.mp hz with e | hz
      · rw [e]; omega
      · have := h'.1 z hz; omega
theorem isort_srt (r : α → Nat) : ∀ l : List α, (isort r l).Pairwise (fun a b => r a ≤ r b)
  | [] => List.Pairwise.nil
  | x :: l => insR_srt (isort_srt r l)
theorem insR_cls {r : α → Nat} {x : α} {p : α → Bool} (hp : ∀ a b, p a = true → p b = true → r a = r b) : ∀ l : List α, (insR r x l).filter p = (x :: l).filter p
  | [] => rfl
  | y :: t => by
    unfold insR
    split
    · rename_i hy
      rw [List.filter_cons, insR_cls hp t]
      by_cases h1 : p x = true
      · have h2 : ¬ p y = true := fun h => by have := hp x y h1 h; omega
        rw [if_neg h2]
        rw [List.filter_cons_of_pos h1, List.filter_cons_of_pos h1, List.filter_cons_of_neg h2]
      · rw [List.filter_cons_of_neg h1, List.filter_cons_of_neg h1, List.filter_cons]
    · rfl
theorem isort_cls {r : α → Nat} {p : α → Bool} (hp : ∀ a b, p a = true → p b = true → r a = r b) : ∀ l : List α, (isort r l).filter p = l.filter p
  | [] => rfl
  | x :: l => by
    show (insR r x (isort r l)).filter p = _
    rw [insR_cls hp, List.filter_cons, List.filter_cons, isort_cls hp l]
theorem insR_map (f : α → β) (r : β → Nat) (x : α) : ∀ l : List α, insR r (f x) (l.map f) = (insR (fun a => r (f a)) x l).map f
  | [] => rfl
  | y :: t => by
    rw [List.map_cons, insR, insR]
    split
    · rw [List.map_cons, insR_map f r x t]
    · rw [List.map_cons, List.map_cons]
theorem isort_map (f : α → β) (r : β → Nat) : ∀ l : List α, isort r (l.map f) = (isort (fun a => r (f a)) l).map f
  | [] => rfl
  | x :: l => by
    show insR r (f x) (isort r (l.map f)) = (insR (fun a => r (f a)) x (isort (fun a => r (f a)) l)).map f
    rw [isort_map f r l, insR_map]
theorem insR_congr {r r' : α → Nat} {x : α} : ∀ {l : List α}, r x = r' x → (∀ y ∈ l, r y = r' y) → insR r x l = insR r' x l
  | [], _, _ => rfl
  | y :: t, h, k => by
    rw [insR, insR, h, k y (by simp), insR_congr h fun z hz => k z (by simp [hz])]
theorem isort_congr {r r' : α → Nat} : ∀ {l : List α}, (∀ y ∈ l, r y = r' y) → isort r l = isort r' l
  | [], _ => rfl
  | x :: l, k => by
    show insR r x (isort r l) = insR r' x (isort r' l)
    rw [isort_congr (l := l) fun z hz => k z (by simp [hz])]
    exact insR_congr (k x (by simp)) fun y hy => k y (by
      have := (isort_perm r' l).mem_iff.mp hy
      simp [this])

abbrev rlt (r : α → Nat) : α → α → Bool := fun x y => decide (r x < r y)
theorem swo_rlt (r : α → Nat) : Swo (rlt r) := ⟨fun x y h => by
    have := of_decide_eq_true h
    exact decide_eq_false (by omega), fun x y z h1 h2 => by
    have := of_decide_eq_false h1
    have := of_decide_eq_false h2
    exact decide_eq_false (by omega)⟩
theorem isort_eq {r : α → Nat} {l m : List α} (hs : Srtd (rlt r) m) (hb : Stb (rlt r) m l) : m = isort r l := by
  refine stb_uniq (swo_rlt r) hs ?_ (hb.trans ⟨(isort_perm r l).symm, fun x => (isort_cls (fun a b ha hb => ?_) l).symm⟩)
  · exact (isort_srt r l).imp fun h => decide_eq_false (by omega)
  · have h1 := eqv_iff.mp ha
    have h2 := eqv_iff.mp hb
    have a1 := of_decide_eq_false h1.1
    have a2 := of_decide_eq_false h1.2
    have a3 := of_decide_eq_false h2.1
    have a4 := of_decide_eq_false h2.2
    omega
end

def rkD (ks : List D) (d : D) : Nat := ks.countP fun e => ltB e d
theorem countP_le_of {α : Type} {p q : α → Bool} : ∀ {l : List α}, (∀ x ∈ l, p x = true → q x = true) → l.countP p ≤ l.countP q
  | [], _ => Nat.le_refl _
  | x :: l, h => by
    rw [List.countP_cons, List.countP_cons]
    have ih := countP_le_of (l := l) fun y hy => h y (by simp [hy])
    have hx := h x (by simp)
    cases e : p x with
    | false => simp; omega
    | true => rw [hx e]; simp; omega
theorem countP_lt_of {α : Type} {p q : α → Bool} {x : α} : ∀ {l : List α}, (∀ y ∈ l, p y = true → q y = true) → x ∈ l → p x = false → q x = true → l.countP p < l.countP q
  | [], _, hx, _, _ => by cases hx
  | y :: l, h, hx, h1, h2 => by
    rw [List.countP_cons, List.countP_cons]
    rcases List.mem_cons.mp hx with e | hx
    · subst e
      have := countP_le_of (l := l) fun z hz => h z (by simp [hz])
      rw [h1, h2]; simp; omega
    · have ih := countP_lt_of (l := l) (fun z hz => h z (by simp [hz])) hx h1 h2
      have hy := h y (by simp)
      cases e : p y with
      | false => simp; omega
      | true => rw [hy e]; simp; omega
theorem okSort_of {ks : List D} (h : okSort ks = true) : (∀ x ∈ ks, ltB x x = false) ∧ (∀ x ∈ ks, ∀ y ∈ ks, (D.ltv x y).isSome = true) ∧
    (∀ x ∈ ks, ∀ y ∈ ks, ∀ z ∈ ks, ltB x y = true → ltB y z = true → ltB x z = true) ∧ ∀ x ∈ ks, ∀ y ∈ ks, ∀ z ∈ ks, ltB x z = true → ltB x y = true ∨ ltB y z = true := by
  unfold okSort at h
  simp only [List.all_eq_true, Bool.and_eq_true, Bool.not_eq_true', Bool.or_eq_true, Bool.and_eq_false_iff] at h
  refine ⟨fun x hx => (h x hx).1, fun x hx y hy => ((h x hx).2 y hy).1, fun x hx y hy z hz a b => ?_, fun x hx y hy z hz a => ?_⟩
  · rcases (((h x hx).2 y hy).2 z hz).1 with k | k
    · rcases k with k | k
      · rw [a] at k; cases k
      · rw [b] at k; cases k
    · exact k
  · rcases (((h x hx).2 y hy).2 z hz).2 with k | k
    · exact k
    · rw [a] at k; cases k
theorem rkD_lt {ks : List D} (h : okSort ks = true) {x y : D} (hx : x ∈ ks) (hy : y ∈ ks) : ltB x y = decide (rkD ks x < rkD ks y) := by
  obtain ⟨h1, _, h3, h4⟩ := okSort_of h
  cases e : ltB x y with
  | true => exact (decide_eq_true (countP_lt_of (x := x) (fun z hz a => h3 z hz x hx y hy a e) hx (h1 x hx) e)).symm
  | false =>
    refine (decide_eq_false ?_).symm
    have : rkD ks y ≤ rkD ks x := countP_le_of fun z hz a => by
      rcases h4 z hz x hx y hy a with k | k
      · exact k
      · rw [e] at k; cases k
    omega
theorem insK_eq {ks : List D} (h : okSort ks = true) {x : D × D} (hx : x.1 ∈ ks) : ∀ {l : List (D × D)}, (∀ y ∈ l, y.1 ∈ ks) → insK x l = insR (fun p => rkD ks p.1) x l
  | [], _ => rfl
  | y :: t, k => by
    rw [insK, insR, rkD_lt h (k y (by simp)) hx, insK_eq h hx fun z hz => k z (by simp [hz])]
    by_cases hc : rkD ks y.1 < rkD ks x.1
    · rw [if_pos (decide_eq_true hc), if_pos hc]
    · rw [if_neg (by simp [hc]), if_neg hc]
theorem sortK_eq {ks : List D} (h : okSort ks = true) : ∀ {l : List (D × D)}, (∀ y ∈ l, y.1 ∈ ks) → sortK l = isort (fun p => rkD ks p.1) l
  | [], _ => rfl
  | x :: t, k => by
    show insK x (sortK t) = insR _ x (isort _ t)
    rw [sortK_eq h (l := t) fun z hz => k z (by simp [hz])]
    exact insK_eq h (k x (by simp)) fun y hy => k y (by
      have := (isort_perm (fun p : D × D => rkD ks p.1) t).mem_iff.mp hy
      simp [this])
end Rf


namespace Rf
open PySem PySem.Spec PyProof.Rows L2 SrtO Srt

section
variable {prog : Program} {w : World} {A : Around} {s : Shared}
theorem katLex_rv (n : Nat) : ∀ (xs ys : List D) (us ws : List Value) (i : Nat) (k : Bool) (Q : Bool → Shared → Prop), Rvs s.heap xs us → Rvs s.heap ys ws → D.okds n xs = true → D.okds n ys = true → A.units + n < cLine →
    D.ltvs xs ys = some k → (i = 0 → (∀ x ∈ xs.head?, ∃ j, x = D.int j) ∧ ∀ y ∈ ys.head?, ∃ j, y = D.int j) → Q k s → PySem.W.KatLex prog w A true (decide (us.length < ws.length)) Q (us.zip ws) i s
  | [], [], us, ws, i, k, Q, p, q, _, _, _, hk, _, h => by
    rw [Rvs] at p q; subst p q
    have : k = false := by simpa [D.ltvs] using hk.symm
    subst this; exact h
  | [], y :: ys, us, ws, i, k, Q, p, q, _, _, _, hk, _, h => by
    rw [Rvs] at p; subst p
    rw [Rvs] at q
    obtain ⟨v, r, rfl, _, _⟩ := q
    have : k = true := by simpa [D.ltvs] using hk.symm
    subst this
    have e : decide (([] : List Value).length < (v :: r).length) = true := by simp
    rw [e]; exact h
  | x :: xs, [], us, ws, i, k, Q, p, q, _, _, _, hk, _, h => by
    rw [Rvs] at q; subst q
    rw [Rvs] at p
    obtain ⟨v, r, rfl, _, _⟩ := p
    have : k = false := by simpa [D.ltvs] using hk.symm
    subst this
    have e : decide ((v :: r).length < ([] : List Value).length) = false := by simp
    rw [e]; exact h
  | x :: xs, y :: ys, us, ws, i, k, Q, p, q, k1, k2, hu, hk, hh, h => by
    rw [Rvs] at p q
    obtain ⟨v, r, rfl, p1, p2⟩ := p
    obtain ⟨v', r', rfl, q1, q2⟩ := q
    rw [D.okds, Bool.and_eq_true] at k1 k2
    obtain ⟨k', hk1, hk2⟩ := D.ltvs_cons hk
    have e0 : decide ((v :: r).length < (v' :: r').length) = decide (r.length < r'.length) := by simp
    rw [e0]
    refine PySem.W.kat_cons (eqAt_rv n x y A s v v' p1 q1 k1.1 k2.1 hu prog w _ _ ?_)
    rcases hk2 with ⟨e, rfl⟩ | ⟨e, hl⟩
    · rw [e]
      refine PySem.W.kat_yes ?_
      exact katLex_rv n xs ys r r' (i + 1) k Q p2 q2 k1.2 k2.2 hu hk1 (fun z => absurd z (Nat.succ_ne_zero i)) h
    · rw [e]
      refine PySem.W.kat_no ?_
      by_cases hi : i = 0
      · subst hi
        obtain ⟨h1, h2⟩ := hh rfl
        obtain ⟨a, rfl⟩ := h1 x (by simp)
        obtain ⟨b, rfl⟩ := h2 y (by simp)
        rw [Rv] at p1 q1
        obtain ⟨t, rfl⟩ := p1
        obtain ⟨t', rfl⟩ := q1
        simp only [D.ltv, Option.some.injEq] at hl
        show wpAny _ _ (oneLt' true (.int a t) (.int b t')) _ _ _
        refine oneLt_int ?_
        rw [hl]; exact h
      · have e2 : (true && i == 0) = false := by simp [hi]
        rw [e2]
        exact PySem.W.kat_one _ _ (rcLt_rv n x y A s v v' k p1 q1 k1.1 k2.1 hu hl prog w _ _ h)
open Classical in
noncomputable def rkV (h : Heap) (ks : List D) (u : Value) : Nat := if q : ∃ d, d ∈ ks ∧ Rv h d u then rkD ks q.choose else 0
theorem rkV_of {h : Heap} {ks : List D} {d : D} {u : Value} (hd : d ∈ ks) (r : Rv h d u) : rkV h ks u = rkD ks d := by
  have q : ∃ d, d ∈ ks ∧ Rv h d u := ⟨d, hd, r⟩
  unfold rkV
  rw [dif_pos q, rv_inj _ _ _ q.choose_spec.2 r]
theorem tupK_of {d : D} (h : tupK d = true) : ∃ i r, d = .tup (.int i :: r) := by
  unfold tupK at h
  split at h
  · exact ⟨_, _, rfl⟩
  · cases h
theorem keys_cmp {n : Nat} {ks : List D} {keys : List Value} (hok : D.okds n ks = true) (hs : okSort ks = true) (ht : ks.all tupK = true) (hr : Rvs s.heap ks keys) (hu : A.units + n < cLine) :
    Cmp prog w A s (tuples' true) (fun p => p.1 ∈ keys) (rlt fun p : Keyed => rkV s.heap ks p.1) := by
  intro p q hp hq
  obtain ⟨d, hd, rd⟩ := mem_pick hr hp
  obtain ⟨e, he, re⟩ := mem_pick hr hq
  obtain ⟨i, xs, rfl⟩ := tupK_of (List.all_eq_true.mp ht d hd)
  obtain ⟨j, ys, rfl⟩ := tupK_of (List.all_eq_true.mp ht e he)
  have o1 := okds_mem hok hd
  have o2 := okds_mem hok he
  cases n with
  | zero => cases o1
  | succ n =>
  rw [D.okd] at o1 o2
  have e1 : rkV s.heap ks p.1 = rkD ks (.tup (.int i :: xs)) := rkV_of hd rd
  have e2 : rkV s.heap ks q.1 = rkD ks (.tup (.int j :: ys)) := rkV_of he re
  have e3 : (rlt fun p : Keyed => rkV s.heap ks p.1) p q = ltB (.tup (.int i :: xs)) (.tup (.int j :: ys)) := by
    rw [rkD_lt hs hd he]
    show decide (rkV s.heap ks p.1 < rkV s.heap ks q.1) = _
    rw [e1, e2]
  rw [e3]
  obtain ⟨_, h2, _, _⟩ := okSort_of hs
  obtain ⟨b, hb⟩ := Option.isSome_iff_exists.mp (h2 _ hd _ he)
  have e4 : ltB (.tup (.int i :: xs)) (.tup (.int j :: ys)) = b := by
    unfold ltB
    rw [hb]
    cases b <;> simp
  rw [e4]
  rw [D.ltv] at hb
  rw [Rv] at rd re
  obtain ⟨a, its, ea, ha, ra⟩ := rd
  obtain ⟨a', its', ea', ha', ra'⟩ := re
  rw [ea, ea']
  obtain ⟨o, ho, hc, nn, hdd⟩ := ha
  obtain ⟨o', ho', hc', nn', hdd'⟩ := ha'
  refine PySem.W.kat_lt ho hdd ho' hdd' ?_
  exact katLex_rv n _ _ _ _ 0 b _ ra ra' o1 o2 (by omega) hb (fun _ => ⟨fun x hx => ⟨i, by simpa using hx.symm⟩, fun x hx => ⟨j, by simpa using hx.symm⟩⟩) ⟨rfl, rfl⟩
theorem keys_firsts {h : Heap} : ∀ {ks : List D} {keys : List Value}, Rvs h ks keys → ks.all tupK = true → ∃ fs, PySem.W.KatTups h keys fs ∧ fs.length = keys.length ∧ ∀ v ∈ fs, ∃ i t, v = Value.int i t
  | [], keys, r, _ => by
    rw [Rvs] at r; subst r
    exact ⟨[], PySem.W.KatTups.nil, rfl, fun v hv => by cases hv⟩
  | k :: ks, keys, r, ht => by
    rw [Rvs] at r
    obtain ⟨v, r', rfl, r1, r2⟩ := r
    rw [List.all_cons, Bool.and_eq_true] at ht
    obtain ⟨fs, h1, h2, h3⟩ := keys_firsts r2 ht.2
    obtain ⟨i, xs, rfl⟩ := tupK_of ht.1
    rw [Rv] at r1
    obtain ⟨a, its, rfl, ⟨o, ho, hc, n, hd⟩, ra⟩ := r1
    rw [Rvs] at ra
    obtain ⟨u, ur, e, ru, _⟩ := ra
    rw [Rv] at ru
    obtain ⟨t, rfl⟩ := ru
    have e0 : its[0]? = some (.int i t) := by
      rw [← Array.getElem?_toList, e]; rfl
    exact ⟨.int i t :: fs, PySem.W.KatTups.cons ho hc hd e0 h1, by simp [h2], fun w hw => by
      rcases List.mem_cons.mp hw with rfl | hw
      · exact ⟨i, t, rfl⟩
      · exact h3 w hw⟩
theorem keys_kind {ks : List D} {keys : List Value} (hr : Rvs s.heap ks keys) (ht : ks.all tupK = true) (h0 : 0 < keys.length) {Q : SortKind → Shared → Prop} {E : Value → Shared → Prop} (h : Q (tuples' true) s) :
    wpAny (model prog w) A (keyKind' keys.toArray) Q E s := by
  obtain ⟨fs, h1, h2, h3⟩ := keys_firsts hr ht
  refine PySem.W.kat_kind (T := .type "int") h1 (by omega) (fun f hm => ?_) (by rfl) ?_
  · obtain ⟨x, t, rfl⟩ := h3 f hm
    exact PySem.W.Looks.now
  · have e : (Value.type "int" != Value.type "tuple") = true := by first | decide +kernel | rfl | decide
    rw [e]
    exact h

theorem tail_rf {a kS : Addr} {e e1 : Nat} {keys : List Value} {outs : List Value} {st : SortSt} {P : PySem.Fin → Shared → Prop} {E : Value → Shared → Prop} (hk : s.heap.get? kS = some (seqObj "list" keys.toArray e)) (ha : s.heap.get? a = some (seqObj "list" #[] e1)) (hne : kS ≠ a)
    (hkz : keys.length ≤ sizeLine) (hz : outs.length ≤ sizeLine) (hout : (arrOf st).map (·.2) = outs.toArray) (hfl : failedOf st = none)
    (h : P (.done (.ret .none)) { s with heap := (s.heap.update kS (Obj.mapSeq fun _ => #[])).update a (Obj.mapSeq fun _ => outs.toArray) }) :
    wpAny (model prog w) A (ksk_tail a false e1 (.ref kS) st) P E s := by
  have s1 := Heap.SameBut.update s.heap kS (Obj.mapSeq fun _ => (#[] : Array Value))
  have na1 : (s.heap.update kS (Obj.mapSeq fun _ => (#[] : Array Value))).get? a = some (seqObj "list" #[] e1) := (s1.2 a hne.symm).trans ha
  unfold ksk_tail
  try dsimp only
  rw [hout]
  refine wpAny_bind (listUpdate_at hk rfl ?_ (by simpa using hkz) (Nat.zero_le _))
  refine wpAny_bind (wpAny_letGo ?_)
  refine wpAny_bind (seqEpoch_at na1 rfl ?_)
  refine wpAny_bind (listUpdate_at na1 rfl ?_ (Nat.zero_le _) (by simp; omega))
  rw [hfl]
  simp only [bne_self_eq_false, Bool.false_eq_true, if_false]
  exact wpAny_pure h
theorem isort_short {α : Type} (r : α → Nat) {l : List α} (h : l.length < 2) : isort r l = l := by
  match l, h with
  | [], _ => rfl
  | [x], _ => rfl
  | _ :: _ :: t, h => exact absurd h (by simp only [List.length_cons]; omega)
theorem zip_list (keys vs : List Value) : (keys.toArray.zip vs.toArray).toList = keys.zip vs := by simp
theorem end_rf {n : Nat} {a kS : Addr} {e e1 : Nat} {ks : List D} {keys its : List Value} {P : PySem.Fin → Shared → Prop} {E : Value → Shared → Prop} (hk : s.heap.get? kS = some (seqObj "list" keys.toArray e)) (ha : s.heap.get? a = some (seqObj "list" #[] e1)) (hne : kS ≠ a)
    (hl : keys.length = its.length) (hz : its.length ≤ sizeLine) (hr : Rvs s.heap ks keys) (hok : D.okds n ks = true) (hs : okSort ks = true) (ht : ks.all tupK = true) (hu : A.units + n < cLine)
    (h : P (.done (.ret .none)) { s with heap := (s.heap.update kS (Obj.mapSeq fun _ => #[])).update a (Obj.mapSeq fun _ => ((isort (fun p : Keyed => rkV s.heap ks p.1) (keys.zip its)).map (·.2)).toArray) }) :
    wpAny (model prog w) A (ksk_end a false its.toArray e1 (.ref kS) keys.toArray) P E s := by
  have hzl : ((isort (fun p : Keyed => rkV s.heap ks p.1) (keys.zip its)).map (·.2)).length ≤ sizeLine := by
    rw [List.length_map, (isort_perm _ _).length_eq, List.length_zip]; omega
  have fin : ∀ st : SortSt, (arrOf st).toList = isort (fun p : Keyed => rkV s.heap ks p.1) (keys.zip its) → failedOf st = none → wpAny (model prog w) A (ksk_tail a false e1 (.ref kS) st) P E s := fun st e hf => by
    refine tail_rf hk ha hne (by omega) hzl ?_ hf h
    rw [← e, ← Array.toList_map, Array.toArray_toList]
  unfold ksk_end
  try dsimp only
  rw [if_neg Bool.false_ne_true, if_neg Bool.false_ne_true]
  by_cases h2 : its.toArray.size < 2
  · rw [if_pos h2, if_pos h2]
    refine wpAny_bind (wpAny_pure ?_)
    rw [StateT.run_pure]
    refine wpAny_bind (wpAny_pure ?_)
    try dsimp only
    refine fin (SortSt.mk' general' (keys.toArray.zip its.toArray) #[] 7 none) ?_ rfl
    show (keys.toArray.zip its.toArray).toList = _
    rw [zip_list]
    refine (isort_short _ ?_).symm
    rw [List.size_toArray] at h2
    rw [List.length_zip]; omega
  · rw [if_neg h2, if_neg h2]
    rw [List.size_toArray] at h2
    refine wpAny_bind (keys_kind hr ht (by omega) ?_)
    have hall : AllL (fun p : Keyed => p.1 ∈ keys) (keys.toArray.zip its.toArray).toList := fun p hm => by
      rw [zip_list] at hm
      obtain ⟨x, y⟩ := p
      exact (List.of_mem_zip hm).1
    refine wpAny_bind (wpAny_mono (wpS_sortO (st0 := SortSt.mk' (tuples' true) (keys.toArray.zip its.toArray) #[] 7 none)
      (Q := fun _ st' => Srtd (rlt fun p : Keyed => rkV s.heap ks p.1) (arrOf st').toList ∧ Stb (rlt fun p : Keyed => rkV s.heap ks p.1) (arrOf st').toList (keys.toArray.zip its.toArray).toList ∧ failedOf st' = none)
      (swo_rlt _) (keys_cmp hok hs ht hr hu) rfl hall rfl rfl fun st' a1 a2 a3 => ⟨a1, a2, a3⟩) ?_ fun _ _ e => e)
    rintro ⟨⟨⟩, st'⟩ s' ⟨rfl, hp1, hp2, hf⟩
    try dsimp only
    rw [zip_list] at hp2
    exact fin st' (isort_eq hp1 hp2) hf
end

def KeysAt (c : Cfg) (f : Str) (S : Store) : List D → List D → Prop
  | [], [] => True
  | x :: xs, k :: ks => c.call f [x] S = .ok (k, S) ∧ KeysAt c f S xs ks
  | _, _ => False
def keyF (c : Cfg) (f : Str) : D → Store → Res (Option D × Store) := fun x S2 => (c.call f [x] S2).bd fun k S3 => if S3 = S2 then .ok (some k, S3) else .bad
theorem keyF_of {c : Cfg} {f : Str} {x : D} {S : Store} {y : Option D} {S1 : Store} (h : keyF c f x S = .ok (y, S1)) : ∃ k, y = some k ∧ S1 = S ∧ c.call f [x] S = .ok (k, S) := by
  unfold keyF at h
  cases z : c.call f [x] S with
  | bad => rw [z] at h; cases h
  | ex e r S' => rw [z] at h; cases h
  | ok p =>
    obtain ⟨k, S3⟩ := p
    rw [z] at h
    have h' : (if S3 = S then Res.ok (some k, S3) else .bad) = Res.ok (y, S1) := h
    split at h'
    · rename_i e
      subst e
      cases h'
      exact ⟨k, rfl, rfl, rfl⟩
    · cases h'
theorem keys_at {c : Cfg} {f : Str} : ∀ {xs : List D} {S : Store} {r : RDs}, compL (fun _ => true) (keyF c f) xs S = r → r = .bad ∨ ∃ ks, r = .ok (ks, S) ∧ KeysAt c f S xs ks
  | [], S, r, h => by
    rw [compL, if_pos rfl] at h
    exact .inr ⟨[], h.symm, trivial⟩
  | x :: xs, S, r, h => by
    rw [compL, if_pos rfl] at h
    cases z : keyF c f x S with
    | bad => rw [z] at h; exact .inl h.symm
    | ex e r' S' => rw [z] at h; exact .inl h.symm
    | ok p =>
      obtain ⟨y, S1⟩ := p
      rw [z] at h
      obtain ⟨k, rfl, rfl, hc⟩ := keyF_of z
      have h' : ((compL (fun _ => true) (keyF c f) xs S1).bd fun ys S2 => Res.ok (conso (some k) ys, S2)) = r := h
      rcases keys_at (xs := xs) (S := S1) rfl with e | ⟨ks, e, hk⟩
      · rw [e] at h'; exact .inl h'.symm
      · rw [e] at h'; exact .inr ⟨k :: ks, h'.symm, hc, hk⟩
theorem KeysAt.len {c : Cfg} {f : Str} {S : Store} : ∀ {xs ks : List D}, KeysAt c f S xs ks → ks.length = xs.length
  | [], [], _ => rfl
  | x :: xs, k :: ks, h => by simp [KeysAt.len h.2]
  | [], _ :: _, h => h.elim
  | _ :: _, [], h => h.elim
section
variable {X : Cx} {CX : CXT} {G : Gam} {n : Nat} {f : Str}
theorem call2 {k : Nat} {fa : Addr} {fd : FuncData} {ps : List Str} {sp : Sp} (F : FnOk X.prog X.w X.K X.mg X.base CX k fa fd ps sp) (hr : Room k X.A.in1.in1) (hb : Binds X.K fd ps []) (cxf : ∀ o H s e s', ¬ CX o H s (fun _ _ _ => False) e s')
    {pins : List (Addr × Obj)} {σ : L2.St} {H : Hp} {s : Shared} {Q : VK} {us : List Value} {vs : List V} (I : Inv X pins σ H s) (r : Vals vs us) (h : sp vs H Q (fun _ _ _ => False)) :
    wpAny (model X.prog X.w) X.A.in1.in1 (call (.ref fa) us) (EP X pins σ Q) (fun _ _ => False) s := by
  have hl : us.length = ps.length := by rw [← r.length]; exact F.len _ _ _ _ h
  have b := hb s us I.kIn (by rw [List.append_nil]; exact hl)
  rw [List.append_nil] at b
  have env : Env0 X.prog X.w X.K X.mg X.base X.A.in1.in1 X.stack s H := { I.env0 with frames := I.env0.frames }
  refine wpAny_call (codeAny_mono (F.run X.A.in1.in1 X.stack s H ⟨us, []⟩ us vs Q _ hr env b r h) fun r s' hq => ?_)
  cases r with
  | error e => exact (cxf _ _ _ _ _ hq).elim
  | ok fl =>
    cases fl with
    | ret u => exact I.after hq
    | next => exact False.elim hq
    | brk => exact False.elim hq
    | cont => exact False.elim hq
theorem key_fold {M : Model} {A : Around} {E : Value → Shared → Prop} {body : Value → PUnit → Sem (ForInStep PUnit)} {Q : PUnit → Shared → Prop} {c : Cfg} {S : Store} {K : PySem.W.Frag} {m : List Addr} {F : Addr → Prop} {H : Hp} (J : List D → Shared → Prop) {N : Nat}
    (hbody : ∀ x k v u pre s, pre.length < N → J pre s → c.call f [x] S = .ok (k, S) → Rp K m F H x v → RelV v u → wpAny M A (body u ⟨⟩) (fun r s'' => r = .yield ⟨⟩ ∧ J (pre ++ [k]) s'') E s) :
    ∀ (xs ks : List D) (vs : List V) (us : List Value) (pre : List D) (s : Shared), pre.length + xs.length = N → KeysAt c f S xs ks → Rps K m F H xs vs → Vals vs us → J pre s → (∀ s', J (pre ++ ks) s' → Q ⟨⟩ s') → wpAny M A (forIn us PUnit.unit body) Q E s
  | [], [], vs, us, pre, s, _, _, r, rv, hj, h => by
    rw [Rps.nil_iff.mp r] at rv
    cases rv
    rw [List.forIn_nil]
    exact wpAny_pure (h s (by rw [List.append_nil]; exact hj))
  | x :: xs, k :: ks, vs, us, pre, s, hn, hk, r, rv, hj, h => by
    obtain ⟨v, vr, rfl, r1, r2⟩ := r.uncons
    cases rv with
    | cons e1 e2 =>
      rw [List.forIn_cons]
      refine wpAny_bind (wpAny_mono (hbody x k _ _ pre s (by simp at hn; omega) hj hk.1 r1 e1) (fun q s' hq => ?_) fun _ _ e => e)
      obtain ⟨rfl, hq⟩ := hq
      exact key_fold J hbody xs ks _ _ (pre ++ [k]) s' (by simp at hn ⊢; omega) hk.2 r2 e2 hq fun s'' hs => h s'' (by rw [List.append_assoc] at hs; exact hs)
  | [], _ :: _, _, _, _, _, _, h, _, _, _, _ => h.elim
  | _ :: _, [], _, _, _, _, _, h, _, _, _, _ => h.elim

structure Zp where
  k : D
  x : D
  v : V
  u : Value
  kv : Value
theorem zip_all {h : Heap} {K : PySem.W.Frag} {m : List Addr} {F : Addr → Prop} {H : Hp} : ∀ {ks xs : List D} {vs : List V} {us keys : List Value}, ks.length = xs.length → Rps K m F H xs vs → Vals vs us → Rvs h ks keys →
    ∃ Z : List Zp, Z.map Zp.k = ks ∧ Z.map Zp.x = xs ∧ Z.map Zp.v = vs ∧ Z.map Zp.u = us ∧ Z.map Zp.kv = keys ∧ ∀ z ∈ Z, Rp K m F H z.x z.v ∧ RelV z.v z.u ∧ Rv h z.k z.kv
  | [], [], vs, us, keys, _, r, rv, rk => by
    rw [Rps.nil_iff.mp r] at rv ⊢
    cases rv
    rw [Rvs] at rk; subst rk
    exact ⟨[], rfl, rfl, rfl, rfl, rfl, fun z hz => by cases hz⟩
  | k :: ks, x :: xs, vs, us, keys, e, r, rv, rk => by
    obtain ⟨v, vr, rfl, r1, r2⟩ := r.uncons
    rw [Rvs] at rk
    obtain ⟨kv, kr, rfl, k1, k2⟩ := rk
    cases rv with
    | cons e1 e2 =>
      obtain ⟨Z, a1, a2, a3, a4, a5, a6⟩ := zip_all (by simpa using e) r2 e2 k2
      rename_i u0 l0
      refine ⟨⟨k, x, v, u0, kv⟩ :: Z, by simp [a1], by simp [a2], by simp [a3], by simp [a4], by simp [a5], fun z hz => ?_⟩
      rcases List.mem_cons.mp hz with rfl | hz
      · exact ⟨r1, e1, k1⟩
      · exact a6 z hz
  | [], _ :: _, _, _, _, e, _, _, _ => by simp at e
  | _ :: _, [], _, _, _, e, _, _, _ => by simp at e
theorem zip_map2 {α β γ : Type} (f : α → β) (g : α → γ) : ∀ l : List α, (l.map f).zip (l.map g) = l.map fun z => (f z, g z)
  | [] => rfl
  | z :: l => by simp only [List.map_cons, List.zip_cons_cons, zip_map2 f g l]
theorem rps_mem {K : PySem.W.Frag} {m : List Addr} {F : Addr → Prop} {H : Hp} : ∀ {Z : List Zp}, (∀ z ∈ Z, Rp K m F H z.x z.v) → Rps K m F H (Z.map Zp.x) (Z.map Zp.v)
  | [], _ => .nil
  | z :: Z, h => .cons (h z (by simp)) (rps_mem fun y hy => h y (by simp [hy]))
theorem vals_mem : ∀ {Z : List Zp}, (∀ z ∈ Z, RelV z.v z.u) → Vals (Z.map Zp.v) (Z.map Zp.u)
  | [], _ => .nil
  | z :: Z, h => .cons (h z (by simp)) (vals_mem fun y hy => h y (by simp [hy]))
theorem sort_out {h : Heap} {K : PySem.W.Frag} {m : List Addr} {F : Addr → Prop} {H : Hp} {ks xs out : List D} {vs : List V} {us keys : List Value} (hl : ks.length = xs.length) (r : Rps K m F H xs vs) (rv : Vals vs us) (rk : Rvs h ks keys) (hs : okSort ks = true)
    (ho : (sortK (ks.zip xs)).map (·.2) = out) : ∃ ov, Rps K m F H out ov ∧ Vals ov ((isort (fun p : Keyed => rkV h ks p.1) (keys.zip us)).map (·.2)) := by
  obtain ⟨Z, a1, a2, a3, a4, a5, a6⟩ := zip_all hl r rv rk
  have e1 : ks.zip xs = Z.map fun z => (z.k, z.x) := by rw [← zip_map2, a1, a2]
  have e2 : keys.zip us = Z.map fun z => (z.kv, z.u) := by rw [← zip_map2, a5, a4]
  have mk : ∀ z ∈ Z, z.k ∈ ks := fun z hz => by rw [← a1]; exact List.mem_map.mpr ⟨z, hz, rfl⟩
  have e3 : out = (isort (fun z : Zp => rkD ks z.k) Z).map Zp.x := by
    rw [← ho, e1, sortK_eq hs (fun y hy => by
      obtain ⟨z, hz, rfl⟩ := List.mem_map.mp hy
      exact mk z hz), isort_map, List.map_map]
    rfl
  have e4 : (isort (fun p : Keyed => rkV h ks p.1) (keys.zip us)).map (·.2) = (isort (fun z : Zp => rkD ks z.k) Z).map Zp.u := by
    rw [e2, isort_map, List.map_map]
    rw [isort_congr (l := Z) (r := fun z => rkV h ks (z.kv, z.u).1) (r' := fun z : Zp => rkD ks z.k) fun z hz => rkV_of (mk z hz) (a6 z hz).2.2]
    rfl
  have mz : ∀ z ∈ isort (fun z : Zp => rkD ks z.k) Z, z ∈ Z := fun z hz => (isort_perm _ Z).mem_iff.mp hz
  refine ⟨(isort (fun z : Zp => rkD ks z.k) Z).map Zp.v, ?_, ?_⟩
  · rw [e3]
    exact rps_mem fun z hz => (a6 z (mz z hz)).1
  · rw [e4]
    exact vals_mem fun z hz => (a6 z (mz z hz)).2.1
theorem sortT_of {ks xs out : List D} (h : sortT ks xs = some out) : ks.all tupK = true ∧ D.okds deep ks = true ∧ okSort ks = true ∧ (sortK (ks.zip xs)).map (·.2) = out := by
  unfold sortT at h
  split at h
  · rename_i h1
    unfold sortD at h
    split at h
    · rename_i h2
      cases h
      exact ⟨h1, h2.1, h2.2, rfl⟩
    · cases h
  · cases h
def rSK (K : PySem.W.Frag) (c : Cfg) (f : Str) (fa : Addr) : List V → List V → Hp → VK → Prop := fun vs zs H Q => zs = [.ref fa] ∧ ∃ m F S x xs ks out, Sm K m F S H ∧ Rps K m F H [x] vs ∧ litems S x = some xs ∧ KeysAt c f S xs ks ∧ sortT ks xs = some out ∧
  ∀ m1 H1 q ov, Grow m H m1 H1 → Sm K m1 F S H1 → Rps K m1 F H1 out ov → H1 q = none → Q (.ref q) (upd H1 q (.lst ov))
end
end Rf


namespace Rf
open PySem PySem.Spec PyProof.Rows L2 SrtO Srt
section
variable {X : Cx} {CX : CXT} {G : Gam} {n : Nat} {f : Str}
theorem cr_sortk {fa : Addr} {fd : FuncData} {ps : List Str} (Fo : FnOk X.prog X.w X.K X.mg X.base CX (2 * n) fa fd ps (spF X.K X.mg G n f)) (hr : Room (2 * n + 1) X.A) (hb : Binds X.K fd ps []) (cxf : ∀ o H s e s', ¬ CX o H s (fun _ _ _ => False) e s') :
    CallRK X (.builtin "sorted") [Str.ofString "key"] (rSK X.K (G.cfg n) f fa) := by
  intro pins s σ H vs zs us ws Q I rvs rzs h
  obtain ⟨rfl, m, F, S, x, xs, ks, out, hs, rx, hi, hk, ho, q⟩ := h
  obtain ⟨v, rfl, rx1⟩ := rx.one
  obtain ⟨u, rfl, ru⟩ := rvs.one
  obtain ⟨w, rfl, rw1⟩ := rzs.one
  obtain ⟨l, ivs, rfl, hq, hrx⟩ := litems_at hs rx1 hi
  cases (show u = Value.ref l from ru)
  cases (show w = Value.ref fa from rw1)
  obtain ⟨its, r1, p1, hz⟩ := I.list (SqL.of hq)
  have hli := r1.length
  have hl := p1.isList
  have hzi : its.length ≤ sizeLine := by omega
  obtain ⟨t1, t2, t3, t4⟩ := sortT_of ho
  have hr2 : Room (2 * n) X.A.in1.in1 := ⟨hr.hd, by have := hr.dp; show X.A.depth + 3 * (2 * n) + 5 < _; omega, by have := hr.un; show X.A.units + 1 + 1 + 16 * (2 * n) + 200 < _; omega⟩
  have hun : X.A.in1.in1.units + deep < cLine := by have := hr.un; show X.A.units + 1 + 1 + 40 < _; omega
  show wpAny (model X.prog X.w) X.A (call (.builtin "sorted") [.ref l] [(Str.ofString "key", .ref fa)]) (EP X pins σ Q) X.xe s
  refine call_function_entry_kw kind_sorted plain_sorted entry_sorted (ksk_s1 _ _) ?_
  unfold Builtin.«sorted»
  refine wpAny_bind (m := checkCount "sorted" 1 1 _) (wpAny_pure ?_)
  refine wpAny_bind (collect_list hl ?_ hzi)
  refine wpAny_bind (wpAny_newList ?_ hzi)
  have hsz : ((s.heap.push (seqObj "list" #[] 0)).update s.heap.objs.size (Obj.mapSeq (· ++ its.toArray))).objs.size = s.heap.objs.size + 1 := by
    rw [Heap.size_update, size_push']
  have hoL : (((s.heap.push (seqObj "list" #[] 0)).update s.heap.objs.size (Obj.mapSeq (· ++ its.toArray))).push (seqObj "list" its.toArray 0)).get? (s.heap.objs.size + 1) = some (seqObj "list" its.toArray 0) := by
    rw [← hsz]; exact Heap.get?_push_size _ rfl
  have keep : ∀ b o, s.heap.get? b = some o → b ≠ s.heap.objs.size + 1 ∧ (((s.heap.push (seqObj "list" #[] 0)).update s.heap.objs.size (Obj.mapSeq (· ++ its.toArray))).push (seqObj "list" its.toArray 0)).get? b = some o := fun b o q => by
    have hlt : b < s.heap.objs.size := Heap.lt_size q
    refine ⟨Nat.ne_of_lt (Nat.lt_succ_of_lt hlt), Heap.get?_push_of_some _ ?_⟩
    rw [Heap.get?_update_ne _ _ _ _ (Nat.ne_of_lt hlt)]
    exact Heap.get?_push_of_some _ q
  show wpAny _ _ _ _ _ { s with heap := ((s.heap.push (seqObj "list" #[] 0)).update s.heap.objs.size (Obj.mapSeq (· ++ its.toArray))).push (seqObj "list" its.toArray 0) }
  rw [hsz]
  generalize hh1 : ((s.heap.push (seqObj "list" #[] 0)).update s.heap.objs.size (Obj.mapSeq (· ++ its.toArray))).push (seqObj "list" its.toArray 0) = h1 at hoL keep ⊢
  generalize ha : s.heap.objs.size + 1 = a at hoL keep ⊢
  have ale : s.heap.objs.size ≤ a := by omega
  refine wpAny_bind (wpAny_holding (wpAny_call_entry_kw slot_list_sort ⟨_, hoL, rfl⟩ entry_list_sort ?_ (ksk_l1 _ _)))
  show wpAny (model X.prog X.w) X.A.in1.in1 (Builtin.«list.sort» ⟨[.ref a], [(Str.ofString "key", .ref fa)]⟩) _ _ _
  rw [ksk_t1]
  unfold ksk_tree
  refine wpAny_bind (listItems_at hoL rfl ?_)
  refine wpAny_bind (listUpdate_at hoL rfl ?_ (by simpa using hzi) (Nat.zero_le _))
  obtain ⟨e1, ho1⟩ : ∃ e1, (h1.update a (Obj.mapSeq fun _ => (#[] : Array Value))).get? a = some (seqObj "list" #[] e1) := ⟨_, get?_update_seq hoL fun _ => #[]⟩
  refine wpAny_bind (seqEpoch_at ho1 rfl ?_)
  refine wpAny_bind (wpAny_newTuple ?_ (by simpa using hzi))
  refine wpAny_bind (wpAny_newList ?_ (Nat.zero_le _))
  refine wpAny_holding ?_
  have haS : a < h1.objs.size := Heap.lt_size hoL
  have hkS : ((h1.update a (Obj.mapSeq fun _ => (#[] : Array Value))).push (seqObj "tuple" its.toArray 0)).objs.size = h1.objs.size + 1 := by rw [size_push', Heap.size_update]
  have hk0 : (((h1.update a (Obj.mapSeq fun _ => (#[] : Array Value))).push (seqObj "tuple" its.toArray 0)).push (seqObj "list" #[] 0)).get? (h1.objs.size + 1) = some (seqObj "list" #[] 0) := by
    rw [← hkS]; exact Heap.get?_push_size _ rfl
  have ho3 : (((h1.update a (Obj.mapSeq fun _ => (#[] : Array Value))).push (seqObj "tuple" its.toArray 0)).push (seqObj "list" #[] 0)).get? a = some (seqObj "list" #[] e1) :=
    Heap.get?_push_of_some _ (Heap.get?_push_of_some _ ho1)
  have keep3 : ∀ b o, s.heap.get? b = some o → (((h1.update a (Obj.mapSeq fun _ => (#[] : Array Value))).push (seqObj "tuple" its.toArray 0)).push (seqObj "list" #[] 0)).get? b = some o := fun b o e =>
    Heap.get?_push_of_some _ (Heap.get?_push_of_some _ ((Heap.get?_update_ne _ _ _ _ (keep b o e).1).trans (keep b o e).2))
  show wpAny (model X.prog X.w) X.A.in1.in1 (ksk_rest a (.ref fa) false its.toArray e1 (.ref ((h1.update a (Obj.mapSeq fun _ => (#[] : Array Value))).push (seqObj "tuple" its.toArray 0)).objs.size)) _ _ { s with heap := ((h1.update a (Obj.mapSeq fun _ => (#[] : Array Value))).push (seqObj "tuple" its.toArray 0)).push (seqObj "list" #[] 0) }
  rw [hkS]
  generalize hh3 : ((h1.update a (Obj.mapSeq fun _ => (#[] : Array Value))).push (seqObj "tuple" its.toArray 0)).push (seqObj "list" #[] 0) = h3 at hk0 ho3 keep3 ⊢
  generalize hkk : h1.objs.size + 1 = kS at hk0 ⊢
  have kle : s.heap.objs.size ≤ kS := by omega
  have hka : kS ≠ a := by omega
  have fa1 := I.fpOk (H' := H) ale (I.hok.fresh ale)
  have fk1 := I.fpOk (H' := H) kle (I.hok.fresh kle)
  have I3 : Inv X pins σ H { s with heap := h3 } := I.kept (t' := s.toks) keep3
  have nocell : ∀ (xs : Array Value) (c : Nat) (v : Option Value), (seqObj "list" xs c).data ≠ .cell v := fun xs c v h => by cases h
  have I4 : Inv X (pins ++ [(a, seqObj "list" #[] e1), (kS, seqObj "list" #[] 0)]) σ H { s with heap := h3 } := I3.pins_of fun p hp => by
    rcases List.mem_append.mp hp with hp | hp
    · exact I3.pin p (List.mem_append_right _ hp)
    · rcases List.mem_cons.mp hp with rfl | hp
      · exact ⟨ho3, fa1.1, fa1.2.1, fa1.2.2.1, nocell _ _⟩
      · rw [List.mem_singleton.mp hp]
        exact ⟨hk0, fk1.1, fk1.2.1, fk1.2.2.1, nocell _ _⟩
  unfold ksk_rest
  refine wpAny_bind (wpAny_rule ?_)
  first
    | rw [List.forIn_toArray]
    | (rw [← Array.forIn_toList]; simp only [List.toList_toArray])
    | rw [← Array.forIn_toList]
  refine wpAny_bind (key_fold (c := G.cfg n) (S := S) (K := X.K) (m := m) (F := F) (H := H)
    (fun pre s' => ∃ m1 H1 kvs keys c, Inv X (pins ++ [(a, seqObj "list" #[] e1), (kS, seqObj "list" (List.toArray keys) c)]) σ H1 s' ∧ Grow m H m1 H1 ∧ Sm X.K m1 F S H1 ∧ Vals kvs keys ∧ Rps X.K m1 F H1 pre kvs ∧ keys.length = pre.length) (N := xs.length)
    (fun x k v u pre s' hlt hj hc rpx rvu => ?_) xs ks ivs its [] _ (by simp) hk hrx r1 ⟨m, H, [], [], 0, I4, hs.refl, hs, .nil, .nil, rfl⟩ fun s' hj => ?_)
  · obtain ⟨m1, H1, kvs, keys, c, I5, g5, s5, rk5, rp5, hkz⟩ := hj
    refine wpAny_bind (wpAny_attempt (wpAny_mono (call2 (Q := fun v H' => ∃ m', Grow m1 H1 m' H' ∧ Sm X.K m' F S H' ∧ Rp X.K m' F H' k v) Fo hr2 hb cxf I5 (.cons rvu .nil) ⟨m1, F, S, [x], s5, .cons (rpx.mono g5) .nil, ?_⟩) (fun kv s'' hkv => ?_) fun _ _ hF => hF.elim))
    · have hc' : callF G n f [x] S = .ok (k, S) := hc
      rw [hc']
      exact fun m' H' v g s r => ⟨m', g, s, r⟩
    · obtain ⟨kw, H2, I6, rkv, m2, g6, s6, rp6⟩ := hkv
      try dsimp only
      have nk := I6.pin (kS, seqObj "list" (List.toArray keys) c) (by simp)
      have na := I6.pin (a, seqObj "list" #[] e1) (by simp)
      have hlx := hrx.len
      have hfull : keys.length + 1 ≤ sizeLine := by omega
      · refine wpAny_bind (listUpdate_at nk.1 rfl ?_ (by rw [List.size_toArray]; omega) (by simp; omega))
        have s1 := Heap.SameBut.update s''.heap kS (Obj.mapSeq (·.push kv))
        have ea : (List.toArray keys).push kv = List.toArray (keys ++ [kv]) := by simp
        obtain ⟨c2, hc2⟩ : ∃ c2, (s''.heap.update kS (Obj.mapSeq (·.push kv))).get? kS = some (seqObj "list" (List.toArray (keys ++ [kv])) c2) := ⟨_, by rw [← ea]; exact get?_update_seq nk.1 (·.push kv)⟩
        refine wpAny_pure ⟨rfl, m2, H2, kvs ++ [kw], keys ++ [kv], c2, ?_, g5.trans g6, s6, rk5.append (.cons rkv .nil), (rp5.mono g6).app (.cons rp6 .nil), by simp [hkz]⟩
        have I7 : Inv X (pins ++ [(a, seqObj "list" #[] e1)]) σ H2 s'' := I6.pins_of fun p hp => I6.pin p (by
          rcases List.mem_append.mp hp with hp | hp
          · exact List.mem_append_right _ (List.mem_append_left _ hp)
          · rw [List.mem_singleton.mp hp]; simp)
        have I8 := I7.turned (t' := s''.toks) (it := kS) (h' := s''.heap.update kS (Obj.mapSeq (·.push kv))) (fun b o hb e => (s1.2 b hb).trans e) nk.2.1 nk.2.2.1 fk1.2.2.2.1 fk1.2.2.2.2.1 fun p hp => by
          rcases List.mem_append.mp hp with hp | hp
          · exact fk1.2.2.2.2.2 p (List.mem_append_left _ hp)
          · rcases List.mem_append.mp hp with hp | hp
            · exact fk1.2.2.2.2.2 p (List.mem_append_right _ hp)
            · rw [List.mem_singleton.mp hp]; exact hka.symm
        refine I8.pins_of fun p hp => ?_
        rcases List.mem_append.mp hp with hp | hp
        · exact I8.pin p (List.mem_append_right _ (List.mem_append_left _ hp))
        · rcases List.mem_cons.mp hp with rfl | hp
          · exact I8.pin _ (by simp)
          · rw [List.mem_singleton.mp hp]
            exact ⟨hc2, nk.2.1, nk.2.2.1, nk.2.2.2.1, nocell _ _⟩
  · obtain ⟨m1, H1, kvs, keys, c, I5, g5, s5, rk5, rp5, hkz⟩ := hj
    rw [List.nil_append] at rp5
    have nk := I5.pin (kS, seqObj "list" (List.toArray keys) c) (by simp)
    have na := I5.pin (a, seqObj "list" #[] e1) (by simp)
    try dsimp only
    refine wpAny_bind (listItems_at nk.1 rfl ?_)
    have rvk : Rvs s'.heap ks keys := rvs_pure I5 deep ks kvs keys rp5 rk5 t2
    have hlk : ks.length = xs.length := hk.len
    have hlx := hrx.len
    have hkl : keys.length = its.length := by rw [← rvk.len, hlk, hlx, hli]
    refine end_rf nk.1 na.1 hka hkl hzi rvk t2 t3 t1 hun ⟨_, rfl, ?_⟩
    obtain ⟨ov, ro, vo⟩ := sort_out hlk (hrx.mono g5) r1 rvk t3 t4
    have s1 := Heap.SameBut.update s'.heap kS (Obj.mapSeq fun _ => (#[] : Array Value))
    have I6 := (I5.pins_of (pins' := pins) fun p hp => I5.pin p (List.mem_append_right _ (List.mem_append_left _ hp))).turned (t' := s'.toks) (it := kS) (h' := s'.heap.update kS (Obj.mapSeq fun _ => (#[] : Array Value)))
      (fun b o hb e => (s1.2 b hb).trans e) nk.2.1 nk.2.2.1 fk1.2.2.2.1 fk1.2.2.2.2.1 fk1.2.2.2.2.2
    have na2 : (s'.heap.update kS (Obj.mapSeq fun _ => (#[] : Array Value))).get? a = some (seqObj "list" #[] e1) := (s1.2 a hka.symm).trans na.1
    have hov : ov.length ≤ sizeLine := by
      rw [vo.length, List.length_map, (isort_perm _ _).length_eq, List.length_zip]; omega
    generalize hO : (isort (fun p : Keyed => rkV s'.heap ks p.1) (keys.zip its)).map (·.2) = O at vo ⊢
    generalize hG : s'.heap.update kS (Obj.mapSeq fun _ => (#[] : Array Value)) = g1 at I6 na2 ⊢
    have s2 := Heap.SameBut.update g1 a (Obj.mapSeq fun _ => O.toArray)
    obtain ⟨c3, hc3⟩ : ∃ c3, (g1.update a (Obj.mapSeq fun _ => O.toArray)).get? a = some (seqObj "list" O.toArray c3) := ⟨_, get?_update_seq na2 fun _ => O.toArray⟩
    generalize hG2 : g1.update a (Obj.mapSeq fun _ => O.toArray) = g2 at s2 hc3 ⊢
    have I7 : Inv X pins σ (upd H1 a (.lst ov)) { s' with heap := g2, toks := s'.toks } := I6.take (t' := s'.toks) (it := a) (o := .lst ov) (h' := g2)
      (fun b o hb e => (s2.2 b hb).trans e) ⟨na.2.1, na.2.2.1, na.2.2.2.1, fa1.2.2.2⟩ ⟨hov, O, c3, vo, hc3⟩
    exact wpAny_pure ⟨_, rfl, .ref a, _, I7, rfl, q m1 H1 a ov g5 s5 ro na.2.1⟩
theorem L_sortk {a : CE} {e1 : Expr} {p p2 kp pos : Pos} {W : WX} (hF : FnAt X CX G n f) (hr : Room (2 * n + 1) X.A) (hg : Gl X "sorted") (hm : X.mg "sorted" = none) (hgf : Gl X f) (hdb : (f == ("__debug__" : Str)) = false)
    (cxf : ∀ o H s e s', ¬ CX o H s (fun _ _ _ => False) e s') (hp : plainE e1 = true) (ha : PE X e1 (tE X.K X.mg (G.cfg n) W a)) :
    PE X (.Call (.Name "sorted" p) [e1] [⟨some (Str.ofString "key"), .Name f p2, kp⟩] pos) (tL X.K X.mg (G.cfg n) W (.sortk f a)) := by
  obtain ⟨fa, fd, ps, hmf, hk, hb, Fo⟩ := hF
  have pk : PK X [⟨some (Str.ofString "key"), .Name f p2, kp⟩] (tCons (L2.tC (.ref fa)) tNil) := pk_cons (pe_glob hgf hmf rfl hdb) pk_nil
  refine PE_imp (pe_callBK (ks := [Str.ofString "key"]) (cr_sortk Fo hr hb cxf) hg hm rfl (A_cons (as := .nil) hp ha A_nil) pk (by decide) (by decide) (by rw [star_plain hp]; rfl) (by rw [star_plain hp]; rfl)) fun σ H Q ⟨m, F, S, ρ, s, r, h⟩ => ?_
  rw [evalL] at h
  refine ⟨m, F, S, ρ, s, r, ?_⟩
  rw [evalEs]
  have h := FinL.bd h
  unfold Fin at h ⊢
  cases z : evalE (G.cfg n) a ρ S with
  | bad => rw [z] at h; exact h
  | ex e ρ' S' => rw [z] at h; exact h
  | ok q =>
    obtain ⟨x, S1⟩ := q
    rw [z] at h
    show ∀ m' H', _ → _ → ∀ vs, _ → _
    intro m1 H1 g1 s1 vs rvs
    have h1 := h m1 H1 g1 s1
    dsimp only at h1
    cases z2 : litems S1 x with
    | none => rw [z2] at h1; exact h1.elim
    | some xs =>
      rw [z2] at h1
      have h1 : FinL X.K X.mg m1 F H1 W ((compL (fun _ => true) (keyF (G.cfg n) f) xs S1).bd fun ks S2 => Res.of (sortT ks xs) S2) Q := h1
      rcases keys_at (c := G.cfg n) (f := f) (xs := xs) (S := S1) rfl with e | ⟨ks, e, hk⟩
      · rw [e] at h1; exact h1.elim
      · rw [e] at h1
        cases z3 : sortT ks xs with
        | none =>
          have h2 : FinL X.K X.mg m1 F H1 W (Res.of (sortT ks xs) S1) Q := h1
          rw [z3] at h2; exact h2.elim
        | some out =>
          have h2 : FinL X.K X.mg m1 F H1 W (Res.of (sortT ks xs) S1) Q := h1
          rw [z3] at h2
          refine ⟨rfl, m1, F, S1, x, xs, ks, out, s1, rvs, z2, hk, z3, fun m2 H2 q ov g2 s2 ro nq => ?_⟩
          exact FinL.lay (xs := out) (S := S1) (FinL.grow h2 g2) s2 ro nq
end
end Rf


namespace Rf
open PySem PySem.Spec PyProof.Rows L2

section
variable {K : PySem.W.Frag} {mg : Str → Option Value} {m m' m1 m2 : List Addr} {F : Addr → Prop} {S : Store} {H H' H1 H2 : Hp} {c : Cfg} {W : WX} {ρ : Env} {σ : L2.St}
theorem Sm.enter {p : Addr} {vs : List V} {xs : List D} (s : Sm K m (fun a => F a ∨ a = p) S H) (e : H p = some (.lst vs)) (np : p ∉ m) (nf : ¬ F p) (r : Rps K m (fun a => F a ∨ a = p) H xs vs) : Sm K (m ++ [p]) F (S ++ [.lst xs]) H := by
  have go : ∀ xs vs, Rps K m (fun a => F a ∨ a = p) H xs vs → Rps K (m ++ [p]) F H xs vs := fun xs vs r =>
    Rps.imp (fun _ _ _ q => q) (fun _ _ q => q) (fun a vs h1 h2 h3 => ⟨h1, by simp only [List.mem_append, List.mem_singleton, not_or]; exact ⟨h2, fun z => h3 (.inr z)⟩, fun z => h3 (.inl z)⟩)
      (fun n a e => by rw [List.getElem?_append_left (List.getElem?_eq_some_iff.mp e).1]; exact e) xs vs r
  refine ⟨by simp [s.len], ?_, fun a q => s.fok a (.inl q), fun a ha => ?_, fun n a o e1 e2 => ?_⟩
  · rw [List.nodup_append]
    refine ⟨s.nd, by simp, fun a ha b hb => ?_⟩
    have hb' : b = p := by simpa using hb
    subst hb'
    exact fun z => np (z ▸ ha)
  · rcases List.mem_append.mp ha with ha | ha
    · exact fun z => s.fm a ha (.inl z)
    · have ha' : a = p := by simpa using ha
      subst ha'; exact nf
  · by_cases hn : n < m.length
    · rw [List.getElem?_append_left hn] at e1
      rw [List.getElem?_append_left (by rw [← s.len]; exact hn)] at e2
      exact (s.obj n a o e1 e2).imp (fun u q => q) go
    · have hn' : n = m.length := by
        have := (List.getElem?_eq_some_iff.mp e1).1
        simp at this; omega
      subst hn'
      rw [List.getElem?_append_right (Nat.le_refl _)] at e1
      rw [s.len, List.getElem?_append_right (Nat.le_refl _)] at e2
      simp at e1 e2
      subst e1 e2
      exact ⟨vs, e, go xs vs r⟩

theorem rp_inF {p : Addr} {ws : List V} {o : HO} (e : H p = some (.lst ws)) (fp : F p) : (∀ d v, Rp K m F H d v → Rp K m F (upd H p o) d v) ∧ ∀ d v, Rps K m F H d v → Rps K m F (upd H p o) d v := by
  have ht0 : ∀ a vs, SqT K H a vs → SqT K (upd H p o) a vs := fun a vs h => by
    rcases h with (h | ⟨u, h⟩) | h
    · have : a ≠ p := fun z => by subst z; rw [e] at h; cases h
      exact .inl (.inl (by rw [upd_ne this]; exact h))
    · have : a ≠ p := fun z => by subst z; rw [e] at h; cases h
      exact .inl (.inr ⟨u, by rw [upd_ne this]; exact h⟩)
    · exact .inr h
  have ht : ∀ n a vs, SqN K n H a vs → SqN K n (upd H p o) a vs := fun n a vs h => ⟨ht0 a vs h.1, fun en => (h.2 en).imp (fun ⟨u, xs, q, d⟩ => by
    have : a ≠ p := fun z => by subst z; rw [e] at q; cases q
    exact ⟨u, xs, by rw [upd_ne this]; exact q, d⟩) fun q => q⟩
  have hf : ∀ a vs, FroL K H a vs → FroL K (upd H p o) a vs := fun a vs h => by
    rcases h with ⟨u, h⟩ | h
    · have : a ≠ p := fun z => by subst z; rw [e] at h; cases h
      exact .inl ⟨u, by rw [upd_ne this]; exact h⟩
    · exact .inr h
  have hl : ∀ a vs, H a = some (.lst vs) → a ∉ m → ¬ F a → upd H p o a = some (.lst vs) ∧ a ∉ m ∧ ¬ F a := fun a vs h1 h2 h3 => by
    have : a ≠ p := fun z => h3 (z ▸ fp)
    exact ⟨by rw [upd_ne this]; exact h1, h2, h3⟩
  exact ⟨fun d v => Rp.imp ht hf hl (fun _ _ q => q) d v, fun d v => Rps.imp ht hf hl (fun _ _ q => q) d v⟩
theorem Sm.inF {p : Addr} {ws vs : List V} (s : Sm K m F S H) (e : H p = some (.lst ws)) (fp : F p) : Sm K m F S (upd H p (.lst vs)) := by
  have pm : p ∉ m := fun q => s.fm p q fp
  refine ⟨s.len, s.nd, fun a q => ?_, s.fm, fun n a o e1 e2 => (s.obj n a o e1 e2).imp (fun u q => ?_) fun xs vs r => (rp_inF e fp).2 xs vs r⟩
  · by_cases h : a = p
    · subst h; exact ⟨_, upd_same⟩
    · rw [upd_ne h]; exact s.fok a q
  · have : a ≠ p := fun z => pm (z ▸ List.mem_of_getElem? e1)
    rw [upd_ne this]; exact q

def slotsT : CT → List Nat
  | .nm i => [i]
  | .tp is => is
def gNs : List Nat → TGs
  | [] => gNil
  | i :: is => gCons (gName i) (gNs is)
def gT (K : PySem.W.Frag) : CT → TG
  | .nm i => gName i
  | .tp is => gTup K is.length (gNs is)
theorem wipe_len (σ : L2.St) : ∀ vs : List Nat, (wipe σ vs).length = σ.length
  | [] => rfl
  | v :: vs => by rw [wipe, List.length_set, wipe_len σ vs]
theorem wipe_get (σ : L2.St) (i : Nat) : ∀ vs : List Nat, (wipe σ vs)[i]? = if i ∈ vs ∧ i < σ.length then some none else σ[i]?
  | [] => by simp [wipe]
  | v :: vs => by
    rw [wipe]
    by_cases h : v = i
    · subst h
      by_cases hl : v < σ.length
      · rw [List.getElem?_set_self (by rw [wipe_len]; exact hl), if_pos ⟨by simp, hl⟩]
      · rw [List.getElem?_eq_none (by rw [List.length_set, wipe_len]; omega), if_neg (fun z => hl z.2), List.getElem?_eq_none (by omega)]
    · rw [List.getElem?_set_ne h, wipe_get σ i vs]
      have : (i ∈ v :: vs) ↔ (i ∈ vs) := by simp [Ne.symm h]
      simp only [this]
theorem wipe_eq {σ σ' : L2.St} {vs : List Nat} (hl : σ'.length = σ.length) (h : ∀ i, i ∉ vs → σ'[i]? = σ[i]?) : wipe σ' vs = wipe σ vs := by
  apply List.ext_getElem?
  intro i
  rw [wipe_get, wipe_get, hl]
  by_cases hi : i ∈ vs
  · by_cases h2 : i < σ.length
    · rw [if_pos ⟨hi, h2⟩, if_pos ⟨hi, h2⟩]
    · rw [if_neg (fun z => h2 z.2), if_neg (fun z => h2 z.2), List.getElem?_eq_none (by omega), List.getElem?_eq_none (by omega)]
  · rw [if_neg (fun z => hi z.1), if_neg (fun z => hi z.1), h i hi]
theorem wipe_wipe (σ : L2.St) (vs : List Nat) : wipe (wipe σ vs) vs = wipe σ vs := wipe_eq (wipe_len σ vs) fun i hi => by
  rw [wipe_get, if_neg (fun z => hi z.1)]
theorem RpE.wiped (h : RpE K m F H ρ σ) (tg : CT) : RpE K m F H (wipeT tg ρ) (wipe σ (slotsT tg)) := by
  cases tg with
  | nm i => exact h.wipe1
  | tp is =>
    show RpE K m F H (is.foldr (fun i r => r.set i none) ρ) (wipe σ is)
    induction is with
    | nil => exact h
    | cons i is ih => exact ih.wipe1
theorem gNs_ok {Q : L2.St → Hp → Prop} : ∀ {is : List Nat} {xs : List D} {vs : List V} {ρ : Env} {σ : L2.St}, is.length = xs.length → Rps K m F H xs vs → RpE K m F H ρ σ →
    (∀ σ2, RpE K m F H ((is.zip xs).foldl (fun r p => r.set p.1 (some p.2)) ρ) σ2 → σ2.length = σ.length → (∀ i, i ∉ is → σ2[i]? = σ[i]?) → Q σ2 H) → gNs is vs σ H Q
  | [], [], vs, ρ, σ, _, r, e, h => by rw [Rps.nil_iff.mp r]; exact ⟨rfl, h σ e rfl fun _ _ => rfl⟩
  | i :: is, x :: xs, vs, ρ, σ, hl, r, e, h => by
    obtain ⟨v, r', rfl, a, b⟩ := r.uncons
    refine ⟨v, r', rfl, ?_⟩
    show gNs is r' (σ.set i (some v)) H Q
    refine gNs_ok (by simpa using hl) b (e.set a) fun σ2 e2 l2 k2 => h σ2 e2 (by simpa using l2) fun j hj => ?_
    simp only [List.mem_cons, not_or] at hj
    rw [k2 j hj.2, List.getElem?_set_ne (Ne.symm hj.1)]
  | [], _ :: _, _, _, _, hl, _, _, _ => by simp at hl
  | _ :: _, [], _, _, _, hl, _, _, _ => by simp at hl
theorem gT_ok {tg : CT} {x : D} {v : V} {ρ' : Env} {Q : L2.St → Hp → Prop} (rx : Rp K m F H x v) (e : RpE K m F H ρ σ) (hb : bindT tg x ρ = some ρ') (h : ∀ σ2, RpE K m F H ρ' σ2 → wipe σ2 (slotsT tg) = wipe σ (slotsT tg) → Q σ2 H) : gT K tg v σ H Q := by
  cases tg with
  | nm i =>
    simp only [bindT, Option.some.injEq] at hb
    subst hb
    refine h _ (e.set rx) (wipe_eq (by simp) fun j hj => ?_)
    have : i ≠ j := fun z => hj (by simp [slotsT, z])
    rw [List.getElem?_set_ne this]
  | tp is =>
    cases x with
    | tup xs =>
      rw [Rp] at rx
      obtain ⟨a, vs, rfl, hq, rr⟩ := rx
      simp only [bindT] at hb
      split at hb
      · rename_i hl
        cases hb
        refine ⟨a, vs, rfl, hq.1, by rw [← rr.len, hl], gNs_ok hl.symm rr e fun σ2 e2 l2 k2 => h σ2 e2 (wipe_eq l2 k2)⟩
      · cases hb
    | _ => cases hb

theorem it_list {xs : List D} {p2 : Store → Bool} {a : Addr} {L : List D} {us : List V} (rL : Rps K m F H L us)
    (k : ∀ m2 F2 H2 S2, Grow m H m2 H2 → Sm K m2 F2 S2 H2 → Rps K m2 F2 H2 L us → p2 S2 = true → ∃ vs, SqL K H2 a vs ∧ Rps K m2 F2 H2 xs vs) : ItOk K m F H (xs, p2) (Itl K a) := by
  refine ⟨L, us, rL, fun m2 F2 H2 S2 g s r hp i => ?_⟩
  obtain ⟨vs, hq, rr⟩ := k m2 F2 H2 S2 g s r hp
  refine ⟨fun d hd => ?_, fun hl => ⟨vs, hq, by rw [← rr.len]; exact hl⟩⟩
  obtain ⟨v, e1, rv⟩ := rr.get hd
  refine ⟨⟨vs, v, hq, e1⟩, fun x H3 hy => ?_⟩
  obtain ⟨rfl, hy⟩ := hy
  have := hy vs hq
  rw [e1] at this; cases this
  exact ⟨s.refl, s, rv, fun _ _ q => q⟩
theorem it_tup {xs : List D} {vs : List V} {a : Addr} (hq : SqT K H a vs) (rr : Rps K m F H xs vs) : ItOk K m F H (xs, fun _ => true) (Itt K a) := by
  refine ⟨xs, vs, rr, fun m2 F2 H2 S2 g s r hp i => ?_⟩
  have hq2 := g.tup a vs hq
  refine ⟨fun d hd => ?_, fun hl => ⟨vs, hq2, by rw [← rr.len]; exact hl⟩⟩
  obtain ⟨v, e1, rv⟩ := r.get hd
  refine ⟨⟨vs, v, hq2, e1⟩, fun x H3 hy => ?_⟩
  obtain ⟨rfl, hy⟩ := hy
  have := hy vs hq2
  rw [e1] at this; cases this
  exact ⟨s.refl, s, rv, fun _ _ q => q⟩
theorem it_fun {xs : List D} {J : It} (f : Nat → D) (n : Nat) (hl : xs.length = n) (hx : ∀ i d, xs[i]? = some d → d = f i) (k : ∀ i H2, i < n → J.go i H2 ∧ ∀ x H3, J.yld i H2 x H3 → H3 = H2 ∧ ∀ m2 F2, Rp K m2 F2 H2 (f i) x) (st : ∀ i H2, n ≤ i → J.stop i H2) : ItOk K m F H (xs, fun _ => true) J := by
  refine ⟨[], [], .nil, fun m2 F2 H2 S2 g s r hp i => ⟨fun d hd => ?_, fun h => st i H2 (by rw [← hl]; exact h)⟩⟩
  have hi : i < n := by rw [← hl]; exact (List.getElem?_eq_some_iff.mp hd).1
  obtain ⟨h1, h2⟩ := k i H2 hi
  refine ⟨h1, fun x H3 hy => ?_⟩
  obtain ⟨rfl, h3⟩ := h2 x H3 hy
  exact ⟨s.refl, s, by rw [hx i d hd]; exact h3 m2 F2, fun _ _ q => q⟩
end
section
variable {X : Cx} {c : Cfg} {W : WX}
theorem E_new {l : CL} {st : Bool} {e : Expr} (h : PE X e (tL X.K X.mg c W l)) : PE X e (tE X.K X.mg c W (.new st l)) :=
  PE_imp h fun σ H Q ⟨m, F, S, ρ, s, r, h⟩ => by
    refine ⟨m, F, S, ρ, s, r, ?_⟩
    rw [evalE] at h
    cases z : evalL c l ρ S with
    | bad => rw [z] at h; exact h
    | ex e ρ' S' => rw [z] at h; exact h
    | ok q =>
      obtain ⟨xs, S1⟩ := q
      rw [z] at h
      intro m1 H1 p vs g1 s1 e1 np nf rr o
      cases st with
      | true =>
        have h : ∀ m' H', Grow m H m' H' → Sm X.K m' F (S1 ++ [.lst xs]) H' → ∀ v, Rp X.K m' F H' (.ref S1.length) v → Q v H' := h
        refine h (m1 ++ [p]) H1 ⟨?_, g1.keep, fun a ha => ?_⟩ (s1.enter e1 np nf rr) _ ?_
        · obtain ⟨l, e, k⟩ := g1.pre
          refine ⟨l ++ [p], by rw [e]; simp, fun a ha => ?_⟩
          rcases List.mem_append.mp ha with ha | ha
          · exact k a ha
          · have ha' : a = p := by simpa using ha
            subst ha'
            exact o.resolve_left fun z => np (g1.sub _ z)
        · rcases List.mem_append.mp ha with ha | ha
          · exact g1.tr a ha
          · have ha' : a = p := by simpa using ha
            subst ha'; exact ⟨_, e1⟩
        · rw [Rp]
          exact ⟨p, by rw [← s1.len]; simp, rfl⟩
      | false =>
        have h : ∀ m' H', Grow m H m' H' → Sm X.K m' F S1 H' → ∀ v, Rp X.K m' F H' (.lst xs) v → Q v H' := h
        refine h m1 H1 g1 (s1.wider fun a q => .inl q) _ ?_
        rw [Rp]
        exact ⟨p, vs, rfl, e1, np, nf, rr.wider fun a q => .inl q⟩
theorem I_seq {a : CE} {e1 tg : Expr} (ha : PE X e1 (tE X.K X.mg c W a)) : PI X tg e1 (tI X.K X.mg c W (.seq a)) := by
  refine ⟨fun pins s σ H R I ⟨m, F, S, ρ, hs, r, h⟩ => ?_⟩
  rw [evalI] at h
  refine thn (ha.run pins s σ H (fun v H1 => ∃ m1 S1 x p, Sm X.K m1 F S1 H1 ∧ Rp X.K m1 F H1 x v ∧ seqI S1 x = some p ∧ ∀ J, ItOk X.K m1 F H1 p J → R J H1) I ⟨m, F, S, ρ, hs, r, h.bd.imp fun x S1 m1 H1 g1 s1 h1 v rv => ?_⟩) fun v s1 q => ?_
  · obtain ⟨p, e, q⟩ := h1.of
    exact ⟨m1, S1, x, p, s1, rv, e, q m1 H1 s1.refl s1⟩
  · obtain ⟨w, H1, I1, r1, m1, S1, x, p, s1', rv, e, q⟩ := q
    cases x with
    | tup xs =>
      rw [Rp] at rv
      obtain ⟨a, vs, rfl, hq, rr⟩ := rv
      cases r1
      simp only [seqI, Option.some.injEq] at e
      subst e
      obtain ⟨its, rv, p, hz⟩ := I1.tuple hq.1
      exact wpAny_pyIter_tuple (show s1.heap.IsTuple a its.toArray from p) (pi_one (tk := s1.toks) I1 _ (turn_tuple a _) ⟨_, Heap.get?_push_size _ rfl, rfl, rfl⟩ (q _ (it_tup hq.1 rr)))
    | lst xs =>
      rw [Rp] at rv
      obtain ⟨a, vs, rfl, hq, nm, nf, rr⟩ := rv
      cases r1
      simp only [seqI, Option.some.injEq] at e
      subst e
      obtain ⟨its, rv, p, hz⟩ := I1.list (SqL.of hq)
      exact wpAny_pyIter_list p.isList (pi_one (tk := s1.toks) I1 _ (turn_list a _) ⟨_, Heap.get?_push_size _ rfl, rfl, rfl⟩ (q _ (it_list rr fun m2 F2 H2 S2 g s r hp => ⟨vs, SqL.of (g.keep a _ hq (.inl nm)), r⟩)))
    | fro ns =>
      rw [Rp] at rv
      obtain ⟨a, rfl, hq⟩ := rv
      cases r1
      simp only [seqI, Option.some.injEq] at e
      subst e
      obtain ⟨its, rv, p, hz⟩ := I1.list hq.sq
      exact wpAny_pyIter_list p.isList (pi_one (tk := s1.toks) I1 _ (turn_list a _) ⟨_, Heap.get?_push_size _ rfl, rfl, rfl⟩ (q _ (it_list (rps_ints ns) fun m2 F2 H2 S2 g s r hp => ⟨_, (g.fro a _ hq).sq, r⟩)))
    | ref n =>
      rw [Rp] at rv
      obtain ⟨a, e1, rfl⟩ := rv
      cases r1
      simp only [seqI] at e
      cases z : S1[n]? with
      | none => rw [z] at e; cases e
      | some o =>
        rw [z] at e
        cases o with
        | lst xs =>
          cases e
          obtain ⟨vs, e2, rr⟩ := s1'.obj n a _ e1 z
          obtain ⟨its, rv, p, hz⟩ := I1.list (SqL.of e2)
          refine wpAny_pyIter_list p.isList (pi_one (tk := s1.toks) I1 _ (turn_list a _) ⟨_, Heap.get?_push_size _ rfl, rfl, rfl⟩ (q _ (it_list (L := []) (us := []) .nil fun m2 F2 H2 S2 g s r hp => ?_)))
          obtain ⟨vs2, e3, rr2⟩ := s.obj n a _ (g.at e1) (of_decide_eq_true hp)
          exact ⟨vs2, SqL.of e3, rr2⟩
        | dic _ => cases e
        | dks _ _ => cases e
    | str z =>
      rw [Rp] at rv
      subst rv
      obtain ⟨t, rfl⟩ := r1
      simp only [seqI, Option.some.injEq] at e
      subst e
      have ok : ItOk X.K m1 F H1 (z.cps.toList.map fun c => .str ⟨#[c]⟩, fun _ => true) (Its z) := by
        refine it_fun (fun i => .str ⟨#[z.cps.toList.getD i 0]⟩) z.cps.size (by simp) (fun i d hd => ?_) (fun i H2 hi => ⟨hi, fun x H3 hy => ?_⟩) fun i H2 hi => hi
        · rw [List.getElem?_map] at hd
          cases k : z.cps.toList[i]? with
          | none => rw [k] at hd; cases hd
          | some cc => rw [k] at hd; cases hd; simp [List.getD, k]
        · obtain ⟨rfl, cc, e1, rfl⟩ := hy
          refine ⟨rfl, fun m2 F2 => ?_⟩
          have : z.cps.toList.getD i 0 = cc := by
            have : z.cps.toList[i]? = some cc := by rw [Array.getElem?_toList]; exact e1
            simp [List.getD, this]
          rw [this, Rp]
      cases hz : z.cps.all (· < 128)
      · exact wpAny_pyIter_wide hz (pi_one (tk := s1.toks) I1 _ (turn_str _ z t "str_iterator" (.inr rfl)) ⟨_, Heap.get?_push_size _ rfl, rfl, rfl⟩ (q _ ok))
      · exact wpAny_pyIter_ascii hz (pi_one (tk := s1.toks) I1 _ (turn_str _ z t "str_ascii_iterator" (.inl rfl)) ⟨_, Heap.get?_push_size _ rfl, rfl, rfl⟩ (q _ ok))
    | _ => cases e
theorem inRng_iff {i : Int} : inRng i = true ↔ -(2 ^ 62) ≤ i ∧ i < 2 ^ 62 := by unfold inRng; simp
theorem it_range {K : PySem.W.Frag} {m : List Addr} {F : Addr → Prop} {H : Hp} (lo : Int) (n : Nat) : ItOk K m F H (rangeL lo n, fun _ => true) (Itr lo n) := by
  refine it_fun (fun i => .int (lo + (i : Int))) n (by simp [rangeL]) (fun i d hd => ?_) (fun i H2 hi => ⟨hi, fun x H3 hy => ?_⟩) fun i H2 hi => hi
  · unfold rangeL at hd
    rw [List.getElem?_map] at hd
    cases k : (List.range n)[i]? with
    | none => rw [k] at hd; cases hd
    | some j =>
      rw [k] at hd; cases hd
      have := (List.getElem?_eq_some_iff.mp k).2
      simp at this
      subst this; rfl
  · obtain ⟨rfl, rfl⟩ := hy
    exact ⟨rfl, fun m2 F2 => by rw [Rp]⟩
def lenEs : CEs → Nat
  | .nil => 0
  | .cons _ r => lenEs r + 1
theorem evalEs_len : ∀ {as : CEs} {ρ : Env} {S : Store} {xs : List D} {S1 : Store}, evalEs c as ρ S = .ok (xs, S1) → xs.length = lenEs as
  | .nil, ρ, S, xs, S1, h => by rw [evalEs] at h; cases h; rfl
  | .cons a as, ρ, S, xs, S1, h => by
    rw [evalEs] at h
    cases z : evalE c a ρ S with
    | bad => rw [z] at h; cases h
    | ex e r S' => rw [z] at h; cases h
    | ok q =>
      obtain ⟨x, S2⟩ := q
      rw [z] at h
      have h : ((evalEs c as ρ S2).bd fun xs S2 => .ok (x :: xs, S2)) = .ok (xs, S1) := h
      cases z2 : evalEs c as ρ S2 with
      | bad => rw [z2] at h; cases h
      | ex e r S' => rw [z2] at h; cases h
      | ok q =>
        obtain ⟨ys, S3⟩ := q
        rw [z2] at h
        cases h
        simp [lenEs, evalEs_len z2]
theorem Fin.lenEs {K : PySem.W.Frag} {mg : Str → Option Value} {m : List Addr} {F : Addr → Prop} {H : Hp} {as : CEs} {ρ : Env} {S : Store} {P : List D → Store → List Addr → Hp → Prop} (h : Fin K mg m F H W (evalEs c as ρ S) P) : Fin K mg m F H W (evalEs c as ρ S) fun xs S m H => xs.length = Rf.lenEs as ∧ P xs S m H := by
  cases z : evalEs c as ρ S with
  | bad => rw [z] at h; exact h
  | ex e ρ' S' => rw [z] at h; exact h
  | ok q => obtain ⟨xs, S1⟩ := q; rw [z] at h; exact fun m' H' g s => ⟨evalEs_len z, h m' H' g s⟩
theorem I_rng_rd {as : CEs} {σ : L2.St} {H : Hp} {R : It → Hp → Prop} (h : tI X.K X.mg c W (.range as) σ H R) : tA X.K X.mg c W as σ H fun vs H1 => ∃ m1 S1 xs l F, Sm X.K m1 F S1 H1 ∧ Rps X.K m1 F H1 xs vs ∧ xs.length = lenEs as ∧ rangeI xs = some l ∧ ∀ J, (∀ m F H, ItOk X.K m F H (l, fun _ => true) J) → R J H1 := by
  obtain ⟨m, F, S, ρ, s, r, h⟩ := h
  rw [evalI] at h
  refine ⟨m, F, S, ρ, s, r, h.bd.lenEs.imp fun xs S1 m1 H1 g1 s1 h1 vs rv => ?_⟩
  obtain ⟨hl, h1⟩ := h1
  obtain ⟨p, e, q⟩ := h1.of
  cases z : rangeI xs with
  | none => rw [z] at e; cases e
  | some l =>
    rw [z] at e; cases e
    exact ⟨m1, S1, xs, l, F, s1, rv, hl, z, fun J hJ => q m1 H1 s1.refl s1 J (hJ m1 F H1)⟩
theorem tA_imp {as : CEs} {σ : L2.St} {H : Hp} {Q Q' : List V → Hp → Prop} (h : tA X.K X.mg c W as σ H Q) (k : ∀ vs H1, Q vs H1 → Q' vs H1) : tA X.K X.mg c W as σ H Q' := by
  obtain ⟨m, F, S, ρ, s, r, h⟩ := h
  exact ⟨m, F, S, ρ, s, r, h.imp fun xs S1 m1 H1 g1 s1 h1 vs rv => k _ _ (h1 vs rv)⟩
theorem rangeI_of {xs : List D} {l : List D} (e : rangeI xs = some l) : (∃ j, xs = [.int j] ∧ inRng j = true ∧ l = rangeL 0 j.toNat) ∨ (∃ i j, xs = [.int i, .int j] ∧ (inRng i = true ∧ inRng j = true) ∧ l = rangeL i (j - i).toNat) ∨
    (∃ i j, xs = [.int i, .int j, .int (-1)] ∧ (inRng i = true ∧ inRng j = true) ∧ l = (List.range (i - j).toNat).map fun (k : Nat) => .int (i - (k : Int))) ∨
    ∃ i j k, xs = [.int i, .int j, .int k] ∧ (inRng i = true ∧ inRng j = true) ∧ (0 < k ∧ k < 1000) ∧ l = (List.range (stepN i j k)).map fun (n : Nat) => .int (i + (n : Int) * k) := by
  unfold rangeI at e
  split at e
  · split at e
    · rename_i h; cases e; exact .inl ⟨_, rfl, h, rfl⟩
    · cases e
  · split at e
    · rename_i h; cases e; exact .inr (.inl ⟨_, _, rfl, by simpa using h, rfl⟩)
    · cases e
  · split at e
    · rename_i h; cases e
      have h' := h
      simp only [Bool.and_eq_true, decide_eq_true_eq] at h'
      obtain ⟨⟨h1, h2⟩, rfl⟩ := h'
      exact .inr (.inr (.inl ⟨_, _, rfl, ⟨h1, h2⟩, rfl⟩))
    · split at e
      · rename_i h; cases e
        have h' := h
        simp only [Bool.and_eq_true, decide_eq_true_eq] at h'
        obtain ⟨⟨⟨h1, h2⟩, h3⟩, h4⟩ := h'
        exact .inr (.inr (.inr ⟨_, _, _, rfl, ⟨h1, h2⟩, ⟨h3, h4⟩, rfl⟩))
      · cases e
  · cases e
theorem I_range1 {as : CEs} {e1 tg : Expr} {p pos : Pos} (hl : lenEs as = 1) (hg : Gl X "range") (hm : X.mg "range" = none) (hp : plainE e1 = true) (ha : PA X [e1] (tA X.K X.mg c W as)) : PI X tg (.Call (.Name "range" p) [e1] [] pos) (tI X.K X.mg c W (.range as)) :=
  PI_imp (pi_range1 hg hm ha (star_plain hp)) fun σ H R h => by
    refine tA_imp (I_rng_rd h) fun vs H1 ⟨m1, S1, xs, l, F, s1, rr, len, e, q⟩ => ?_
    rw [hl] at len
    rcases rangeI_of e with ⟨j, rfl, hj, rfl⟩ | ⟨i, j, rfl, _⟩ | ⟨i, j, rfl, _⟩ | ⟨i, j, _, rfl, _⟩
    · obtain ⟨v, rfl, rv⟩ := rr.one
      rw [Rp] at rv; subst rv
      obtain ⟨h1, h2⟩ := inRng_iff.mp hj
      exact ⟨j, rfl, h1, h2, q _ fun m F H => it_range 0 _⟩
    · simp at len
    · simp at len
    · simp at len
theorem I_range2 {as : CEs} {e1 e2 tg : Expr} {p pos : Pos} (hl : lenEs as = 2) (hg : Gl X "range") (hm : X.mg "range" = none) (hp : plainE e1 = true) (hp2 : plainE e2 = true) (ha : PA X [e1, e2] (tA X.K X.mg c W as)) : PI X tg (.Call (.Name "range" p) [e1, e2] [] pos) (tI X.K X.mg c W (.range as)) :=
  PI_imp (pi_range2 hg hm ha (by rw [star_plain hp, star_plain hp2]; rfl) (star_plain hp2)) fun σ H R h => by
    refine tA_imp (I_rng_rd h) fun vs H1 ⟨m1, S1, xs, l, F, s1, rr, len, e, q⟩ => ?_
    rw [hl] at len
    rcases rangeI_of e with ⟨j, rfl, hj, rfl⟩ | ⟨i, j, rfl, ⟨hi, hj⟩, rfl⟩ | ⟨i, j, rfl, _⟩ | ⟨i, j, _, rfl, _⟩
    · simp at len
    · obtain ⟨v, u, rfl, rv, ru⟩ := rr.two
      rw [Rp] at rv; subst rv
      rw [Rp] at ru; subst ru
      obtain ⟨h1, h2⟩ := inRng_iff.mp hi
      obtain ⟨h3, h4⟩ := inRng_iff.mp hj
      exact ⟨i, j, rfl, ⟨h1, h2, h3, h4⟩, q _ fun m F H => it_range i _⟩
    · simp at len
    · simp at len
theorem it_down {K : PySem.W.Frag} {m : List Addr} {F : Addr → Prop} {H : Hp} (lo : Int) (n : Nat) : ItOk K m F H ((List.range n).map fun (k : Nat) => .int (lo - (k : Int)), fun _ => true) (Itc lo (-1) n) := by
  refine it_fun (fun i => .int (lo - (i : Int))) n (by simp) (fun i d hd => ?_) (fun i H2 hi => ⟨hi, fun x H3 hy => ?_⟩) fun i H2 hi => hi
  · rw [List.getElem?_map] at hd
    cases k : (List.range n)[i]? with
    | none => rw [k] at hd; cases hd
    | some j =>
      rw [k] at hd; cases hd
      have := (List.getElem?_eq_some_iff.mp k).2
      simp at this
      subst this; rfl
  · obtain ⟨rfl, rfl⟩ := hy
    refine ⟨rfl, fun m2 F2 => ?_⟩
    rw [Rp]
    congr 1
    omega
theorem it_step {K : PySem.W.Frag} {m : List Addr} {F : Addr → Prop} {H : Hp} (lo k : Int) (n : Nat) : ItOk K m F H ((List.range n).map fun (j : Nat) => .int (lo + (j : Int) * k), fun _ => true) (Itc lo k n) := by
  refine it_fun (fun i => .int (lo + (i : Int) * k)) n (by simp) (fun i d hd => ?_) (fun i H2 hi => ⟨hi, fun x H3 hy => ?_⟩) fun i H2 hi => hi
  · rw [List.getElem?_map] at hd
    cases k : (List.range n)[i]? with
    | none => rw [k] at hd; cases hd
    | some j =>
      rw [k] at hd; cases hd
      have := (List.getElem?_eq_some_iff.mp k).2
      simp at this
      subst this; rfl
  · obtain ⟨rfl, rfl⟩ := hy
    refine ⟨rfl, fun m2 F2 => ?_⟩
    rw [Rp]
theorem I_range3 {as : CEs} {e1 e2 e3 tg : Expr} {p pos : Pos} (hl : lenEs as = 3) (hg : Gl X "range") (hm : X.mg "range" = none) (hp : plainE e1 = true) (hp2 : plainEs [e2, e3] = true) (ha : PA X [e1, e2, e3] (tA X.K X.mg c W as)) : PI X tg (.Call (.Name "range" p) [e1, e2, e3] [] pos) (tI X.K X.mg c W (.range as)) :=
  PI_imp (pi_range3 hg hm ha (star_plain hp) (star_any hp2)) fun σ H R h => by
    refine tA_imp (I_rng_rd h) fun vs H1 ⟨m1, S1, xs, l, F, s1, rr, len, e, q⟩ => ?_
    rw [hl] at len
    rcases rangeI_of e with ⟨j, rfl, hj, rfl⟩ | ⟨i, j, rfl, _⟩ | ⟨i, j, rfl, ⟨hi, hj⟩, rfl⟩ | ⟨i, j, k, rfl, ⟨hi, hj⟩, ⟨hk, hk2⟩, rfl⟩
    · simp at len
    · simp at len
    · obtain ⟨v, r1, rfl, rv, rr⟩ := rr.uncons
      obtain ⟨u, w, rfl, ru, rw1⟩ := rr.two
      rw [Rp] at rv; subst rv
      rw [Rp] at ru; subst ru
      rw [Rp] at rw1; subst rw1
      obtain ⟨h1, h2⟩ := inRng_iff.mp hi
      obtain ⟨h3, h4⟩ := inRng_iff.mp hj
      refine ⟨i, j, -1, (i - j).toNat, rfl, ⟨by decide, by decide, ?_, ?_⟩, q _ fun m F H => it_down i _⟩
      · have e2 : Builtin.Range.rangeSize i j (-1) = if i > j then i - j else 0 := by
          have e1 : (i - j - 1) / - -1 = i - j - 1 := by simp
          unfold Builtin.Range.rangeSize
          rw [if_neg (by decide), e1]
          split <;> omega
        unfold Builtin.Range.small
        rw [e2]
        simp only [Builtin.Range.rangeFitsLong]
        split
        · simp; omega
        · simp; omega
      · have e1 : (i - j - 1) / - -1 = i - j - 1 := by simp
        unfold Builtin.Range.rangeSize
        rw [if_neg (by decide), e1]
        split <;> omega
    · obtain ⟨v, r1, rfl, rv, rr⟩ := rr.uncons
      obtain ⟨u, w, rfl, ru, rw1⟩ := rr.two
      rw [Rp] at rv; subst rv
      rw [Rp] at ru; subst ru
      rw [Rp] at rw1; subst rw1
      obtain ⟨h1, h2⟩ := inRng_iff.mp hi
      obtain ⟨h3, h4⟩ := inRng_iff.mp hj
      have e2 : Builtin.Range.rangeSize i j k = ((stepN i j k : Nat) : Int) := by
        unfold Builtin.Range.rangeSize stepN
        rw [if_pos hk]
        split
        · have := Int.ediv_nonneg (a := j - i - 1) (b := k) (by omega) (by omega)
          omega
        · rfl
      refine ⟨i, j, k, stepN i j k, rfl, ⟨by omega, by omega, ?_, e2⟩, q _ fun m F H => it_step i k _⟩
      have e3 : (stepN i j k : Int) ≤ 2 ^ 63 - 1 := by
        unfold stepN
        split
        · have := Int.ediv_le_self (a := j - i - 1) k (by omega)
          have := Int.ediv_nonneg (a := j - i - 1) (b := k) (by omega) (by omega)
          omega
        · decide
      unfold Builtin.Range.small
      rw [e2]
      simp only [Builtin.Range.rangeFitsLong]
      rw [if_pos hk]
      simp
      omega
theorem it_zip {K : PySem.W.Frag} {m : List Addr} {F : Addr → Prop} {H : Hp} {xs ys : List D} {vs us : List V} {a b : Addr} (rx : Rps K m F H xs vs) (ry : Rps K m F H ys us) (np : ys.any D.pairS = false) {Sq : Hp → Addr → List V → Prop}
    {J : It} (hgo : ∀ i H2 x y, Sq H2 a vs → Sq H2 b us → vs[i]? = some x → us[i]? = some y → J.go i H2) (hy : ∀ i H2 v H3, J.yld i H2 v H3 → ∃ T x y, v = .ref T ∧ H2 T = none ∧ H3 = upd H2 T (.tup [x, y]) ∧ (∀ xs, Sq H2 a xs → xs[i]? = some x) ∧ ∀ ys, Sq H2 b ys → ys[i]? = some y)
    (hst : ∀ i H2, Sq H2 a vs → Sq H2 b us → (vs.length ≤ i ∨ us.length ≤ i) → J.stop i H2) (k : ∀ m2 H2, Grow m H m2 H2 → Sq H2 a vs ∧ Sq H2 b us) : ItOk K m F H ((xs.zip ys).map fun p => .tup [p.1, p.2], fun _ => true) J := by
  refine ⟨xs ++ ys, vs ++ us, rx.app ry, fun m2 F2 H2 S2 g s r hp i => ?_⟩
  obtain ⟨q1, q2⟩ := k m2 H2 g
  have r1 : Rps K m2 F2 H2 xs vs := by
    have := r.take xs.length
    rwa [List.take_left, rx.len, List.take_left] at this
  have r2 : Rps K m2 F2 H2 ys us := by
    have := r.drop xs.length
    rwa [List.drop_left, rx.len, List.drop_left] at this
  refine ⟨fun d hd => ?_, fun hl => hst i H2 q1 q2 (by rw [← rx.len, ← ry.len]; simp at hl; omega)⟩
  rw [List.getElem?_map] at hd
  cases z : (xs.zip ys)[i]? with
  | none => rw [z] at hd; cases hd
  | some p =>
    rw [z] at hd; cases hd
    obtain ⟨x, y⟩ := p
    obtain ⟨e1, e2⟩ := List.getElem?_zip_eq_some.mp z
    obtain ⟨v, e3, rv⟩ := r1.get e1
    obtain ⟨u, e4, ru⟩ := r2.get e2
    refine ⟨hgo i H2 v u q1 q2 e3 e4, fun w H3 hw => ?_⟩
    obtain ⟨T, x', y', rfl, nT, rfl, h1, h2⟩ := hy i H2 w H3 hw
    have e5 := h1 vs q1
    have e6 := h2 us q2
    rw [e3] at e5; cases e5
    rw [e4] at e6; cases e6
    have gg : Grow m2 H2 m2 (upd H2 T (.tup [v, u])) := Grow.new s nT
    refine ⟨gg, s.new nT, ?_, fun a o q => by rw [upd_ne (ne_of_none q nT)]; exact q⟩
    rw [Rp]
    exact ⟨T, [v, u], rfl, ⟨SqT.of upd_same, fun en => by
      have h0 : D.pairS y = false := by
        have := List.any_eq_false.mp np y (List.mem_of_getElem? e2)
        simpa using this
      simp [D.need, h0] at en⟩, .cons (rv.mono gg) (.cons (ru.mono gg) .nil)⟩
theorem I_zip {a b : CE} {e1 e2 : Expr} {p pos tpos : Pos} {elts : List Expr} {kk : Nat} (hg : Gl X "zip") (hm : X.mg "zip" = none) (hp : plainE e1 = true) (hp2 : plainEs [e2] = true) (ha : PA X [e1, e2] (tA X.K X.mg c W (.cons a (.cons b .nil)))) :
    PI X (.Tuple elts kk tpos) (.Call (.Name "zip" p) [e1, e2] [] pos) (tI X.K X.mg c W (.zip a b)) :=
  PI_imp (RZ.pi_zipA hg hm ha (star_plain hp) (star_any hp2)) fun σ H R ⟨m, F, S, ρ, s, r, h⟩ => by
    refine ⟨m, F, S, ρ, s, r, ?_⟩
    rw [evalI] at h
    rw [evalEs]
    have h0 : Fin X.K X.mg m F H W ((evalE c a ρ S).bd fun x S1 => (evalEs c (.cons b .nil) ρ S1).bd fun xs S2 => .ok (x :: xs, S2)) fun xs S2 m2 H2 => ∃ x y, xs = [x, y] ∧ ∃ l, zipL x y = some l ∧ ∀ J, ItOk X.K m2 F H2 (l, fun _ => true) J → R J H2 := by
      cases z : evalE c a ρ S with
      | bad => rw [z] at h; exact h.elim
      | ex e ρ' S' => rw [z] at h; exact h
      | ok q =>
        obtain ⟨x, S1⟩ := q
        rw [z] at h
        have h : Fin X.K X.mg m F H W ((evalE c b ρ S1).bd fun y S2 => .of ((zipL x y).map fun l => (l, fun _ => true)) S2) fun p _ m' H' => ∀ J, ItOk X.K m' F H' p J → R J H' := h
        show Fin X.K X.mg m F H W ((evalEs c (.cons b .nil) ρ S1).bd fun xs S2 => .ok (x :: xs, S2)) _
        rw [evalEs]
        cases z2 : evalE c b ρ S1 with
        | bad => rw [z2] at h; exact h.elim
        | ex e ρ' S' => rw [z2] at h; exact h
        | ok q =>
          obtain ⟨y, S2⟩ := q
          rw [z2] at h
          have h : Fin X.K X.mg m F H W (.of ((zipL x y).map fun l => (l, fun _ => true)) S2) fun p _ m' H' => ∀ J, ItOk X.K m' F H' p J → R J H' := h
          show ∀ m' H', Grow m H m' H' → Sm X.K m' F S2 H' → _
          intro m' H' g s'
          obtain ⟨p, e, q⟩ := h.of
          cases z3 : zipL x y with
          | none => rw [z3] at e; cases e
          | some l =>
            rw [z3] at e; cases e
            exact ⟨x, y, rfl, l, z3, q m' H' g s'⟩
    refine h0.imp fun xs S2 m2 H2 g2 s2 h2 vs rv => ?_
    obtain ⟨x, y, rfl, l, e, q⟩ := h2
    obtain ⟨v, u, rfl, rv1, ru⟩ := rv.two
    clear rv
    have rv := rv1
    clear rv1
    cases x with
    | lst xs =>
      cases y with
      | lst ys =>
        simp only [zipL] at e
        split at e
        · cases e
        rename_i nz
        have nz : ys.any D.pairS = false := by simpa using nz
        cases e
        rw [Rp] at rv
        rw [Rp] at ru
        obtain ⟨a1, vs, rfl, hv, nv, fv, rr⟩ := rv
        obtain ⟨b1, us, rfl, hu, nu, fu, rr2⟩ := ru
        refine ⟨a1, b1, vs, us, rfl, .inl ⟨SqL.of hv, SqL.of hu, q _ ?_⟩⟩
        refine it_zip (Sq := fun H a xs => SqL X.K H a xs) rr rr2 nz (fun i H2 x y q1 q2 h1 h2 => ⟨vs, us, x, y, q1, q2, h1, h2⟩) (fun i H2 v H3 h => h) (fun i H2 q1 q2 h => ⟨vs, us, q1, q2, h⟩) fun m2 H2 g => ⟨SqL.of (g.keep _ _ hv (.inl nv)), SqL.of (g.keep _ _ hu (.inl nu))⟩
      | _ => cases e
    | tup xs =>
      cases y with
      | tup ys =>
        simp only [zipL] at e
        split at e
        · cases e
        rename_i nz
        have nz : ys.any D.pairS = false := by simpa using nz
        cases e
        rw [Rp] at rv
        rw [Rp] at ru
        obtain ⟨a1, vs, rfl, hv, rr⟩ := rv
        obtain ⟨b1, us, rfl, hu, rr2⟩ := ru
        refine ⟨a1, b1, vs, us, rfl, .inr ⟨hv.1, hu.1, q _ ?_⟩⟩
        refine it_zip (Sq := fun H a xs => SqT X.K H a xs) rr rr2 nz (fun i H2 x y q1 q2 h1 h2 => ⟨vs, us, x, y, q1, q2, h1, h2⟩) (fun i H2 v H3 h => h) (fun i H2 q1 q2 h => ⟨vs, us, q1, q2, h⟩) fun m2 H2 g => ⟨g.tup _ _ hv.1, g.tup _ _ hu.1⟩
      | _ => cases e
    | _ => cases e
theorem one_rd {a : CE} {σ : L2.St} {H : Hp} {β : Type} {f : D → Store → Res (β × Store)} {P : β → Store → List Addr → Hp → Prop} {m : List Addr} {F : Addr → Prop} {S : Store} {ρ : Env} (s : Sm X.K m F S H) (r : RpE X.K m F H ρ σ) (h : Fin X.K X.mg m F H W ((evalE c a ρ S).bd f) P)
    {Q : List V → Hp → Prop} (k : ∀ x v S1 m1 H1, Sm X.K m1 F S1 H1 → Rp X.K m1 F H1 x v → Fin X.K X.mg m1 F H1 W (f x S1) P → Q [v] H1) : tA X.K X.mg c W (.cons a .nil) σ H Q := by
  refine ⟨m, F, S, ρ, s, r, ?_⟩
  rw [evalEs]
  cases z : evalE c a ρ S with
  | bad => rw [z] at h; exact h.elim
  | ex e ρ' S' => rw [z] at h; exact h
  | ok q =>
    obtain ⟨x, S1⟩ := q
    rw [z] at h
    show ∀ m' H', Grow m H m' H' → Sm X.K m' F S1 H' → _
    intro m' H' g s' vs rr
    obtain ⟨v, rfl, rv⟩ := rr.one
    exact k x v S1 m' H' s' rv (Fin.grow (r := f x S1) h g)
theorem I_enum {a : CE} {e1 : Expr} {p pos tpos : Pos} {elts : List Expr} {kk : Nat} (hg : Gl X "enumerate") (hm : X.mg "enumerate" = none) (hp : plainE e1 = true) (ha : PA X [e1] (tA X.K X.mg c W (.cons a .nil))) :
    PI X (.Tuple elts kk tpos) (.Call (.Name "enumerate" p) [e1] [] pos) (tI X.K X.mg c W (.enum a)) :=
  PI_imp (pi_enum hg hm ha (star_plain hp)) fun σ H R ⟨m, F, S, ρ, s, r, h⟩ => by
    rw [evalI] at h
    refine one_rd s r h fun x v S1 m1 H1 s1 rv h1 => ?_
    obtain ⟨p, e, q⟩ := h1.of
    cases x with
    | lst xs =>
      simp only [enumL, Option.map_some, Option.some.injEq] at e
      subst e
      rw [Rp] at rv
      obtain ⟨a1, vs, rfl, hv, nv, fv, rr⟩ := rv
      refine ⟨a1, vs, rfl, SqL.of hv, q m1 H1 s1.refl s1 _ ?_⟩
      refine ⟨xs, vs, rr, fun m2 F2 H2 S2 g s r hp i => ?_⟩
      have hq : SqL X.K H2 a1 vs := SqL.of (g.keep _ _ hv (.inl nv))
      refine ⟨fun d hd => ?_, fun hl => ⟨vs, hq, by rw [← rr.len]; simpa using hl⟩⟩
      rw [List.getElem?_map] at hd
      cases z : ((List.range xs.length).zip xs)[i]? with
      | none => rw [z] at hd; cases hd
      | some p =>
        rw [z] at hd; cases hd
        obtain ⟨j, x⟩ := p
        obtain ⟨e1, e2⟩ := List.getElem?_zip_eq_some.mp z
        obtain ⟨u, e3, ru⟩ := r.get e2
        have ej : j = i := by
          have := (List.getElem?_eq_some_iff.mp e1).2
          simpa using this.symm
        subst ej
        refine ⟨⟨vs, u, hq, e3⟩, fun w H3 hw => ?_⟩
        obtain ⟨T, x', rfl, nT, rfl, h2⟩ := hw
        have e5 := h2 vs hq
        rw [e3] at e5; cases e5
        have gg : Grow m2 H2 m2 (upd H2 T (.tup [.int (j : Nat), u])) := Grow.new s nT
        refine ⟨gg, s.new nT, ?_, fun a o q => by rw [upd_ne (ne_of_none q nT)]; exact q⟩
        rw [Rp]
        exact ⟨T, [.int (j : Nat), u], rfl, ⟨SqT.of upd_same, fun en => by cases en⟩, .cons (by rw [Rp]) (.cons (ru.mono gg) .nil)⟩
    | _ => cases e
theorem I_rev {a : CE} {e1 tg : Expr} {p pos : Pos} (hg : Gl X "reversed") (hm : X.mg "reversed" = none) (hp : plainE e1 = true) (ha : PA X [e1] (tA X.K X.mg c W (.cons a .nil))) :
    PI X tg (.Call (.Name "reversed" p) [e1] [] pos) (tI X.K X.mg c W (.rev a)) :=
  PI_imp (pi_reversed hg hm ha (star_plain hp)) fun σ H R ⟨m, F, S, ρ, s, r, h⟩ => by
    rw [evalI] at h
    refine one_rd s r h fun x v S1 m1 H1 s1 rv h1 => ?_
    obtain ⟨p, e, q⟩ := h1.of
    cases x with
    | lst xs =>
      simp only [revI, Option.map_some, Option.some.injEq] at e
      subst e
      rw [Rp] at rv
      obtain ⟨a1, vs, rfl, hv, nv, fv, rr⟩ := rv
      refine ⟨a1, vs, rfl, SqL.of hv, q m1 H1 s1.refl s1 _ ?_⟩
      refine ⟨xs, vs, rr, fun m2 F2 H2 S2 g s r hp i => ?_⟩
      have hq : SqL X.K H2 a1 vs := SqL.of (g.keep _ _ hv (.inl nv))
      refine ⟨fun d hd => ?_, fun hl => ?_⟩
      · have hi : i < xs.length := by simpa using (List.getElem?_eq_some_iff.mp hd).1
        rw [List.getElem?_reverse hi] at hd
        obtain ⟨u, e3, ru⟩ := r.get hd
        rw [rr.len] at e3
        refine ⟨⟨by rw [← rr.len]; exact hi, vs, u, hq, e3⟩, fun w H3 hw => ?_⟩
        obtain ⟨rfl, h2⟩ := hw
        have e5 := h2 vs hq
        rw [e3] at e5; cases e5
        exact ⟨s.refl, s, ru, fun _ _ q => q⟩
      · show vs.length ≤ i
        rw [← rr.len]; simpa using hl
    | _ => cases e
end
end Rf


namespace Rf
open PySem PySem.Spec PyProof.Rows L2

def noW : WX := fun _ _ _ _ => False
theorem bd_ok {α β : Type} {r : Res (α × Store)} {f : α → Store → Res β} {b : β} (h : r.bd f = .ok b) : ∃ a S, r = .ok (a, S) ∧ f a S = .ok b := by
  cases r with
  | ok p => obtain ⟨a, S⟩ := p; exact ⟨a, S, rfl, h⟩
  | ex e ρ S => cases h
  | bad => cases h
theorem FinL_nox {K : PySem.W.Frag} {mg : Str → Option Value} {m : List Addr} {F : Addr → Prop} {H : Hp} {W : WX} {α : Type} {r : Res (α × Store)} {f : α → Store → RDs} {Q : VK} (h : FinL K mg m F H W (r.nox.bd f) Q) :
    ∃ a S, r = .ok (a, S) ∧ FinL K mg m F H W (f a S) Q := by
  cases r with
  | ok p => obtain ⟨a, S⟩ := p; exact ⟨a, S, rfl, h⟩
  | ex e ρ S => exact h.elim
  | bad => exact h.elim
theorem fin_ok {K : PySem.W.Frag} {mg : Str → Option Value} {m : List Addr} {F : Addr → Prop} {H : Hp} {W : WX} {α : Type} {r : Res (α × Store)} {a : α} {S : Store} {P : α → Store → List Addr → Hp → Prop} (e : r = .ok (a, S)) (h : ∀ m' H', Grow m H m' H' → Sm K m' F S H' → P a S m' H') : Fin K mg m F H W r P := by
  rw [e]; exact h
section
variable {X : Cx} {c : Cfg} {W : WX}
def compF (c : Cfg) (tg : CT) (cond : CO) (elt : CE) (r : Env) : D → Store → Res (Option D × Store) := fun x S2 => match bindT tg x (wipeT tg r) with
  | some r' => (evalC c cond r' S2).bd fun k S3 => if k = true then (evalE c elt r' S3).bd fun d S4 => .ok (some d, S4) else .ok (none, S3)
  | none => .bad
theorem lc_rd {it : CI} {elt : CE} {cond : CO} {tg : CT} {σ : L2.St} {H : Hp} {Q : VK} (h : tL X.K X.mg c W (.comp tg it cond elt) σ H Q) :
    tLc (tI X.K X.mg c W it) (gT X.K tg) (tC X.K X.mg c noW cond) (tE X.K X.mg c noW elt) (slotsT tg) σ H Q := by
  obtain ⟨m, F, S, ρ, s, r, h⟩ := h
  rw [evalL] at h
  refine ⟨m, F, S, ρ, s, r, (FinL.bd h).imp fun p S1 m1 H1 g1 s1 h1 J hJ Dd nD => ?_⟩
  obtain ⟨L, us, rL, hJ⟩ := hJ
  split at h1
  case isFalse => exact h1.elim
  case isTrue hlen =>
  have h1 : FinL X.K X.mg m1 F H1 W (compL p.2 (compF c tg cond elt ρ) p.1 S1) Q := h1
  obtain ⟨gm, sm, km⟩ := s1.more (o := .lst []) nD
  have kms : ∀ (xs : List D) (vs : List V), Rps X.K m1 F H1 xs vs → Rps X.K m1 (fun a => F a ∨ a = Dd) (upd H1 Dd (.lst [])) xs vs := by
    intro xs
    induction xs with
    | nil => intro vs' r; rw [Rps.nil_iff.mp r]; exact .nil
    | cons x xs ih =>
      intro vs' r
      obtain ⟨v, r', rfl, a, b⟩ := r.uncons
      exact .cons (km x v a) (ih r' b)
  have nDm : Dd ∉ m1 := fun q => by obtain ⟨o, e⟩ := s1.tr Dd q; rw [nD] at e; cases e
  have nDF : ¬ F Dd := fun q => by obtain ⟨o, e⟩ := s1.fok Dd q; rw [nD] at e; cases e
  have re : RpE X.K m1 (fun a => F a ∨ a = Dd) (upd H1 Dd (.lst [])) ρ σ := ⟨r.1, fun i d e => by
    obtain ⟨v, e1, rv⟩ := (r.mono g1).2 i d e
    exact ⟨v, e1, km d v rv⟩⟩
  refine ⟨fun i k H => k + i = p.1.length ∧ ∃ m2 S2 acc vs, Grow m1 H1 m2 H ∧ Sm X.K m2 (fun a => F a ∨ a = Dd) S2 H ∧ Rps X.K m2 (fun a => F a ∨ a = Dd) H L us ∧ RpE X.K m2 (fun a => F a ∨ a = Dd) H ρ σ ∧ H Dd = some (.lst vs) ∧ Dd ∉ m2 ∧
    Rps X.K m2 (fun a => F a ∨ a = Dd) H acc vs ∧ acc.length ≤ i ∧ FinL X.K X.mg m1 F H1 W ((compL p.2 (compF c tg cond elt ρ) (p.1.drop i) S2).bd fun ys S' => .ok (acc ++ ys, S')) Q, ⟨p.1.length, by simp, m1, S1, [], [], gm, sm, kms _ _ rL, re, upd_same, nDm, .nil, by simp, ?_⟩, fun i k H3 hW => ?_⟩
  · rw [List.drop_zero]
    cases z : compL p.2 (compF c tg cond elt ρ) p.1 S1 with
    | bad => rw [z] at h1; exact h1
    | ex e ρ' S' => rw [z] at h1; exact h1
    | ok q => obtain ⟨ys, S'⟩ := q; rw [z] at h1; exact h1
  · obtain ⟨hk, m2, S2, acc, vs, g2, s2, rL2, re2, eD, nD2, racc, hacc, hF⟩ := hW
    have hJ2 := fun hp => hJ m2 _ H3 S2 g2 s2 rL2 hp i
    cases hd : p.1.drop i with
    | nil =>
      have hi : p.1.length ≤ i := by
        have := congrArg List.length hd
        simp at this; omega
      rw [hd] at hF
      have hF : FinL X.K X.mg m1 F H1 W ((if p.2 S2 = true then .ok ([], S2) else .bad : RDs).bd fun ys S' => .ok (acc ++ ys, S')) Q := hF
      split at hF
      · rename_i hp
        have hF : FinL X.K X.mg m1 F H1 W (.ok (acc ++ [], S2)) Q := hF
        rw [List.append_nil] at hF
        exact .inl ⟨(hJ2 hp).2 hi, hF m2 H3 Dd vs g2 s2 eD nD2 nDF racc (.inr nD)⟩
      · exact hF.elim
    | cons x xs =>
      have hx : p.1[i]? = some x := by
        have := congrArg (·[0]?) hd
        simpa using this
      have hdr : p.1.drop (i + 1) = xs := by
        have := congrArg List.tail hd
        simpa using this
      have hi : i < p.1.length := (List.getElem?_eq_some_iff.mp hx).1
      rw [hd] at hF
      have hF : FinL X.K X.mg m1 F H1 W ((if p.2 S2 = true then (compF c tg cond elt ρ x S2).nox.bd fun y S1 => (compL p.2 (compF c tg cond elt ρ) xs S1).bd fun ys S2 => .ok (conso y ys, S2) else .bad : RDs).bd fun ys S' => .ok (acc ++ ys, S')) Q := hF
      split at hF
      case isFalse => exact hF.elim
      case isTrue hp =>
      rw [bd_bd] at hF
      obtain ⟨y, S3, ef, hF⟩ := FinL_nox hF
      rw [bd_bd] at hF
      obtain ⟨hgo, hy⟩ := (hJ2 hp).1 x hx
      refine .inr ⟨hgo, fun H' => k - 1 + (i + 1) = p.1.length ∧ ∃ m2 S2 acc vs, Grow m1 H1 m2 H' ∧ Sm X.K m2 (fun a => F a ∨ a = Dd) S2 H' ∧ Rps X.K m2 (fun a => F a ∨ a = Dd) H' L us ∧ RpE X.K m2 (fun a => F a ∨ a = Dd) H' ρ σ ∧ H' Dd = some (.lst vs) ∧ Dd ∉ m2 ∧
        Rps X.K m2 (fun a => F a ∨ a = Dd) H' acc vs ∧ acc.length ≤ i + 1 ∧ FinL X.K X.mg m1 F H1 W ((compL p.2 (compF c tg cond elt ρ) (p.1.drop (i + 1)) S2).bd fun ys S' => .ok (acc ++ ys, S')) Q, fun H' hN => ⟨k - 1, by omega, hN⟩, fun v H4 hyl => ?_⟩
      obtain ⟨g4, s4, rx, kp⟩ := hy v H4 hyl
      unfold compF at ef
      cases hb : bindT tg x (wipeT tg ρ) with
      | none => rw [hb] at ef; cases ef
      | some ρ' =>
        rw [hb] at ef
        have ef : ((evalC c cond ρ' S2).bd fun k S3 => if k = true then (evalE c elt ρ' S3).bd fun d S4 => .ok (some d, S4) else .ok (none, S3)) = .ok (y, S3) := ef
        refine gT_ok rx ((re2.mono g4).wiped tg) hb fun σ2 e2 w2 => ⟨by rw [w2, wipe_wipe], ?_⟩
        obtain ⟨b, S5, ec, ef⟩ := bd_ok ef
        refine ⟨m2, _, S2, ρ', s4, e2, fin_ok ec fun m5 H5 g5 s5 => ?_⟩
        have gg : Grow m1 H1 m5 H5 := (g2.trans g4).trans g5
        have eD5 : H5 Dd = some (.lst vs) := g5.keep Dd _ (kp Dd _ eD) (.inl nD2)
        cases b with
        | false =>
          have ef : (.ok (none, S5) : Res (Option D × Store)) = .ok (y, S3) := ef
          cases ef
          refine ⟨by omega, m5, S3, acc, vs, gg, s5, (rL2.mono g4).mono g5, (re2.mono g4).mono g5, eD5, fun q => ?_, (racc.mono g4).mono g5, by omega, ?_⟩
          · exact (g4.trans g5).out eD nD2 q
          · rw [hdr]; exact hF
        | true =>
          have ef : ((evalE c elt ρ' S5).bd fun d S4 => .ok (some d, S4)) = .ok (y, S3) := ef
          obtain ⟨d, S6, ee, ef⟩ := bd_ok ef
          cases ef
          refine ⟨m5, _, S5, ρ', s5, e2.mono g5, fin_ok ee fun m6 H6 g6 s6 u ru => ?_⟩
          have n5 : Dd ∉ m5 := (g4.trans g5).out eD nD2
          have eD6 : H6 Dd = some (.lst vs) := g6.keep Dd _ eD5 (.inl n5)
          have n6 : Dd ∉ m6 := g6.out eD5 n5
          have gg6 : Grow m1 H1 m6 H6 := gg.trans g6
          have up := rp_inF (K := X.K) (m := m6) (F := fun a => F a ∨ a = Dd) (o := .lst (vs ++ [u])) eD6 (.inr rfl)
          have hvs : vs.length = acc.length := racc.len.symm
          refine ⟨vs, eD6, by omega, by omega, m6, S3, acc ++ [d], vs ++ [u], ⟨gg6.pre, fun a o e k => ?_, fun a ha => ?_⟩, s6.inF eD6 (.inr rfl), up.2 _ _ (((rL2.mono g4).mono g5).mono g6), ⟨re2.1, fun j dd e => ?_⟩, upd_same, n6,
            up.2 _ _ ((((racc.mono g4).mono g5).mono g6).app (.cons ru .nil)), by simp; omega, ?_⟩
          · rw [upd_ne (ne_of_none e nD)]; exact gg6.keep a o e k
          · have : a ≠ Dd := fun z => n6 (z ▸ ha)
            rw [upd_ne this]; exact gg6.tr a ha
          · obtain ⟨v', e1, rv'⟩ := (((re2.mono g4).mono g5).mono g6).2 j dd e
            exact ⟨v', e1, up.1 _ _ rv'⟩
          · rw [hdr]
            have e0 : ∀ ys : List D, acc ++ conso (some d) ys = acc ++ [d] ++ ys := fun ys => by simp [conso]
            cases z : compL p.2 (compF c tg cond elt ρ) xs S3 with
            | bad => rw [z] at hF; exact hF
            | ex e ρ' S' => rw [z] at hF; exact hF
            | ok q =>
              obtain ⟨ys, S'⟩ := q
              rw [z] at hF
              have hF : FinL X.K X.mg m1 F H1 W (.ok (acc ++ conso (some d) ys, S')) Q := hF
              rw [e0] at hF
              exact hF
end
end Rf


namespace Rf
open PySem PySem.Spec PyProof.Rows L2

def notComp : Expr → Bool
  | .ListComp _ _ _ _ | .SetComp _ _ _ _ | .DictComp _ _ _ _ _ => false
  | _ => true
def notTup : Expr → Bool
  | .Tuple _ _ _ => false
  | _ => true
def notSet : Expr → Bool
  | .Set _ _ _ => false
  | _ => true
theorem sw_not {e : Expr} {t : Option Expr} {l : Nat} {env : PySem.Env} (h : notComp e = true) : swapsWith e t l env = pure false := by
  cases e <;> first | rfl | cases h
theorem sw_tup {e : Expr} {es : List Expr} {k : Nat} {p : Pos} {l : Nat} {env : PySem.Env} : swapsWithSole [.Tuple es k p] e l env = pure false := by
  cases e <;> rfl
theorem sw_sub {e o i : Expr} {p : Pos} {l : Nat} {env : PySem.Env} : swapsWithSole [.Subscript o i p] e l env = pure false := by
  cases e <;> rfl
theorem st_tup {e : Expr} {es : List Expr} {k : Nat} {p : Pos} {env : PySem.Env} (h : notTup e = true) : swappedStores [.Tuple es k p] e env = pure none := by
  cases e <;> first | rfl | cases h
theorem st_sub {e o i : Expr} {p : Pos} {env : PySem.Env} : swappedStores [.Subscript o i p] e env = pure none := by
  cases e <;> rfl
theorem set_not {e : Expr} {env : PySem.Env} (h : notSet e = true) (x : Value) : foldedSetIterable e env x = pure x := by
  cases e <;> first | rfl | cases h
section
variable {X : Cx} {c : Cfg} {W : WX}
theorem S_asg {i : Nat} {x : Str} {e : Expr} {a : CE} {p pos : Pos} (hN : X.N.Nodup) (hi : X.N[i]? = some x) (hx : Loc X.env.scope x) (hf : X.fn x = true ∨ X.env.scope.names.lookup x = some .local) (hs : swapsWith e (some (.Name x p)) pos.line X.env = pure false) (he : PE X e (tE X.K X.mg c W a)) :
    PS X (.Assign [.Name x p] e pos) (tS X.K X.mg c W (.asg i a)) :=
  PS_imp (ps_set hN hi hx he hs hf) fun D σ H ⟨m, F, S, ρ, s, r, h⟩ => by
    rw [execS] at h
    exact ⟨m, F, S, ρ, s, r, h.bd.imp fun x S1 m1 H1 g1 s1 h1 v rv => h1.ok s1 _ ((r.mono g1).set rv)⟩
theorem S_asgLc {i : Nat} {y : Str} {py pos spos : Pos} {elt tg iter : Expr} {ifs : List Expr} {scope : Scope} {own : List (Str × Nat)} {it : CI} {ct : CT} {cond : CO} {ce : CE} {st : Bool} (hc : X.calm = true) (hN : X.N.Nodup) (hy : X.N[i]? = some y) (hyl : X.env.scope.names.lookup y = some .local)
    (hsw : swapsWith (.ListComp elt [⟨tg, iter, ifs, 0⟩] scope pos) (some (.Name y py)) spos.line X.env = pure true) (hi : PI X tg iter (tI X.K X.mg c W it)) (ok : BlkOk X.N X.env.scope scope own) (hown : own.map (·.2) = slotsT ct)
    (hg : ∀ (s : Shared) (H : Hp) (C : Addr) (cl : List (Str × Addr)) (fp : List Addr), PG (X.blk s H scope (compEnvC scope cl C X.env) fp) tg (gT X.K ct)) (ht : ∀ (s : Shared) (H : Hp) (C : Addr) (cl : List (Str × Addr)) (fp : List Addr), PTs (X.blk s H scope (compEnvC scope cl C X.env) fp) ifs (tC X.K X.mg c noW cond))
    (he : ∀ (s : Shared) (H : Hp) (C : Addr) (cl : List (Str × Addr)) (fp : List Addr), PE (X.blk s H scope (compEnvC scope cl C X.env) fp) elt (tE X.K X.mg c noW ce)) (hs : ∀ x, foldedSetIterable iter X.env x = pure x) :
    PS X (.Assign [.Name y py] (.ListComp elt [⟨tg, iter, ifs, 0⟩] scope pos) spos) (tS X.K X.mg c W (.asg i (.new st (.comp ct it cond ce)))) := by
  refine PS_imp (ps_setLc hc hN hy hyl hsw hi ok hg ht he hs) fun D σ H h => ?_
  rw [hown]
  show tLc _ _ _ _ _ σ H fun x H1 => gName i x σ H1 D.nx
  refine lc_rd (Q := fun x H1 => gName i x σ H1 D.nx) ?_
  obtain ⟨m, F, S, ρ, s, r, h⟩ := h
  rw [execS] at h
  refine ⟨m, F, S, ρ, s, r, ?_⟩
  have h := h.bd
  rw [evalE] at h
  cases z : evalL c (.comp ct it cond ce) ρ S with
  | bad => rw [z] at h; exact h
  | ex e ρ' S' => rw [z] at h; exact h
  | ok q =>
    obtain ⟨xs, S1⟩ := q
    rw [z] at h
    intro m1 H1 p vs g1 s1 e1 np nf rr o
    have rE : RpE X.K m1 F H1 ρ σ := r.mono g1
    cases st with
    | true =>
      have h : ∀ m' H', Grow m H m' H' → Sm X.K m' F (S1 ++ [.lst xs]) H' → Fin X.K X.mg m' F H' W (.ok ((.nx, ρ.set i (some (.ref S1.length))), S1 ++ [.lst xs])) (endP X.K F D) := h
      have s2 := s1.enter e1 np nf rr
      have g2 : Grow m H (m1 ++ [p]) H1 := by
        refine ⟨?_, g1.keep, fun a ha => ?_⟩
        · obtain ⟨l, e, k⟩ := g1.pre
          refine ⟨l ++ [p], by rw [e]; simp, fun a ha => ?_⟩
          rcases List.mem_append.mp ha with ha | ha
          · exact k a ha
          · have ha' : a = p := by simpa using ha
            subst ha'
            exact o.resolve_left fun z => np (g1.sub _ z)
        · rcases List.mem_append.mp ha with ha | ha
          · exact g1.tr a ha
          · have ha' : a = p := by simpa using ha
            subst ha'; exact ⟨_, e1⟩
      refine (h _ _ g2 s2).ok s2 _ ((r.mono g2).set ?_)
      rw [Rp]
      exact ⟨p, by rw [← s1.len]; simp, rfl⟩
    | false =>
      have h : ∀ m' H', Grow m H m' H' → Sm X.K m' F S1 H' → Fin X.K X.mg m' F H' W (.ok ((.nx, ρ.set i (some (.lst xs))), S1)) (endP X.K F D) := h
      have s2 : Sm X.K m1 F S1 H1 := s1.wider fun a q => .inl q
      refine (h _ _ g1 s2).ok s2 _ ((r.mono g1).set ?_)
      rw [Rp]
      exact ⟨p, vs, rfl, e1, np, nf, rr.wider fun a q => .inl q⟩
theorem L_comp {pos : Pos} {elt tg iter : Expr} {ifs : List Expr} {scope : Scope} {own : List (Str × Nat)} {it : CI} {ct : CT} {cond : CO} {ce : CE} (hc : X.calm = true) (hN : X.N.Nodup)
    (hi : PI X tg iter (tI X.K X.mg c W it)) (ok : BlkOk X.N X.env.scope scope own) (hown : own.map (·.2) = slotsT ct)
    (hg : ∀ (s : Shared) (H : Hp) (C : Addr) (cl : List (Str × Addr)) (fp : List Addr), PG (X.blk s H scope (compEnvC scope cl C X.env) fp) tg (gT X.K ct)) (ht : ∀ (s : Shared) (H : Hp) (C : Addr) (cl : List (Str × Addr)) (fp : List Addr), PTs (X.blk s H scope (compEnvC scope cl C X.env) fp) ifs (tC X.K X.mg c noW cond))
    (he : ∀ (s : Shared) (H : Hp) (C : Addr) (cl : List (Str × Addr)) (fp : List Addr), PE (X.blk s H scope (compEnvC scope cl C X.env) fp) elt (tE X.K X.mg c noW ce)) (hs : ∀ x, foldedSetIterable iter X.env x = pure x) :
    PE X (.ListComp elt [⟨tg, iter, ifs, 0⟩] scope pos) (tL X.K X.mg c W (.comp ct it cond ce)) := by
  refine PE_imp (pe_lc hc hN hi ok hg ht he hs) fun σ H Q h => ?_
  rw [hown]
  exact lc_rd h
theorem C_non : PTs X [] (tC X.K X.mg c W .non) := ⟨fun pins s σ H Q I ⟨m, F, S, ρ, hs, r, h⟩ => pts_nil.run pins s σ H Q I (h.ok hs)⟩
theorem C_som {e : Expr} {a : CE} (h : PT X e (tT X.K X.mg c W a)) : PTs X [e] (tC X.K X.mg c W (.som a)) := ⟨fun pins s σ H Q I ⟨m, F, S, ρ, hs, r, h'⟩ => (pts_one h).run pins s σ H Q I ⟨m, F, S, ρ, hs, r, h'⟩⟩
theorem S_asgt {es : List Expr} {k : Nat} {tp : Pos} {is : List Nat} {e : Expr} {a : CE} {pos : Pos} (hg : PG X (.Tuple es k tp) (gT X.K (.tp is))) (ht : notTup e = true) (he : PE X e (tE X.K X.mg c W a)) : PS X (.Assign [.Tuple es k tp] e pos) (tS X.K X.mg c W (.asgt is a)) :=
  PS_imp (ps_asg he hg sw_tup (st_tup ht) rfl) fun D σ H ⟨m, F, S, ρ, s, r, h⟩ => by
    rw [execS] at h
    refine ⟨m, F, S, ρ, s, r, h.bd.imp fun x S1 m1 H1 g1 s1 h1 v rv => ?_⟩
    cases hb : bindT (.tp is) x ρ with
    | none => rw [hb] at h1; exact h1.elim
    | some ρ' =>
      rw [hb] at h1
      exact gT_ok (tg := .tp is) rv (r.mono g1) hb fun σ2 e2 _ => h1.ok s1 σ2 e2
theorem S_asgl {es : List Expr} {k : Nat} {tp : Pos} {is : List Nat} {e : Expr} {a : CE} {pos : Pos} (hg : PG X (.Tuple es k tp) (gLst X.K is.length (gNs is))) (ht : notTup e = true) (he : PE X e (tE X.K X.mg c W a)) : PS X (.Assign [.Tuple es k tp] e pos) (tS X.K X.mg c W (.asgl is a)) :=
  PS_imp (ps_asg he hg sw_tup (st_tup ht) rfl) fun D σ H ⟨m, F, S, ρ, s, r, h⟩ => by
    rw [execS] at h
    refine ⟨m, F, S, ρ, s, r, h.bd.imp fun x S1 m1 H1 g1 s1 h1 v rv => ?_⟩
    cases hx : litems S1 x with
    | none => rw [hx] at h1; exact h1.elim
    | some xs =>
      rw [hx, Option.bind_some] at h1
      cases hb : bindT (.tp is) (.tup xs) ρ with
      | none => rw [hb] at h1; exact h1.elim
      | some ρ' =>
        rw [hb] at h1
        obtain ⟨b, vs, rfl, q1, rr⟩ := litems_at s1 rv hx
        simp only [bindT] at hb
        split at hb
        · rename_i hl
          cases hb
          exact ⟨b, vs, rfl, SqL.of q1, by rw [← rr.len, hl], gNs_ok hl.symm rr (r.mono g1) fun σ2 e2 l2 k2 => h1.ok s1 σ2 e2⟩
        · cases hb
theorem S_asgs {o i e : Expr} {a b d : CE} {tp pos : Pos} (hp : plainE i = true) (he : PE X e (tE X.K X.mg c W d)) (ho : PE X o (tE X.K X.mg c W a)) (hi : PE X i (tE X.K X.mg c W b)) : PS X (.Assign [.Subscript o i tp] e pos) (tS X.K X.mg c W (.asgs a b d)) :=
  PS_imp (ps_asg he (pg_sub ho hi set_rf (by intro v; cases i <;> first | rfl | cases hp)) sw_sub st_sub rfl) fun D σ H ⟨m, F, S, ρ, s, r, h⟩ => by
    rw [execS] at h
    refine ⟨m, F, S, ρ, s, r, h.bd.imp fun x S1 m1 H1 g1 s1 h1 v rv => ?_⟩
    refine ⟨m1, F, S1, ρ, s1, r.mono g1, h1.bd.imp fun y S2 m2 H2 g2 s2 h2 u ru => ?_⟩
    refine ⟨m2, F, S2, ρ, s2, (r.mono g1).mono g2, h2.bd.imp fun z S3 m3 H3 g3 s3 h3 w rw' => ?_⟩
    cases hb : setD S3 y z x with
    | none => rw [hb] at h3; exact h3.elim
    | some S4 =>
      rw [hb] at h3
      exact ⟨m3, F, S3, y, z, x, S4, s3, ru.mono g3, rw', (rv.mono g2).mono g3, hb, fun H' g s' => h3 m3 H' g s' σ ((((r.mono g1).mono g2).mono g3).mono g)⟩
theorem S_expr {e : Expr} {a : CE} {pos : Pos} (hn : notComp e = true) (he : PE X e (tE X.K X.mg c W a)) : PS X (.Expr e pos) (tS X.K X.mg c W (.expr a)) :=
  PS_imp (ps_expr he (sw_not hn)) fun D σ H ⟨m, F, S, ρ, s, r, h⟩ => by
    rw [execS] at h
    exact ⟨m, F, S, ρ, s, r, h.bd.imp fun x S1 m1 H1 g1 s1 h1 v rv => h1.ok s1 σ (r.mono g1)⟩
theorem S_ret {e : Expr} {a : CE} {pos : Pos} (he : PE X e (tE X.K X.mg c W a)) : PS X (.Return (some e) pos) (tS X.K X.mg c W (.ret a)) :=
  PS_imp (ps_ret he) fun D σ H ⟨m, F, S, ρ, s, r, h⟩ => by
    rw [execS] at h
    exact ⟨m, F, S, ρ, s, r, h.bd.imp fun x S1 m1 H1 g1 s1 h1 v rv => h1.ok s1 σ (r.mono g1) v rv⟩
theorem S_retN {pos : Pos} : PS X (.Return none pos) (tS X.K X.mg c W .retN) :=
  PS_imp ps_retN fun D σ H ⟨m, F, S, ρ, s, r, h⟩ => h.ok s σ r _ (by rw [Rp])
theorem S_pass {pos : Pos} : PS X (.Pass pos) (tS X.K X.mg c W .pass) := PS_imp ps_pass fun D σ H ⟨m, F, S, ρ, s, r, h⟩ => h.ok s σ r
theorem S_brk {pos : Pos} : PS X (.Break pos) (tS X.K X.mg c W .brk) := PS_imp ps_break fun D σ H ⟨m, F, S, ρ, s, r, h⟩ => h.ok s σ r
theorem S_cont {pos : Pos} : PS X (.Continue pos) (tS X.K X.mg c W .cont) := PS_imp ps_continue fun D σ H ⟨m, F, S, ρ, s, r, h⟩ => h.ok s σ r
theorem S_never {st : Stmt} : PS X st (tS X.K X.mg c W .never) := PS_imp ps_never fun D σ H ⟨m, F, S, ρ, s, r, h⟩ => h
theorem S_ite {e : Expr} {a b : List Stmt} {ct : CE} {ca cb : CSs} {pos : Pos} (hc : PT X e (tT X.K X.mg c W ct)) (ha : PSs X a (tSs X.K X.mg c W ca)) (hb : PSs X b (tSs X.K X.mg c W cb)) : PS X (.If e a b pos) (tS X.K X.mg c W (.ite ct ca cb)) :=
  PS_imp (ps_if hc ha hb) fun D σ H ⟨m, F, S, ρ, s, r, h⟩ => by
    rw [execS] at h
    refine ⟨m, F, S, ρ, s, r, h.bd.imp fun x S1 m1 H1 g1 s1 h1 => ?_⟩
    cases x with
    | true => exact ⟨m1, F, S1, ρ, s1, r.mono g1, h1⟩
    | false => exact ⟨m1, F, S1, ρ, s1, r.mono g1, h1⟩
theorem Ss_nil : PSs X [] (tSs X.K X.mg c W .nil) := PSs_imp pss_nil fun D σ H ⟨m, F, S, ρ, s, r, h⟩ => by
  rw [execs] at h
  exact h.ok s σ r
theorem Ss_cons {st : Stmt} {rest : List Stmt} {a : CS} {b : CSs} (h1 : PS X st (tS X.K X.mg c W a)) (h2 : PSs X rest (tSs X.K X.mg c W b)) : PSs X (st :: rest) (tSs X.K X.mg c W (.cons a b)) :=
  PSs_imp (pss_cons h1 h2) fun D σ H ⟨m, F, S, ρ, s, r, h⟩ => by
    rw [execs] at h
    refine ⟨m, F, S, ρ, s, r, h.bd.imp fun p S1 m1 H1 g1 s1 h1 σ' r' => ?_⟩
    obtain ⟨f, ρ'⟩ := p
    cases f with
    | nx => exact ⟨m1, F, S1, ρ', s1, r', h1⟩
    | rt d => exact h1.ok s1 σ' r'
    | bk => exact h1.ok s1 σ' r'
    | ct => exact h1.ok s1 σ' r'
def forB (c : Cfg) (ct : CT) (b : CSs) : D → Env → Store → RS := fun x r S2 => match bindT ct x r with
  | some r' => execs c b r' S2
  | none => .bad
theorem S_for {tg iter : Expr} {body : List Stmt} {ct : CT} {it : CI} {b : CSs} {pos : Pos} (hp : PassesOwn (model X.prog X.w) X.A X.env X.xe) (hc : X.calm = true) (hi : PI X tg iter (tI X.K X.mg c W it)) (hg : PG X tg (gT X.K ct)) (hb : PSs X body (tSs X.K X.mg c W b)) (hs : notSet iter = true) :
    PS X (.For tg iter body [] pos) (tS X.K X.mg c W (.for_ ct it b)) :=
  PS_imp (ps_for hp hc hi hg hb (set_not hs)) fun D σ H ⟨m, F, S, ρ, s, r, h⟩ => by
    rw [execS] at h
    refine ⟨m, F, S, ρ, s, r, h.bd.imp fun p S1 m1 H1 g1 s1 h1 J hJ => ?_⟩
    obtain ⟨L, us, rL, hJ⟩ := hJ
    have h1 : Fin X.K X.mg m1 F H1 W (forL p.2 (forB c ct b) p.1 ρ S1) (endP X.K F D) := h1
    refine ⟨fun i k σ' H' => k + i = p.1.length ∧ ∃ m2 S2 ρ2, Grow m1 H1 m2 H' ∧ Sm X.K m2 F S2 H' ∧ Rps X.K m2 F H' L us ∧ RpE X.K m2 F H' ρ2 σ' ∧ Fin X.K X.mg m2 F H' W (forL p.2 (forB c ct b) (p.1.drop i) ρ2 S2) (endP X.K F D),
      ⟨p.1.length, by simp, m1, S1, ρ, s1.refl, s1, rL, r.mono g1, by rw [List.drop_zero]; exact h1⟩, fun i k σ' H' hW => ?_⟩
    obtain ⟨hk, m2, S2, ρ2, g2, s2, rL2, r2, hF⟩ := hW
    cases hd : p.1.drop i with
    | nil =>
      have hi : p.1.length ≤ i := by
        have := congrArg List.length hd
        simp at this; omega
      rw [hd] at hF
      unfold forL at hF
      split at hF
      · rename_i hp
        exact .inl ⟨(hJ m2 F H' S2 g2 s2 rL2 hp i).2 hi, hF.ok s2 σ' r2⟩
      · exact hF.elim
    | cons x xs =>
      have hx : p.1[i]? = some x := by
        have := congrArg (·[0]?) hd
        simpa using this
      have hdr : p.1.drop (i + 1) = xs := by
        have := congrArg List.tail hd
        simpa using this
      have hi : i < p.1.length := (List.getElem?_eq_some_iff.mp hx).1
      rw [hd] at hF
      unfold forL at hF
      split at hF
      case isFalse => exact hF.elim
      case isTrue hp =>
      obtain ⟨hgo, hy⟩ := (hJ m2 F H' S2 g2 s2 rL2 hp i).1 x hx
      refine .inr ⟨hgo, fun σ' H' => k - 1 + (i + 1) = p.1.length ∧ ∃ m2 S2 ρ2, Grow m1 H1 m2 H' ∧ Sm X.K m2 F S2 H' ∧ Rps X.K m2 F H' L us ∧ RpE X.K m2 F H' ρ2 σ' ∧ Fin X.K X.mg m2 F H' W (forL p.2 (forB c ct b) (p.1.drop (i + 1)) ρ2 S2) (endP X.K F D),
        fun σ' H' hN => ⟨k - 1, by omega, hN⟩, fun v H4 hyl => ?_⟩
      obtain ⟨g4, s4, rx, kp⟩ := hy v H4 hyl
      have hF := hF.bd
      cases hbd : bindT ct x ρ2 with
      | none =>
        have eb : forB c ct b x ρ2 S2 = .bad := by unfold forB; rw [hbd]
        rw [eb] at hF; exact hF.elim
      | some ρ3 =>
        have eb : forB c ct b x ρ2 S2 = execs c b ρ3 S2 := by unfold forB; rw [hbd]
        rw [eb] at hF
        refine gT_ok rx (r2.mono g4) hbd fun σ2 e2 _ => ?_
        refine ⟨m2, F, S2, ρ3, s4, e2, (hF.grow g4).imp fun q S5 m5 H5 g5 s5 h5 σ5 r5 => ?_⟩
        obtain ⟨f, ρ5⟩ := q
        cases f with
        | nx => exact ⟨by omega, m5, S5, ρ5, (g2.trans g4).trans g5, s5, (rL2.mono g4).mono g5, r5, by rw [hdr]; exact h5⟩
        | ct => exact ⟨by omega, m5, S5, ρ5, (g2.trans g4).trans g5, s5, (rL2.mono g4).mono g5, r5, by rw [hdr]; exact h5⟩
        | bk => exact h5.ok s5 σ5 r5
        | rt d => exact h5.ok s5 σ5 r5
theorem S_while {e : Expr} {body : List Stmt} {ct : CE} {b : CSs} {k : Nat} {pos : Pos} (hp : PassesOwn (model X.prog X.w) X.A X.env X.xe) (hc : PT X e (tT X.K X.mg c W ct)) (hb : PSs X body (tSs X.K X.mg c W b)) : PS X (.While e body [] pos) (tS X.K X.mg c W (.while_ k ct b)) :=
  PS_imp (ps_while hp hc hb) fun D σ H ⟨m, F, S, ρ, s, r, h⟩ => by
    rw [execS] at h
    refine ⟨fun k σ' H' => ∃ m2 S2 ρ2, Sm X.K m2 F S2 H' ∧ RpE X.K m2 F H' ρ2 σ' ∧ Fin X.K X.mg m2 F H' W (whileN (fun r S => evalT c ct r S) (fun r S => execs c b r S) k ρ2 S2) (endP X.K F D), ⟨k, m, S, ρ, s, r, h⟩, fun k σ' H' hW => ?_⟩
    obtain ⟨m2, S2, ρ2, s2, r2, hF⟩ := hW
    cases k with
    | zero => exact hF.elim
    | succ k =>
      unfold whileN at hF
      refine ⟨m2, F, S2, ρ2, s2, r2, hF.bd.imp fun t S3 m3 H3 g3 s3 h3 => ?_⟩
      cases t with
      | false => exact h3.ok s3 σ' (r2.mono g3)
      | true =>
        refine ⟨fun σ' H' => ∃ m2 S2 ρ2, Sm X.K m2 F S2 H' ∧ RpE X.K m2 F H' ρ2 σ' ∧ Fin X.K X.mg m2 F H' W (whileN (fun r S => evalT c ct r S) (fun r S => execs c b r S) k ρ2 S2) (endP X.K F D), fun σ' H' hN => ⟨k, by omega, hN⟩, ?_⟩
        have h3 : Fin X.K X.mg m3 F H3 W ((execs c b ρ2 S3).bd fun p S' => match p.1 with
          | .nx => whileN (fun r S => evalT c ct r S) (fun r S => execs c b r S) k p.2 S'
          | .ct => whileN (fun r S => evalT c ct r S) (fun r S => execs c b r S) k p.2 S'
          | .bk => .ok ((.nx, p.2), S')
          | .rt d => .ok ((.rt d, p.2), S')) (endP X.K F D) := h3
        refine ⟨m3, F, S3, ρ2, s3, r2.mono g3, h3.bd.imp fun q S5 m5 H5 g5 s5 h5 σ5 r5 => ?_⟩
        obtain ⟨f, ρ5⟩ := q
        cases f with
        | nx => exact ⟨m5, S5, ρ5, s5, r5, h5⟩
        | ct => exact ⟨m5, S5, ρ5, s5, r5, h5⟩
        | bk => exact h5.ok s5 σ5 r5
        | rt d => exact h5.ok s5 σ5 r5
end
end Rf


namespace Rf
open PySem PySem.Spec PyProof.Rows L2
theorem keyAs_inj : ∀ {xs ys : List D} {k : List Key}, keyAs xs = some k → keyAs ys = some k → xs = ys
  | [], [], _, _, _ => rfl
  | [], y :: ys, k, h, h2 => by
    rw [keyAs] at h; cases h
    rw [keyAs] at h2
    split at h2 <;> cases h2
  | x :: xs, [], k, h, h2 => by
    rw [keyAs] at h2; cases h2
    rw [keyAs] at h
    split at h <;> cases h
  | x :: xs, y :: ys, k, h, h2 => by
    rw [keyAs] at h h2
    split at h
    · rename_i k1 ks1 e1 e2
      cases h
      split at h2
      · rename_i k2 ks2 e3 e4
        cases h2
        rw [keyA_inj e1 e3, keyAs_inj e2 e4]
      · cases h2
    · cases h
theorem keyK_inj {a b : D} {k : List Key} (h : keyK a = some k) (h2 : keyK b = some k) : a = b := by
  cases a with
  | tup xs =>
    cases b with
    | tup ys => rw [keyK] at h h2; rw [keyAs_inj h h2]
    | _ => simp [keyK] at h2
  | _ => simp [keyK] at h
theorem keyK_eq {a b : D} {k l : List Key} (h : keyK a = some k) (h2 : keyK b = some l) : decide (a = b) = decide (k = l) := by
  apply decide_eq_decide.mpr
  constructor
  · rintro rfl; rw [h] at h2; cases h2; rfl
  · rintro rfl; exact keyK_inj h h2
theorem dicV_cons {p : D × D} {r : List (D × D)} {t : List (List Key × V)} (h : dicV (p :: r) = some t) : ∃ k v u, keyK p.1 = some k ∧ flatD p.2 = some v ∧ dicV r = some u ∧ t = (k, v) :: u := by
  rw [dicV] at h
  split at h
  · rename_i k v u e1 e2 e3
    cases h
    exact ⟨k, v, u, e1, e2, e3, rfl⟩
  · cases h
theorem dic_get {k : D} {kk : List Key} (hk : keyK k = some kk) : ∀ {kvs : List (D × D)} {t : List (List Key × V)} {d : D}, dicV kvs = some t → getDic kvs k = some d → ∃ v, valV t kk = some v ∧ flatD d = some v
  | [], t, d, h, g => by simp [getDic] at g
  | p :: r, t, d, h, g => by
    obtain ⟨k', v, u, e1, e2, e3, rfl⟩ := dicV_cons h
    have ek := keyK_eq e1 hk
    unfold getDic at g
    rw [List.find?_cons] at g
    by_cases q : p.1 = k
    · rw [decide_eq_true q] at g ek
      cases g
      refine ⟨v, ?_, e2⟩
      have : k' = kk := of_decide_eq_true ek.symm
      exact valV_pos (p := (k', v)) this
    · rw [decide_eq_false q] at g ek
      have nk : ¬ k' = kk := of_decide_eq_false ek.symm
      rw [valV_neg (p := (k', v)) nk]
      exact dic_get hk e3 g
theorem dicV_any {k : D} {kk : List Key} (hk : keyK k = some kk) : ∀ {kvs : List (D × D)} {t : List (List Key × V)}, dicV kvs = some t → (kvs.any fun p => decide (p.1 = k)) = t.any fun p => decide (p.1 = kk)
  | [], t, h => by rw [dicV] at h; cases h; rfl
  | p :: r, t, h => by
    obtain ⟨k', v, u, e1, e2, e3, rfl⟩ := dicV_cons h
    rw [List.any_cons, List.any_cons, dicV_any hk e3, keyK_eq e1 hk]
theorem dicV_map {k d : D} {kk : List Key} {v : V} (hk : keyK k = some kk) (hv : flatD d = some v) : ∀ {kvs : List (D × D)} {t : List (List Key × V)}, dicV kvs = some t → dicV (kvs.map fun p => if p.1 = k then (p.1, d) else p) = some (t.map fun p => if p.1 = kk then (p.1, v) else p)
  | [], t, h => by rw [dicV] at h; cases h; rfl
  | p :: r, t, h => by
    obtain ⟨k', v', u, e1, e2, e3, rfl⟩ := dicV_cons h
    have ek := keyK_eq e1 hk
    rw [List.map_cons, List.map_cons]
    by_cases q : p.1 = k
    · rw [decide_eq_true q] at ek
      rw [if_pos q, if_pos (of_decide_eq_true ek.symm), dicV, e1, hv, dicV_map hk hv e3]
    · rw [decide_eq_false q] at ek
      rw [if_neg q, if_neg (of_decide_eq_false ek.symm), dicV, e1, e2, dicV_map hk hv e3]
theorem dicV_snoc {k d : D} {kk : List Key} {v : V} (hk : keyK k = some kk) (hv : flatD d = some v) : ∀ {kvs : List (D × D)} {t : List (List Key × V)}, dicV kvs = some t → dicV (kvs ++ [(k, d)]) = some (t ++ [(kk, v)])
  | [], t, h => by rw [dicV] at h; cases h; rw [List.nil_append, dicV, hk, hv, dicV]; rfl
  | p :: r, t, h => by
    obtain ⟨k', v', u, e1, e2, e3, rfl⟩ := dicV_cons h
    rw [List.cons_append, dicV, e1, e2, dicV_snoc hk hv e3]; rfl
theorem dic_put {k d : D} {kk : List Key} {v : V} (hk : keyK k = some kk) (hv : flatD d = some v) {kvs : List (D × D)} {t : List (List Key × V)} (h : dicV kvs = some t) : dicV (putDic kvs k d) = some (putK t kk v) := by
  unfold putDic putK
  rw [dicV_any hk h]
  split
  · exact dicV_map hk hv h
  · exact dicV_snoc hk hv h
theorem dicV_len : ∀ {kvs : List (D × D)} {t : List (List Key × V)}, dicV kvs = some t → t.length = kvs.length
  | [], t, h => by rw [dicV] at h; cases h; rfl
  | p :: r, t, h => by
    obtain ⟨k', v', u, e1, e2, e3, rfl⟩ := dicV_cons h
    simp [dicV_len e3]
theorem keys_of {K : PySem.W.Frag} {m : List Addr} {F : Addr → Prop} {H : Hp} : ∀ {xs : List D} {vs : List V}, Rps K m F H xs vs → xs.all keyB = true → ∃ kk, keyAs xs = some kk ∧ vs = kk.map kV
  | [], vs, r, _ => ⟨[], rfl, by rw [Rps.nil_iff.mp r]; rfl⟩
  | x :: xs, vs, r, h => by
    obtain ⟨v, vr, rfl, r1, r2⟩ := r.uncons
    rw [List.all_cons, Bool.and_eq_true] at h
    obtain ⟨kk, e1, e2⟩ := keys_of r2 h.2
    cases x with
    | int i => rw [Rp] at r1; subst r1; exact ⟨.inl i :: kk, by rw [keyAs, e1]; rfl, by rw [e2]; rfl⟩
    | str i => rw [Rp] at r1; subst r1; exact ⟨.inr i :: kk, by rw [keyAs, e1]; rfl, by rw [e2]; rfl⟩
    | _ => simp [keyB] at h
theorem flat_rp {K : PySem.W.Frag} {m : List Addr} {F : Addr → Prop} {H : Hp} {d : D} {v : V} (h : flatD d = some v) : Rp K m F H d v := by
  cases d <;> simp only [flatD] at h <;> first | (cases h; rw [Rp]) | cases h
theorem flat_of {K : PySem.W.Frag} {m : List Addr} {F : Addr → Prop} {H : Hp} {d : D} {v : V} (r : Rp K m F H d v) (h : flatB d = true) : flatD d = some v := by
  cases d <;> first | (rw [Rp] at r; subst r; rfl) | cases h
section
variable {K : PySem.W.Frag} {m : List Addr} {F : Addr → Prop} {S : Store} {H : Hp}
theorem Sm.pushK (s : Sm K m F S H) {p : Addr} {o : HO} {ob : O} (np : H p = none) (hob : Grow m H (m ++ [p]) (upd H p o) → RpO K (m ++ [p]) F (upd H p o) p ob) : Grow m H (m ++ [p]) (upd H p o) ∧ Sm K (m ++ [p]) F (S ++ [ob]) (upd H p o) := by
  have pm : p ∉ m := fun h => by obtain ⟨o, e⟩ := s.tr p h; rw [np] at e; cases e
  have k : ∀ a u, H a = some u → upd H p o a = some u := fun a u e => by rw [upd_ne (ne_of_none e np)]; exact e
  have g : Grow m H (m ++ [p]) (upd H p o) := ⟨⟨[p], rfl, fun a h => by rw [List.mem_singleton.mp h]; exact np⟩, fun a o e _ => k a o e, fun a ha => by
    rcases List.mem_append.mp ha with h | h
    · obtain ⟨u, e⟩ := s.tr a h
      exact ⟨u, k a u e⟩
    · rw [List.mem_singleton.mp h]; exact ⟨_, upd_same⟩⟩
  refine ⟨g, by rw [List.length_append, List.length_append, s.len]; rfl, ?_, fun a f => let ⟨o, e⟩ := s.fok a f; ⟨o, k a o e⟩, fun a ha f => ?_, fun n a o e1 e2 => ?_⟩
  · rw [List.nodup_append]
    exact ⟨s.nd, List.pairwise_singleton _ _, fun a h b h2 => by rw [List.mem_singleton.mp h2]; rintro rfl; exact pm h⟩
  · rcases List.mem_append.mp ha with h | h
    · exact s.fm a h f
    · rw [List.mem_singleton.mp h] at f
      obtain ⟨o, e⟩ := s.fok p f
      rw [np] at e; cases e
  · by_cases hn : n < m.length
    · rw [List.getElem?_append_left hn] at e1
      rw [List.getElem?_append_left (by rw [← s.len]; exact hn)] at e2
      exact (s.obj n a o e1 e2).imp (fun u q => k a u q) fun xs vs q => q.mono g
    · have hn' : n = m.length := by
        have h := (List.getElem?_eq_some_iff.mp e1).1
        rw [List.length_append] at h
        simp only [List.length_cons, List.length_nil] at h
        omega
      subst hn'
      rw [List.getElem?_concat_length] at e1
      rw [s.len, List.getElem?_concat_length] at e2
      cases e1; cases e2
      exact hob g
theorem Sm.pushO (s : Sm K m F S H) {p : Addr} {o : HO} {ob : O} (np : H p = none) (hob : ∀ m F (H : Hp), H p = some o → RpO K m F H p ob) : Grow m H (m ++ [p]) (upd H p o) ∧ Sm K (m ++ [p]) F (S ++ [ob]) (upd H p o) :=
  s.pushK np fun _ => hob _ _ _ upd_same
theorem Sm.putO (s : Sm K m F S H) {n : Nat} {p : Addr} {o : HO} {ob : O} (e : m[n]? = some p) (hob : ∀ m F (H : Hp), H p = some o → RpO K m F H p ob) : Grow m H m (upd H p o) ∧ Sm K m F (S.set n ob) (upd H p o) := by
  have hp : p ∈ m := List.mem_of_getElem? e
  have hn : n < S.length := by rw [← s.len]; exact (List.getElem?_eq_some_iff.mp e).1
  obtain ⟨u, q, mu⟩ := (s.obj n p S[n] e (List.getElem?_eq_getElem hn)).tr
  have g : Grow m H m (upd H p o) := ⟨⟨[], by simp, by simp⟩, fun a o ea k => by
    have ne : a ≠ p := by
      rintro rfl
      rcases k with k | k
      · exact k hp
      · rw [q] at ea; cases ea; exact k mu
    rw [upd_ne ne]; exact ea, fun a ha => by
    by_cases ea : a = p
    · rw [ea]; exact ⟨_, upd_same⟩
    · rw [upd_ne ea]; exact s.tr a ha⟩
  refine ⟨g, by rw [List.length_set]; exact s.len, s.nd, fun a f => ?_, s.fm, fun j a o e1 e2 => ?_⟩
  · by_cases ea : a = p
    · rw [ea]; exact ⟨_, upd_same⟩
    · rw [upd_ne ea]; exact s.fok a f
  · by_cases hj : j = n
    · subst hj
      rw [e] at e1; cases e1
      rw [List.getElem?_set_self hn] at e2
      cases e2
      exact hob _ _ _ upd_same
    · rw [List.getElem?_set_ne (Ne.symm hj)] at e2
      have ne : a ≠ p := by
        rintro rfl
        apply hj
        obtain ⟨h1, e1'⟩ := List.getElem?_eq_some_iff.mp e1
        obtain ⟨h2, e2'⟩ := List.getElem?_eq_some_iff.mp e
        exact (List.getElem_inj s.nd).mp (e1'.trans e2'.symm)
      exact (s.obj j a o e1 e2).imp (fun u q => by rw [upd_ne ne]; exact q) fun xs vs q => q.mono g
end
theorem dget_of {S : Store} {x d : D} {xs : List D} (h : dgetD S x xs = some d) : ∃ n kvs, x = .ref n ∧ S[n]? = some (.dic kvs) ∧ xs.all keyB = true ∧ xs.length ≤ 100 ∧ getDic kvs (.tup xs) = some d := by
  unfold dgetD at h
  split at h
  · rename_i n
    split at h
    · rename_i kvs e
      split at h
      · rename_i hk
        unfold keysB at hk
        rw [Bool.and_eq_true, decide_eq_true_iff] at hk
        exact ⟨n, kvs, rfl, e, hk.1, hk.2, h⟩
      · cases h
    · cases h
  · cases h
theorem dput_of {S S' : Store} {x v : D} {xs : List D} (h : dputD S x xs v = some S') : ∃ n kvs, x = .ref n ∧ S[n]? = some (.dic kvs) ∧ xs.all keyB = true ∧ xs.length ≤ 100 ∧ flatB v = true ∧ kvs.length < sizeLine ∧ S' = S.set n (.dic (putDic kvs (.tup xs) v)) := by
  unfold dputD at h
  split at h
  · rename_i n
    split at h
    · rename_i kvs e
      split at h
      · rename_i hk
        obtain ⟨hk, h1, h2⟩ := hk
        unfold keysB at hk
        rw [Bool.and_eq_true, decide_eq_true_iff] at hk
        cases h
        exact ⟨n, kvs, rfl, e, hk.1, hk.2, h1, h2, rfl⟩
      · cases h
    · cases h
  · cases h
section
variable {X : Cx} {c : Cfg} {W : WX}
theorem E_dnew {pos : Pos} : PE X (.Dict [] [] pos) (tE X.K X.mg c W .dnew) :=
  PE_imp pe_dnewT fun σ H Q ⟨m, F, S, ρ, s, r, h⟩ => by
    rw [evalE] at h
    intro p np
    obtain ⟨g, s2⟩ := s.pushO (o := .dT []) (ob := .dic []) np fun m F H e => ⟨[], e, rfl⟩
    refine h (m ++ [p]) _ g s2 _ ?_
    rw [Rp]
    exact ⟨p, by rw [← s.len]; simp, rfl⟩
theorem E_dget {a : CE} {as : CEs} {o : Expr} {es : List Expr} {k : Nat} {p2 pos : Pos} (hu : X.A.units + 64 < cLine) (ho : PE X o (tE X.K X.mg c W a)) (ha : PA X es (tA X.K X.mg c W as)) : PE X (.Subscript o (.Tuple es k p2) pos) (tE X.K X.mg c W (.dget a as)) :=
  PE_imp (pe_dget (by omega) ho (pe_tup ha) (fun ov iv => rfl)) fun σ H Q ⟨m, F, S, ρ, s, r, h⟩ => by
    rw [evalE] at h
    refine ⟨m, F, S, ρ, s, r, h.bd.imp fun x S1 m1 H1 g1 s1 h1 v rv => ?_⟩
    refine ⟨m1, F, S1, ρ, s1, r.mono g1, h1.bd.imp fun xs S2 m2 H2 g2 s2 h2 vs rvs => ?_⟩
    obtain ⟨d, e, q⟩ := h2.of
    obtain ⟨n, kvs, rfl, e1, e2, e3, e4⟩ := dget_of e
    obtain ⟨kk, f1, f2⟩ := keys_of rvs e2
    refine ⟨by rw [← rvs.len, sizeLine_eq]; omega, fun p np => ?_⟩
    have rv2 := rv.mono g2
    rw [Rp] at rv2
    obtain ⟨b, hb, rfl⟩ := rv2
    obtain ⟨t, e5, e6⟩ := s2.obj n b _ hb e1
    obtain ⟨v', e7, e8⟩ := dic_get (k := .tup xs) (kk := kk) f1 e6 e4
    have eb : upd H2 p (.tup vs) b = some (.dT t) := by rw [upd_ne (ne_of_none e5 np)]; exact e5
    have ep : upd H2 p (.tup vs) p = some (.tup (kk.map kV)) := by rw [upd_same, f2]
    refine ⟨b, v', rfl, ?_, q m2 _ (Grow.new s2 np) (s2.new np) v' (flat_rp e8)⟩
    rw [← e7]
    exact DGet.t eb ep
theorem S_dput {o e : Expr} {es : List Expr} {a d : CE} {as : CEs} {k : Nat} {p2 tp pos : Pos} (hu : X.A.units + 64 < cLine) (he : PE X e (tE X.K X.mg c W d)) (ho : PE X o (tE X.K X.mg c W a)) (ha : PA X es (tA X.K X.mg c W as)) : PS X (.Assign [.Subscript o (.Tuple es k p2) tp] e pos) (tS X.K X.mg c W (.dput a as d)) :=
  PS_imp (ps_asg he (pg_sub ho (pe_tup ha) (set_dict (by omega)) (by intro v; rfl)) sw_sub st_sub rfl) fun D σ H ⟨m, F, S, ρ, s, r, h⟩ => by
    rw [execS] at h
    refine ⟨m, F, S, ρ, s, r, h.bd.imp fun x S1 m1 H1 g1 s1 h1 v rv => ?_⟩
    refine ⟨m1, F, S1, ρ, s1, r.mono g1, h1.bd.imp fun y S2 m2 H2 g2 s2 h2 u ru => ?_⟩
    refine ⟨m2, F, S2, ρ, s2, (r.mono g1).mono g2, h2.bd.imp fun zs S3 m3 H3 g3 s3 h3 vs rvs => ?_⟩
    cases hb : dputD S3 y zs x with
    | none => rw [hb] at h3; exact h3.elim
    | some S4 =>
      rw [hb] at h3
      obtain ⟨n, kvs, rfl, e1, e2, e3, e4, e5, rfl⟩ := dput_of hb
      obtain ⟨kk, f1, f2⟩ := keys_of rvs e2
      refine ⟨by rw [← rvs.len, sizeLine_eq]; omega, fun p np => ?_⟩
      have ru2 := ru.mono g3
      rw [Rp] at ru2
      obtain ⟨b, hb', rfl⟩ := ru2
      obtain ⟨t, e6, e7⟩ := s3.obj n b _ hb' e1
      have fv := flat_of rv e4
      have s4 := s3.new (o := .tup vs) np
      have g4 : Grow m3 H3 m3 (upd H3 p (.tup vs)) := Grow.new s3 np
      have eb : upd H3 p (.tup vs) b = some (.dT t) := by rw [upd_ne (ne_of_none e6 np)]; exact e6
      have ep : upd H3 p (.tup vs) p = some (.tup (kk.map kV)) := by rw [upd_same, f2]
      obtain ⟨g5, s5⟩ := s4.putO (o := .dT (putK t kk v)) (ob := .dic (putDic kvs (.tup zs) x)) hb' fun m F H e => ⟨_, e, dic_put (k := .tup zs) f1 fv e7⟩
      exact ⟨b, _, rfl, DPut.t eb ep (by rw [dicV_len e7]; exact e5), h3 m3 _ (g4.trans g5) s5 σ (((((r.mono g1).mono g2).mono g3).mono g4).mono g5)⟩


theorem Sm.putK {K : PySem.W.Frag} {m : List Addr} {F : Addr → Prop} {S : Store} {H : Hp} (s : Sm K m F S H) {n : Nat} {p : Addr} {o : HO} {ob : O} (e : m[n]? = some p) (hob : ∀ (H' : Hp), Grow m H m H' → H' p = some o → RpO K m F H' p ob) : Grow m H m (upd H p o) ∧ Sm K m F (S.set n ob) (upd H p o) := by
  have hp : p ∈ m := List.mem_of_getElem? e
  have hn : n < S.length := by rw [← s.len]; exact (List.getElem?_eq_some_iff.mp e).1
  obtain ⟨u, q, mu⟩ := (s.obj n p S[n] e (List.getElem?_eq_getElem hn)).tr
  have g : Grow m H m (upd H p o) := ⟨⟨[], by simp, by simp⟩, fun a o ea k => by
    have ne : a ≠ p := by
      rintro rfl
      rcases k with k | k
      · exact k hp
      · rw [q] at ea; cases ea; exact k mu
    rw [upd_ne ne]; exact ea, fun a ha => by
    by_cases ea : a = p
    · rw [ea]; exact ⟨_, upd_same⟩
    · rw [upd_ne ea]; exact s.tr a ha⟩
  refine ⟨g, by rw [List.length_set]; exact s.len, s.nd, fun a f => ?_, s.fm, fun j a o e1 e2 => ?_⟩
  · by_cases ea : a = p
    · rw [ea]; exact ⟨_, upd_same⟩
    · rw [upd_ne ea]; exact s.fok a f
  · by_cases hj : j = n
    · subst hj
      rw [e] at e1; cases e1
      rw [List.getElem?_set_self hn] at e2
      cases e2
      exact hob _ g upd_same
    · rw [List.getElem?_set_ne (Ne.symm hj)] at e2
      have ne : a ≠ p := by
        rintro rfl
        apply hj
        obtain ⟨h1, e1'⟩ := List.getElem?_eq_some_iff.mp e1
        obtain ⟨h2, e2'⟩ := List.getElem?_eq_some_iff.mp e
        exact (List.getElem_inj s.nd).mp (e1'.trans e2'.symm)
      exact (s.obj j a o e1 e2).imp (fun u q => by rw [upd_ne ne]; exact q) fun xs vs q => q.mono g
theorem keyAs_snoc {k : D} {kk : Key} (hk : keyA k = some kk) : ∀ {ks : List D} {l : List Key}, keyAs ks = some l → keyAs (ks ++ [k]) = some (l ++ [kk])
  | [], l, h => by rw [keyAs] at h; cases h; rw [List.nil_append, keyAs, hk, keyAs]; rfl
  | x :: ks, l, h => by
    rw [keyAs] at h
    split at h
    · rename_i k1 l1 e1 e2
      cases h
      rw [List.cons_append, keyAs, e1, keyAs_snoc hk e2]; rfl
    · cases h
theorem zip_val {K : PySem.W.Frag} {m : List Addr} {F : Addr → Prop} {H : Hp} {k : D} {kk : Key} (hk : keyA k = some kk) : ∀ {ks xs : List D} {l : List Key} {vs : List V} {d : D}, keyAs ks = some l → Rps K m F H xs vs → l.length = vs.length →
    ((ks.zip xs).find? fun p => decide (p.1 = k)).map (·.2) = some d → ∃ v, valV (l.zip vs) kk = some v ∧ Rp K m F H d v
  | [], xs, l, vs, d, h, r, hl, g => by simp at g
  | x :: ks, [], l, vs, d, h, r, hl, g => by simp at g
  | x :: ks, y :: xs, l, vs, d, h, r, hl, g => by
    rw [keyAs] at h
    split at h
    · rename_i k1 l1 e1 e2
      cases h
      obtain ⟨v, vr, rfl, r1, r2⟩ := r.uncons
      rw [List.zip_cons_cons, List.find?_cons] at g
      rw [List.zip_cons_cons]
      by_cases q : x = k
      · rw [decide_eq_true q] at g
        cases g
        subst q
        rw [hk] at e1; cases e1
        exact ⟨v, valV_pos (p := (kk, v)) rfl, r1⟩
      · rw [decide_eq_false q] at g
        have nk : ¬ k1 = kk := fun z => q (keyA_inj (z ▸ e1) hk)
        rw [valV_neg (p := (k1, v)) nk]
        exact zip_val hk e2 r2 (by simpa using hl) g
    · cases h
theorem putK_zip {kk : Key} {v : V} {l : List Key} {vs : List V} (h : kk ∉ l) (hl : l.length = vs.length) : putK (l.zip vs) kk v = (l ++ [kk]).zip (vs ++ [v]) := by
  have h0 : valV (l.zip vs) kk = none := by
    unfold valV
    have : (l.zip vs).find? (fun kv => decide (kv.1 = kk)) = none := List.find?_eq_none.mpr fun p hp q => h (by
      have := (List.of_mem_zip (a := p.1) (b := p.2) hp).1
      rw [of_decide_eq_true q] at this; exact this)
    rw [this]; rfl
  rw [putK_new v h0, List.zip_append hl]; rfl
theorem dat_of {S : Store} {x y d : D} (h : datD S x y = some d) : ∃ n ks xs, x = .ref n ∧ S[n]? = some (.dks ks xs) ∧ keyB1 y = true ∧ ((ks.zip xs).find? fun p => decide (p.1 = y)).map (·.2) = some d := by
  unfold datD at h
  split at h
  · rename_i n
    split at h
    · rename_i ks xs e
      split at h
      · rename_i hk
        exact ⟨n, ks, xs, rfl, e, hk, h⟩
      · cases h
    · cases h
  · cases h
theorem dset_of {S S' : Store} {x y v : D} (h : dsetD S x y v = some S') : ∃ n ks xs, x = .ref n ∧ S[n]? = some (.dks ks xs) ∧ keyB1 y = true ∧ y ∉ ks ∧ ks.length < 100000 ∧ S' = S.set n (.dks (ks ++ [y]) (xs ++ [v])) := by
  unfold dsetD at h
  split at h
  · rename_i n
    split at h
    · rename_i ks xs e
      split at h
      · rename_i hk
        cases h
        exact ⟨n, ks, xs, rfl, e, hk.1, hk.2.1, hk.2.2, rfl⟩
      · cases h
    · cases h
  · cases h
theorem pairs_rp {m : List Addr} {F : Addr → Prop} {H : Hp} : ∀ {ps : List D} {vs : List V} {q : List D × List D}, Rps X.K m F H ps vs → pairL ps = some q →
    ∃ (as : List Addr) (kk : List Key) (us : List V), vs = as.map V.ref ∧ keyAs q.1 = some kk ∧ kk.length = us.length ∧ Rps X.K m F H q.2 us ∧ Paired (fun p kv => SqT X.K H p [kV kv.1, kv.2]) as (kk.zip us)
  | [], vs, q, r, e => by
    rw [pairL] at e; cases e
    rw [Rps.nil_iff.mp r]
    exact ⟨[], [], [], rfl, rfl, rfl, .nil, .nil⟩
  | d :: ps, vs, q, r, e => by
    obtain ⟨w, t, rfl, r1, r2⟩ := r.uncons
    unfold pairL at e
    split at e
    · rename_i h; cases h
    · rename_i k v r' h
      cases h
      obtain ⟨q', e', rfl⟩ := Option.map_eq_some_iff.mp e
      obtain ⟨as, kk, us, rfl, h1, h2, h3, h4⟩ := pairs_rp r2 e'
      rw [Rp] at r1
      obtain ⟨a, ws, rfl, ht, hx⟩ := r1
      obtain ⟨x, y, rfl, rx, ry⟩ := hx.two
      rw [Rp] at rx; subst rx
      exact ⟨a :: as, .inr k :: kk, y :: us, rfl, by rw [keyAs, h1]; rfl, by simp [h2], .cons ry h3, .cons ht.1 h4⟩
    · cases e
theorem keyAs_nodup : ∀ {ks : List D} {l : List Key}, keyAs ks = some l → ks.Nodup → l.Nodup
  | [], l, h, _ => by rw [keyAs] at h; cases h; exact .nil
  | x :: ks, l, h, n => by
    rw [keyAs] at h
    split at h
    · rename_i k1 l1 e1 e2
      cases h
      rw [List.nodup_cons] at n
      exact List.nodup_cons.mpr ⟨fun z => n.1 ((keyAs_mem e1 e2).mp z), keyAs_nodup e2 n.2⟩
    · cases h
theorem need_pairs : ∀ {ps : List D} {q : List D × List D}, pairL ps = some q → D.need ps = true
  | [], q, e => rfl
  | d :: ps, q, e => by
    unfold pairL at e
    split at e
    · rename_i h; cases h
    · rename_i k v r' h
      cases h
      obtain ⟨q', e', rfl⟩ := Option.map_eq_some_iff.mp e
      exact Bool.and_eq_true_iff.mpr ⟨rfl, need_pairs e'⟩
    · cases e
theorem E_dof {a : CE} {e1 : Expr} {p pos : Pos} (hc : X.calm = true) (hg : Gl X "dict") (hm : X.mg "dict" = none) (hp : plainE e1 = true) (ha : PA X [e1] (tA X.K X.mg c W (.cons a .nil))) : PE X (.Call (.Name "dict" p) [e1] [] pos) (tE X.K X.mg c W (.dof a)) :=
  PE_imp (pe_callTy (call_dictN hc) hg hm rfl ha (by decide) (by decide) (star_plain hp) (star_any (by rfl))) fun σ H Q ⟨m, F, S, ρ, s, r, h⟩ => by
    rw [evalE] at h
    refine one_rd s r h fun x v S1 m1 H1 s1 rv h1 => ?_
    cases hb : dofD x with
    | none => rw [hb] at h1; exact h1.elim
    | some q =>
      rw [hb] at h1
      cases x with
      | tup ps =>
        obtain ⟨q', e1, e2⟩ := Option.bind_eq_some_iff.mp hb
        split at e2
        · rename_i nd
          cases e2
          rw [Rp] at rv
          obtain ⟨b, vs, rfl, ht, hx⟩ := rv
          obtain ⟨as, kk, us, rfl, k1, k2, k3, k4⟩ := pairs_rp hx e1
          refine ⟨b, as, kk.zip us, rfl, ht.1, ht.2 (need_pairs e1), k4, ?_, fun p np => ?_⟩
          · rw [List.map_fst_zip (by omega)]
            exact keyAs_nodup k1 nd
          · obtain ⟨g, s2⟩ := s1.pushK (o := .dK (kk.zip us)) (ob := .dks q.1 q.2) np fun g => ⟨kk, us, upd_same, k1, k2, k3.mono g⟩
            refine h1 _ _ g s2 (.ref p) ?_
            rw [Rp]
            exact ⟨p, by rw [← s1.len]; simp, rfl⟩
        · cases e2
      | _ => cases hb
theorem E_dat {a b : CE} {o i : Expr} {pos : Pos} (hu : X.A.units + 64 < cLine) (hp : plainE i = true) (ho : PE X o (tE X.K X.mg c W a)) (hi : PE X i (tE X.K X.mg c W b)) : PE X (.Subscript o i pos) (tE X.K X.mg c W (.dat a b)) :=
  PE_imp (pe_dget (by omega) ho hi (by intro ov iv; cases i <;> first | rfl | cases hp)) fun σ H Q ⟨m, F, S, ρ, s, r, h⟩ => by
    rw [evalE] at h
    refine ⟨m, F, S, ρ, s, r, h.bd.imp fun x S1 m1 H1 g1 s1 h1 v rv => ?_⟩
    refine ⟨m1, F, S1, ρ, s1, r.mono g1, h1.bd.imp fun y S2 m2 H2 g2 s2 h2 u ru => ?_⟩
    obtain ⟨d, e, q⟩ := h2.of
    obtain ⟨n, ks, xs, rfl, e1, e2, e3⟩ := dat_of e
    obtain ⟨k, f1, f2⟩ := key1_of ru e2
    have rv2 := rv.mono g2
    rw [Rp] at rv2
    obtain ⟨p, hb, rfl⟩ := rv2
    obtain ⟨l, vs, h3, h4, h5, h6⟩ := s2.obj n p _ hb e1
    obtain ⟨w, w1, w2⟩ := zip_val f1 h4 h6 h5 e3
    subst f2
    refine ⟨p, w, rfl, ?_, q m2 H2 s2.refl s2 w w2⟩
    rw [← w1]
    exact DGet.k h3
theorem dset_go {S S' : Store} {m : List Addr} {F : Addr → Prop} {H : Hp} {x y z : D} {v w u : V} (s : Sm X.K m F S H) (rx : Rp X.K m F H x v) (ry : Rp X.K m F H y w) (rz : Rp X.K m F H z u) (e : dsetD S x y z = some S') :
    ∃ p H', v = .ref p ∧ DPut H p w u H' ∧ Grow m H m H' ∧ Sm X.K m F S' H' := by
  obtain ⟨n, ks, xs, rfl, e1, e2, e3, e4, rfl⟩ := dset_of e
  obtain ⟨k, f1, rfl⟩ := key1_of ry e2
  rw [Rp] at rx
  obtain ⟨p, hb, rfl⟩ := rx
  obtain ⟨l, vs, h3, h4, h5, h6⟩ := s.obj n p _ hb e1
  have hk : k ∉ l := fun q => e3 ((keyAs_mem f1 h4).mp q)
  have hl := keyAs_len h4
  have ez := putK_zip (v := u) hk h5
  obtain ⟨g, s2⟩ := s.putK (o := .dK (putK (l.zip vs) k u)) (ob := .dks (ks ++ [y]) (xs ++ [z])) hb fun H' g e => by
    rw [ez] at e
    exact ⟨l ++ [k], vs ++ [u], e, keyAs_snoc f1 h4, by simp [h5], (h6.mono g).app (.cons (rz.mono g) .nil)⟩
  refine ⟨p, _, rfl, DPut.k h3 ?_, g, s2⟩
  rw [List.length_zip, ← h5, Nat.min_self, hl, sizeLine_eq]; omega
theorem S_dset {o i e : Expr} {a b d : CE} {tp pos : Pos} (hu : X.A.units + 64 < cLine) (hp : plainE i = true) (he : PE X e (tE X.K X.mg c W d)) (ho : PE X o (tE X.K X.mg c W a)) (hi : PE X i (tE X.K X.mg c W b)) : PS X (.Assign [.Subscript o i tp] e pos) (tS X.K X.mg c W (.dset a b d)) :=
  PS_imp (ps_asg he (pg_sub ho hi (set_dict (by omega)) (by intro v; cases i <;> first | rfl | cases hp)) sw_sub st_sub rfl) fun D σ H ⟨m, F, S, ρ, s, r, h⟩ => by
    rw [execS] at h
    refine ⟨m, F, S, ρ, s, r, h.bd.imp fun x S1 m1 H1 g1 s1 h1 v rv => ?_⟩
    refine ⟨m1, F, S1, ρ, s1, r.mono g1, h1.bd.imp fun y S2 m2 H2 g2 s2 h2 u ru => ?_⟩
    refine ⟨m2, F, S2, ρ, s2, (r.mono g1).mono g2, h2.bd.imp fun z S3 m3 H3 g3 s3 h3 w rw' => ?_⟩
    cases hb : dsetD S3 y z x with
    | none => rw [hb] at h3; exact h3.elim
    | some S4 =>
      rw [hb] at h3
      obtain ⟨p, H4, rfl, dp, g4, s4⟩ := dset_go s3 (ru.mono g3) rw' ((rv.mono g2).mono g3) hb
      exact ⟨p, _, rfl, dp, h3 m3 _ g4 s4 σ ((((r.mono g1).mono g2).mono g3).mono g4)⟩
theorem E_dlit {k v : CE} {ek ev : Expr} {pos : Pos} (hk : PE X ek (tE X.K X.mg c W k)) (hv : PE X ev (tE X.K X.mg c W v)) : PE X (.Dict [some ek] [ev] pos) (tE X.K X.mg c W (.dlit k v)) :=
  PE_imp (pe_disp (pps_cons hk hv pps_nil) rfl rfl (by simp) (by simp)) fun σ H Q ⟨m, F, S, ρ, s, r, h⟩ => by
    rw [evalE] at h
    intro p np
    obtain ⟨g0, s0⟩ := s.pushO (o := .dK []) (ob := .dks [] []) np fun m F H e => ⟨[], [], e, rfl, rfl, .nil⟩
    have r0 := r.mono g0
    have h' := h.grow g0
    refine ⟨m ++ [p], F, _, ρ, s0, r0, h'.bd.imp fun x S1 m1 H1 g1 s1 h1 u ru => ?_⟩
    refine ⟨m1, F, S1, ρ, s1, r0.mono g1, h1.bd.imp fun y S2 m2 H2 g2 s2 h2 w rw' => ?_⟩
    cases hb : dlitD S2 S.length x y with
    | none => rw [hb] at h2; exact h2.elim
    | some S3 =>
      rw [hb] at h2
      unfold dlitD at hb
      split at hb
      · rename_i hc
        obtain ⟨hc, hk1⟩ := hc
        cases hb
        have e0 : (m ++ [p])[S.length]? = some p := by rw [← s.len]; simp
        have ep := g2.at (g1.at e0)
        obtain ⟨l, vs, h3, h4, h5, h6⟩ := s2.obj S.length p _ ep hc
        have l0 : l = [] := by rw [keyAs] at h4; cases h4; rfl
        subst l0
        obtain ⟨kx, f1, rfl⟩ := key1_of (ru.mono g2) hk1
        have ez : putK ([] : List (Key × V)) kx w = [(kx, w)] := rfl
        obtain ⟨g, s3⟩ := s2.putK (o := .dK [(kx, w)]) (ob := .dks [x] [y]) ep fun H' g e => ⟨[kx], [w], e, keyAs_snoc (ks := []) f1 rfl, rfl, .cons (rw'.mono g) .nil⟩
        refine ⟨h3, [(kx, w)], rfl, by simp, ?_⟩
        refine h2 m2 _ g s3 (.ref p) ?_
        rw [Rp]
        exact ⟨p, ep, rfl⟩
      · cases hb
end
end Rf


namespace Rf
open PySem PySem.Spec PyProof.Rows L2

structure Ck where
  N : List Str
  sc : Scope
  fnp : Str → Bool
  fns : List Str
  cons : List Str
def visB (sc : Scope) (x : Str) : Bool := sc.names.lookup x == some .local || sc.names.lookup x == some .cell || sc.names.lookup x == some .free
def locB (sc : Scope) (x : Str) : Bool := sc.names.lookup x == some .local || sc.names.lookup x == some .cell
def celB (sc : Scope) (x : Str) : Bool := sc.names.lookup x == some .cell
def glB (sc : Scope) (x : Str) : Bool := sc.names.lookup x == some .globalImplicit
def okNm (x : Str) : Bool := !(x == ("__debug__" : Str)) && !(x == ("__classdict__" : Str))
def putB (k : Ck) (i : Nat) (x : Str) : Bool := k.N[i]? == some x && (locB k.sc x && (k.fnp x || k.sc.names.lookup x == some .local))
def chkNs (k : Ck) : List Expr → List Nat → Bool
  | [], [] => true
  | .Name x _ :: es, i :: is => putB k i x && chkNs k es is
  | _, _ => false
def chkT (k : Ck) (e : Expr) (t : CT) : Bool :=
  match e, t with
  | .Name x _, .nm i => putB k i x
  | .Tuple es _ _, .tp is => chkNs k es is
  | _, _ => false
def ownT (N : List Str) (t : CT) : List (Str × Nat) := (slotsT t).map fun i => (N.getD i "", i)
def blkB (N : List Str) (sc scope : Scope) (own : List (Str × Nat)) : Bool :=
  scope.kind == .function && (scope.names.all (fun y => scope.names.lookup y.1 == some y.2) && (own.all (fun p => N[p.2]? == some p.1) &&
  (scope.names.all (fun y => !(y.2 == .free) || (sc.names.lookup y.1 == some .cell || sc.names.lookup y.1 == some .free)) &&
  scope.names.all (fun y => !(y.2 == .local || y.2 == .cell) || (own.any (fun p => p.1 == y.1) || !N.contains y.1)))))
def Ck.blk (k : Ck) (scope : Scope) : Ck := ⟨k.N, relS scope k.sc, fun x => scope.names.lookup x == some .cell, k.fns, k.cons⟩

def lcSw (k : Ck) (scope : Scope) (y : Str) (py pos : Pos) : Bool := k.sc.kind == .function && (k.sc.names.lookup y == some .local && (py.line == pos.line && !(scope.names.any fun (n, k) => n == y && (k == .local || k == .cell))))
def isTup : Expr → Bool
  | .Tuple _ _ _ => true
  | _ => false


def revSt : Option Expr → Option Expr → Option Expr → Bool
  | none, none, some (.UnaryOp .USub (.Constant (.int 1) _ _) _) => true
  | _, _, _ => false
theorem revSt_of {lo hi st : Option Expr} (h : revSt lo hi st = true) : lo = none ∧ hi = none ∧ ∃ k p1 p2, st = some (.UnaryOp .USub (.Constant (.int 1) k p1) p2) := by
  unfold revSt at h
  split at h
  · exact ⟨rfl, rfl, _, _, _, rfl⟩
  · cases h

mutual
def chkE : Nat → Ck → Expr → CE → Bool
  | 0, _, _, _ => false
  | n + 1, k, e, ce => match e with
    | .BoolOp op vs p => match vs with
      | [] => false
      | a' :: r => match r with
        | [] => chkE n k a' ce
        | b' :: r' => match op, ce with
          | .And, .and a b => chkE n k a' a && chkE n k (.BoolOp .And (b' :: r') p) b
          | .Or, .or a b => chkE n k a' a && chkE n k (.BoolOp .Or (b' :: r') p) b
          | _, _ => false
    | .Constant cc _ _ => match cc, ce with
      | .none, .non => true
      | .bool b, .bl b' => b == b'
      | .int i, .int j => i == j
      | .str x, .str y => x == y
      | _, _ => false
    | .Name x _ => match ce with
      | .var i => k.N[i]? == some x && (visB k.sc x && okNm x)
      | .con y => x == y && (glB k.sc y && (okNm y && k.cons.contains y))
      | _ => false
    | .BinOp a' op' b' _ => match ce with
      | .bin op a b => op == op' && (chkE n k a' a && chkE n k b' b)
      | .new _ (.cat a b) => .Add == op' && (chkE n k a' a && chkE n k b' b)
      | .new _ (.rep a b) => .Mult == op' && (chkE n k a' a && chkE n k b' b)
      | _ => false
    | .UnaryOp op a' _ => match op, ce with
      | .USub, .neg a => chkE n k a' a
      | .Not, .not a => chkE n k a' a
      | _, _ => false
    | .Compare a' ops cs _ => match ops, cs, ce with
      | [o], [b'], .cmp op a b => op == o && (!behindInMarks op b' && (chkE n k a' a && chkE n k b' b))
      | [o, o'], [b', d'], .chain op op' a b d => op == o && (op' == o' && (!lastMarks [op, op'] [b', d'] && (chkE n k a' a && (chkE n k b' b && chkE n k d' d))))
      | _, _, _ => false
    | .IfExp t' a' b' _ => match ce with
      | .ite t a b => chkE n k t' t && (chkE n k a' a && chkE n k b' b)
      | _ => false
    | .Tuple es _ _ => match ce with
      | .tup as => chkEs n k es as
      | _ => false
    | .List es _ => match ce with
      | .new _ (.disp as) => chkEs n k es as
      | _ => false
    | .Dict ks vs _ => match ce with
      | .dnew => ks.isEmpty && vs.isEmpty
      | .dlit a b => match ks, vs with
        | [some k'], [v'] => chkE n k k' a && chkE n k v' b
        | _, _ => false
      | _ => false
    | .ListComp elt' gs scope _ => match gs, ce with
      | [⟨tg', it', ifs', asy⟩], .new _ (.comp tg it cond elt) => asy == 0 && chkLc n k elt' tg' it' ifs' scope tg it cond elt
      | _, _ => false
    | .Subscript a' i' _ => match i' with
      | .Slice lo' hi' st' _ => match st', ce with
        | none, .slc a lo hi => chkE n k a' a && (chkO n k lo' lo && chkO n k hi' hi)
        | none, .new _ (.slc a lo hi) => chkE n k a' a && (chkO n k lo' lo && chkO n k hi' hi)
        | _, .slr a => revSt lo' hi' st' && chkE n k a' a
        | _, .new _ (.slr a) => revSt lo' hi' st' && chkE n k a' a
        | _, _ => false
      | i' => match ce with
        | .idx a i => plainE i' && (chkE n k a' a && chkE n k i' i)
        | .dat a i => plainE i' && (chkE n k a' a && chkE n k i' i)
        | .dget a es => match i' with
          | .Tuple es' _ _ => chkE n k a' a && chkEs n k es' es
          | _ => false
        | _ => false
    | .Call f' es' kws cpos => match kws, f' with
      | [], .Name x _ => match ce with
        | .call f as => x == f && (glB k.sc f && (okNm f && (k.fns.contains f && chkEs n k es' as)))
        | .bi b as => x == biName b && (biFn b && (glB k.sc (biName b) && (!es'.isEmpty && chkEs n k es' as)))
        | .dof a => match es' with
          | [a'] => x == "dict" && (glB k.sc "dict" && (plainE a' && chkE n k a' a))
          | _ => false
        | .isi a t => match es' with
          | [a', .Name t' _] => x == "isinstance" && (glB k.sc "isinstance" && (t' == tyName t && (tyIn t && (glB k.sc (tyName t) && (plainE a' && chkE n k a' a)))))
          | _ => false
        | .new _ (.list a) => match es' with
          | [a'] => x == "list" && (glB k.sc "list" && (plainE a' && chkE n k a' a))
          | _ => false
        | .new _ (.sset a) => match es' with
          | [.Call (.Name x2 _) [a'] [] _] => x == "sorted" && (x2 == "set" && (glB k.sc "sorted" && (glB k.sc "set" && (plainE a' && chkE n k a' a))))
          | _ => false
        | .new _ (.revl (.list a)) => match es' with
          | [.Call (.Name x2 _) [a'] [] _] => x == "list" && (x2 == "reversed" && (glB k.sc "list" && (glB k.sc "reversed" && (plainE a' && chkE n k a' a))))
          | _ => false
        | _ => false
      | [⟨some kn, .Name fk _, _⟩], .Name x _ => match ce with
        | .new _ (.sortk f a) => match es' with
          | [a'] => kn == Str.ofString "key" && (fk == f && (x == "sorted" && (glB k.sc "sorted" && (glB k.sc f && (okNm f && (k.fns.contains f && (plainE a' && chkE n k a' a)))))))
          | _ => false
        | _ => false
      | [], .Attribute o' m apos => match ce with
        | .met b o as => m == biName b && (!biFn b && (baseOk o' && (apos.endLine == cpos.line && (decide (es'.length < 30) && (!es'.isEmpty && (chkE n k o' o && chkEs n k es' as))))))
        | .mut mu o as => m == muName mu && (baseOk o' && (apos.endLine == cpos.line && (decide (es'.length < 30) && ((muArgs mu == !es'.isEmpty) && (chkE n k o' o && chkEs n k es' as)))))
        | .new _ (.split o a) => match es' with
          | [a'] => m == "split" && (baseOk o' && (apos.endLine == cpos.line && (plainE a' && (chkE n k o' o && chkE n k a' a))))
          | _ => false
        | .lm mu o a => match es' with
          | [a'] => m == lmName mu && (baseOk o' && (apos.endLine == cpos.line && (plainE a' && (chkE n k o' o && chkE n k a' a))))
          | _ => false
        | _ => false
      | _, _ => false
    | _ => false
def chkLc : Nat → Ck → Expr → Expr → Expr → List Expr → Scope → CT → CI → CO → CE → Bool
  | 0, _, _, _, _, _, _, _, _, _, _ => false
  | n + 1, k, elt', tg', it', ifs', scope, tg, it, cond, elt => notSet it' && (chkI n k tg' it' it && (blkB k.N k.sc scope (ownT k.N tg) && (chkT (k.blk scope) tg' tg && (chkC n (k.blk scope) ifs' cond && chkE n (k.blk scope) elt' elt))))
def chkEs : Nat → Ck → List Expr → CEs → Bool
  | 0, _, _, _ => false
  | n + 1, k, es, ces => match es, ces with
    | [], .nil => true
    | e :: es, .cons a as => plainE e && (chkE n k e a && chkEs n k es as)
    | _, _ => false
def chkO : Nat → Ck → Option Expr → CO → Bool
  | 0, _, _, _ => false
  | n + 1, k, e, co => match e, co with
    | none, .non => true
    | some e, .som a => chkE n k e a
    | _, _ => false
def chkC : Nat → Ck → List Expr → CO → Bool
  | 0, _, _, _ => false
  | n + 1, k, es, co => match es, co with
    | [], .non => true
    | [e], .som a => chkE n k e a
    | _, _ => false
def chkI : Nat → Ck → Expr → Expr → CI → Bool
  | 0, _, _, _, _ => false
  | n + 1, k, tg', it', ci => match ci with
    | .seq a => chkE n k it' a
    | .range as => match it' with
      | .Call (.Name x _) es' [] _ => x == "range" && (glB k.sc "range" && (lenEs as == es'.length && (decide (1 ≤ es'.length) && (decide (es'.length ≤ 3) && chkEs n k es' as))))
      | _ => false
    | .zip a b => match it' with
      | .Call (.Name x _) [a', b'] [] _ => x == "zip" && (glB k.sc "zip" && (isTup tg' && (plainE a' && (plainE b' && (chkE n k a' a && chkE n k b' b)))))
      | _ => false
    | .enum a => match it' with
      | .Call (.Name x _) [a'] [] _ => x == "enumerate" && (glB k.sc "enumerate" && (isTup tg' && (plainE a' && chkE n k a' a)))
      | _ => false
    | .rev a => match it' with
      | .Call (.Name x _) [a'] [] _ => x == "reversed" && (glB k.sc "reversed" && (plainE a' && chkE n k a' a))
      | _ => false
end
mutual
def chkS : Nat → Ck → Stmt → CS → Bool
  | 0, _, _, _ => false
  | n + 1, k, st, cs => match cs with
    | .never => true
    | .asg i a => match st with
      | .Assign [.Name x p] e spos => putB k i x && (chkE n k e a && (notComp e || celB k.sc x || match e, a with
        | .ListComp elt' gs scope pos, .new _ (.comp tg it cond elt) => match gs with
          | [⟨tg', it', ifs', asy⟩] => asy == 0 && (lcSw k scope x p pos && chkLc n k elt' tg' it' ifs' scope tg it cond elt)
          | _ => false
        | _, _ => false))
      | _ => false
    | .asgt is a => match st with
      | .Assign [.Tuple es kk tp] e _ => chkT k (.Tuple es kk tp) (.tp is) && (notTup e && chkE n k e a)
      | _ => false
    | .asgl is a => match st with
      | .Assign [.Tuple es kk tp] e _ => chkNs k es is && (notTup e && chkE n k e a)
      | _ => false
    | .asgs o i a => match st with
      | .Assign [.Subscript o' i' _] e _ => plainE i' && (chkE n k e a && (chkE n k o' o && chkE n k i' i))
      | _ => false
    | .dset o i a => match st with
      | .Assign [.Subscript o' i' _] e _ => plainE i' && (chkE n k e a && (chkE n k o' o && chkE n k i' i))
      | _ => false
    | .dput o es a => match st with
      | .Assign [.Subscript o' (.Tuple es' _ _) _] e _ => chkE n k e a && (chkE n k o' o && chkEs n k es' es)
      | _ => false
    | .expr a => match st with
      | .Expr e _ => notComp e && chkE n k e a
      | _ => false
    | .ret a => match st with
      | .Return (some e) _ => chkE n k e a
      | _ => false
    | .retN => match st with
      | .Return none _ => true
      | _ => false
    | .ite t a b => match st with
      | .If e x y _ => chkE n k e t && (chkSs n k x a && chkSs n k y b)
      | _ => false
    | .for_ t it b => match st with
      | .For tg' it' body [] _ => notSet it' && (chkI n k tg' it' it && (chkT k tg' t && chkSs n k body b))
      | _ => false
    | .while_ _ t b => match st with
      | .While e body [] _ => chkE n k e t && chkSs n k body b
      | _ => false
    | .pass => match st with
      | .Pass _ => true
      | _ => false
    | .brk => match st with
      | .Break _ => true
      | _ => false
    | .cont => match st with
      | .Continue _ => true
      | _ => false
def chkSs : Nat → Ck → List Stmt → CSs → Bool
  | 0, _, _, _ => false
  | n + 1, k, sts, css => match sts, css with
    | [], .nil => true
    | st :: sts, .cons a as => chkS n k st a && chkSs n k sts as
    | _, _ => false
end

def bltNames : List Str := ["len", "all", "any", "tuple", "int", "str", "max", "min", "sum", "isinstance", "list", "bool", "range", "zip", "enumerate", "reversed", "sorted", "set", "dict"]
def ConAt (X : Cx) (G : Gam) (x : Str) : Prop := ∃ d v u, List.lookup x G.con = some d ∧ X.mg x = some u ∧ RelV v u ∧ ∀ m F H, Rp X.K m F H d v
structure Cn (CX : CXT) (G : Gam) (n : Nat) (k : Ck) (W : WX) (X : Cx) : Prop where
  N : X.N = k.N
  nd : k.N.Nodup
  sc : X.env.scope = k.sc
  fnp : X.fn = k.fnp
  calm : X.calm = true
  room : Room (2 * n + 1) X.A
  fns : ∀ f ∈ k.fns, FnAt X CX G n f
  con : ∀ x ∈ k.cons, ConAt X G x
  blt : ∀ x ∈ bltNames, X.mg x = none
  pass : ∀ σ, PassesAt CX X σ (WE W σ)
  own : PassesOwn (model X.prog X.w) X.A X.env X.xe
  cxf : ∀ o H s e s', ¬ CX o H s (fun _ _ _ => False) e s'
section
variable {CX : CXT} {G : Gam} {d : Nat} {k : Ck} {W : WX} {X : Cx}
theorem Cn.blk (C : Cn CX G d k W X) (scope : Scope) (s : Shared) (H : Hp) (A : Addr) (cl : List (Str × Addr)) (fp : List Addr) : Cn CX G d (k.blk scope) noW (X.blk s H scope (compEnvC scope cl A X.env) fp) where
  N := C.N
  nd := C.nd
  sc := by
    show relS scope X.env.scope = relS scope k.sc
    rw [C.sc]
  fnp := rfl
  calm := C.calm
  room := C.room
  fns := C.fns
  con := C.con
  blt := C.blt
  pass := fun σ pins H s e s' I c => C.cxf _ _ _ _ _ c
  own := fun e s' h => h.elim
  cxf := C.cxf
theorem Cn.gl (C : Cn CX G d k W X) {x : Str} (h : glB k.sc x = true) : Gl X x := by
  unfold Gl Env.kindOf
  rw [C.sc]
  simpa [glB] using h
theorem Cn.vis (C : Cn CX G d k W X) {x : Str} (h : visB k.sc x = true) : Vis X.env.scope x := by
  rw [C.sc]
  unfold visB at h
  unfold Vis
  simp only [Bool.or_eq_true, beq_iff_eq] at h
  rcases h with (h | h) | h
  · exact .inl h
  · exact .inr (.inl h)
  · exact .inr (.inr h)
theorem Cn.put (C : Cn CX G d k W X) {i : Nat} {x : Str} (h : putB k i x = true) : X.N[i]? = some x ∧ Loc X.env.scope x ∧ (X.fn x = true ∨ X.env.scope.names.lookup x = some .local) := by
  unfold putB locB at h
  simp only [Bool.and_eq_true, Bool.or_eq_true, beq_iff_eq] at h
  rw [C.N, C.sc, C.fnp]
  exact ⟨h.1, h.2.1, h.2.2⟩
theorem okNm_of {x : Str} (h : okNm x = true) : (x == ("__debug__" : Str)) = false ∧ (x == ("__classdict__" : Str)) = false := by
  unfold okNm at h
  simpa only [Bool.and_eq_true, Bool.not_eq_true'] using h
theorem ns_ok (C : Cn CX G d k W X) : ∀ {es : List Expr} {is : List Nat}, chkNs k es is = true → PGs X es (gNs is) ∧ (assignEach es X.env).length = is.length ∧ (assignEach es X.env).findIdx? (·.1) = none
  | [], [], _ => ⟨pgs_nil, rfl, rfl⟩
  | .Name x p :: es, i :: is, h => by
    have h' : putB k i x = true ∧ chkNs k es is = true := by simpa [chkNs] using h
    obtain ⟨h1, h2, h3⟩ := C.put h'.1
    obtain ⟨r1, r2, r3⟩ := ns_ok C h'.2
    refine ⟨pgs_cons (pg_name (by rw [C.N]; exact C.nd) h1 h2 h3) r1 rfl, ?_, ?_⟩
    · show (assignEach es X.env).length + 1 = is.length + 1
      rw [r2]
    · show ((false, assign (.Name x p) X.env) :: assignEach es X.env).findIdx? (·.1) = none
      rw [List.findIdx?_cons, r3]; rfl
theorem T_ok (C : Cn CX G d k W X) {e : Expr} {t : CT} (h : chkT k e t = true) : PG X e (gT X.K t) := by
  unfold chkT at h
  split at h
  · obtain ⟨h1, h2, h3⟩ := C.put h
    exact pg_name (by rw [C.N]; exact C.nd) h1 h2 h3
  · obtain ⟨r1, r2, r3⟩ := ns_ok C h
    exact pg_tup C.calm r1 r2 r3
  · cases h
theorem TL_ok (C : Cn CX G d k W X) {es : List Expr} {kk : Nat} {tp : Pos} {is : List Nat} (h : chkNs k es is = true) : PG X (.Tuple es kk tp) (gLst X.K is.length (gNs is)) := by
  obtain ⟨r1, r2, r3⟩ := ns_ok C h
  exact pg_lst C.calm r1 r2 r3
theorem blk_ok {N : List Str} {sc scope : Scope} {own : List (Str × Nat)} (h : blkB N sc scope own = true) : BlkOk N sc scope own := by
  unfold blkB at h
  simp only [Bool.and_eq_true, List.all_eq_true, beq_iff_eq, Bool.or_eq_true, Bool.not_eq_true', beq_eq_false_iff_ne, List.any_eq_true] at h
  obtain ⟨h1, h2, h3, h4, h5⟩ := h
  refine ⟨h1, h2, h3, fun y hy e => ?_, fun y hy e => ?_⟩
  · rcases h4 y hy with z | z
    · exact absurd e z
    · exact z
  · rcases h5 y hy with z | z | z
    · rcases e with e | e <;> simp [e] at z
    · obtain ⟨p, hp, e⟩ := z
      exact .inl (List.mem_map.mpr ⟨p, hp, e⟩)
    · refine .inr ?_
      simpa using z
end
end Rf



namespace Rf
open PySem PySem.Spec PyProof.Rows L2

def badT : CE → Bool
  | .non | .int _ | .str _ | .con _ | .neg _ | .ite _ _ _ | .tup _ | .mut _ _ _ | .lm _ _ _ | .slr _ | .dnew | .dlit _ _ | .dat _ _ | .dof _ | .new _ _ => true
  | _ => false
def plainT : Expr → Bool
  | .UnaryOp op _ _ => !(op == .Not)
  | .BoolOp _ _ _ | .IfExp _ _ _ _ | .Compare _ _ _ _ => false
  | _ => true
section
variable {CX : CXT} {G : Gam} {d : Nat} {k : Ck} {W : WX} {X : Cx} {c : Cfg}
theorem T_bad {e : Expr} {ce : CE} (h : badT ce = true) : PT X e (tT X.K X.mg c W ce) := ⟨fun pins s σ H Q I ⟨m, F, S, ρ, hs, r, h'⟩ => by
  have e : evalT c ce ρ S = .bad := by cases ce <;> first | rfl | cases h
  rw [e] at h'
  exact h'.elim⟩
theorem isT_plain {e : Expr} {env : PySem.Env} (h : plainT e = true) (whole : Sem Value) : isTrue e env whole = (do let v ← whole; standAt e.pos; holding [v] (truthy v)) := by
  cases e with
  | UnaryOp op _ _ => cases op <;> first | rfl | cases h
  | _ => first | rfl | cases h
theorem T_of {e : Expr} {ce : CE} (h : plainT e = true) (hv : valT ce = true ∨ badT ce = true) (ha : PE X e (tE X.K X.mg c W ce)) : PT X e (tT X.K X.mg c W ce) := by
  rcases hv with hv | hv
  · exact T_val hv (isT_plain h) ha
  · exact T_bad hv
def LcOk (X : Cx) (c : Cfg) (W : WX) (elt' tg' it' : Expr) (ifs' : List Expr) (scope : Scope) (own : List (Str × Nat)) (tg : CT) (it : CI) (cond : CO) (elt : CE) : Prop :=
  PI X tg' it' (tI X.K X.mg c W it) ∧ BlkOk X.N X.env.scope scope own ∧ own.map (·.2) = slotsT tg ∧ (∀ (s : Shared) (H : Hp) (C : Addr) (cl : List (Str × Addr)) (fp : List Addr), PG (X.blk s H scope (compEnvC scope cl C X.env) fp) tg' (gT X.K tg)) ∧
  (∀ (s : Shared) (H : Hp) (C : Addr) (cl : List (Str × Addr)) (fp : List Addr), PTs (X.blk s H scope (compEnvC scope cl C X.env) fp) ifs' (tC X.K X.mg c noW cond)) ∧
  (∀ (s : Shared) (H : Hp) (C : Addr) (cl : List (Str × Addr)) (fp : List Addr), PE (X.blk s H scope (compEnvC scope cl C X.env) fp) elt' (tE X.K X.mg c noW elt)) ∧ ∀ x, foldedSetIterable it' X.env x = pure x
structure Snd (CX : CXT) (G : Gam) (d : Nat) (n : Nat) : Prop where
  E : ∀ {k : Ck} {W : WX} {X : Cx}, Cn CX G d k W X → ∀ {e : Expr} {ce : CE}, chkE n k e ce = true → PE X e (tE X.K X.mg (G.cfg d) W ce)
  T : ∀ {k : Ck} {W : WX} {X : Cx}, Cn CX G d k W X → ∀ {e : Expr} {ce : CE}, chkE n k e ce = true → PT X e (tT X.K X.mg (G.cfg d) W ce)
  B : ∀ {k : Ck} {W : WX} {X : Cx}, Cn CX G d k W X → ∀ {op : BoolOp} {vs : List Expr} {p : Pos} {ce : CE}, chkE n k (.BoolOp op vs p) ce = true → PW X (.BoolOp op vs p) (tT X.K X.mg (G.cfg d) W ce)
  Es : ∀ {k : Ck} {W : WX} {X : Cx}, Cn CX G d k W X → ∀ {es : List Expr} {ces : CEs}, chkEs n k es ces = true → PA X es (tA X.K X.mg (G.cfg d) W ces) ∧ plainEs es = true
  O : ∀ {k : Ck} {W : WX} {X : Cx}, Cn CX G d k W X → ∀ {e : Option Expr} {co : CO}, chkO n k e co = true → PO X e (tO X.K X.mg (G.cfg d) W co)
  C : ∀ {k : Ck} {W : WX} {X : Cx}, Cn CX G d k W X → ∀ {es : List Expr} {co : CO}, chkC n k es co = true → PTs X es (tC X.K X.mg (G.cfg d) W co)
  I : ∀ {k : Ck} {W : WX} {X : Cx}, Cn CX G d k W X → ∀ {tg' it' : Expr} {ci : CI}, chkI n k tg' it' ci = true → PI X tg' it' (tI X.K X.mg (G.cfg d) W ci)
  Lc : ∀ {k : Ck} {W : WX} {X : Cx}, Cn CX G d k W X → ∀ {elt' tg' it' : Expr} {ifs' : List Expr} {scope : Scope} {tg : CT} {it : CI} {cond : CO} {elt : CE}, chkLc n k elt' tg' it' ifs' scope tg it cond elt = true →
    LcOk X (G.cfg d) W elt' tg' it' ifs' scope (ownT k.N tg) tg it cond elt
theorem own_map (N : List Str) (t : CT) : (ownT N t).map (·.2) = slotsT t := by
  unfold ownT
  rw [List.map_map]
  exact (List.map_congr_left fun i _ => rfl).trans (List.map_id _)
theorem snd_Lc {n : Nat} (I : Snd CX G d n) (C : Cn CX G d k W X) {elt' tg' it' : Expr} {ifs' : List Expr} {scope : Scope} {tg : CT} {it : CI} {cond : CO} {elt : CE} (h : chkLc (n + 1) k elt' tg' it' ifs' scope tg it cond elt = true) :
    LcOk X (G.cfg d) W elt' tg' it' ifs' scope (ownT k.N tg) tg it cond elt := by
  unfold chkLc at h
  simp only [Bool.and_eq_true] at h
  obtain ⟨h1, h2, h3, h4, h5, h6⟩ := h
  refine ⟨I.I C h2, by rw [C.N, C.sc]; exact blk_ok h3, own_map _ _, fun s H A cl fp => T_ok (C.blk scope s H A cl fp) h4, fun s H A cl fp => I.C (C.blk scope s H A cl fp) h5, fun s H A cl fp => I.E (C.blk scope s H A cl fp) h6, set_not h1⟩
theorem snd_I {n : Nat} (I : Snd CX G d n) (C : Cn CX G d k W X) {tg' it' : Expr} {ci : CI} (h : chkI (n + 1) k tg' it' ci = true) : PI X tg' it' (tI X.K X.mg (G.cfg d) W ci) := by
  unfold chkI at h
  cases ci with
  | seq a => exact I_seq (I.E C h)
  | range as =>
    dsimp only at h
    split at h
    · rename_i x p es' p2
      simp only [Bool.and_eq_true, beq_iff_eq, decide_eq_true_eq] at h
      obtain ⟨rfl, hg, hl, l1, l2, he⟩ := h
      obtain ⟨ha, hp⟩ := I.Es C he
      have gm : X.mg "range" = none := C.blt _ (by decide)
      match es', hl, l1, l2, ha, hp with
      | [], _, l1, _, _, _ => simp at l1
      | [e1], hl, _, _, ha, hp => exact I_range1 hl (C.gl hg) gm (plain_tail hp).1 ha
      | [e1, e2], hl, _, _, ha, hp => exact I_range2 hl (C.gl hg) gm (plain_tail hp).1 (plain_tail (plain_tail hp).2).1 ha
      | [e1, e2, e3], hl, _, _, ha, hp => exact I_range3 hl (C.gl hg) gm (plain_tail hp).1 (plain_tail hp).2 ha
      | _ :: _ :: _ :: _ :: _, _, _, l2, _, _ => simp at l2
    · cases h
  | zip a b =>
    dsimp only at h
    split at h
    · rename_i x p e1 e2 p2
      simp only [Bool.and_eq_true, beq_iff_eq] at h
      obtain ⟨rfl, hg, ht, p1, p2, ha, hb⟩ := h
      have gm : X.mg "zip" = none := C.blt _ (by decide)
      cases tg' with
      | Tuple es kk tp => exact I_zip (C.gl hg) gm p1 (by simp [plainEs, p2]) (A_cons p1 (I.E C ha) (A_cons p2 (I.E C hb) A_nil))
      | _ => cases ht
    · cases h
  | enum a =>
    dsimp only at h
    split at h
    · rename_i x p e1 p2
      simp only [Bool.and_eq_true, beq_iff_eq] at h
      obtain ⟨rfl, hg, ht, p1, ha⟩ := h
      have gm : X.mg "enumerate" = none := C.blt _ (by decide)
      cases tg' with
      | Tuple es kk tp => exact I_enum (C.gl hg) gm p1 (A_cons p1 (I.E C ha) A_nil)
      | _ => cases ht
    · cases h
  | rev a =>
    dsimp only at h
    split at h
    · rename_i x p e1 p2
      simp only [Bool.and_eq_true, beq_iff_eq] at h
      obtain ⟨rfl, hg, p1, ha⟩ := h
      have gm : X.mg "reversed" = none := C.blt _ (by decide)
      exact I_rev (C.gl hg) gm p1 (A_cons p1 (I.E C ha) A_nil)
    · cases h
theorem ty_blt {t : String} (h : tyIn t = true) : tyName t ∈ bltNames := by
  have tc : t = "bool" ∨ t = "int" ∨ t = "str" ∨ t = "tuple" ∨ t = "list" := by simpa [tyIn] using h
  rcases tc with rfl | rfl | rfl | rfl | rfl <;> decide
theorem snd_E {n : Nat} (I : Snd CX G d n) (C : Cn CX G d k W X) {e : Expr} {ce : CE} (h : chkE (n + 1) k e ce = true) : PE X e (tE X.K X.mg (G.cfg d) W ce) := by
  unfold chkE at h
  cases e with
  | BoolOp op vs p =>
    dsimp only at h
    split at h
    · cases h
    · split at h
      · exact pe_one (I.E C h)
      · split at h
        · simp only [Bool.and_eq_true] at h
          exact E_and (I.E C h.1) (I.E C h.2)
        · simp only [Bool.and_eq_true] at h
          exact E_or (I.E C h.1) (I.E C h.2)
        · cases h
  | Constant cc kk p =>
    dsimp only at h
    split at h
    · exact E_non
    · obtain rfl := beq_iff_eq.mp h; exact E_bl
    · obtain rfl := beq_iff_eq.mp h; exact E_int
    · obtain rfl := beq_iff_eq.mp h; exact E_str
    · cases h
  | Name x p =>
    dsimp only at h
    split at h
    · simp only [Bool.and_eq_true, beq_iff_eq] at h
      obtain ⟨h1, h2, h3⟩ := h
      obtain ⟨k1, k2⟩ := okNm_of h3
      exact E_var (by rw [C.N]; exact h1) (C.vis h2) k1 k2
    · simp only [Bool.and_eq_true, beq_iff_eq] at h
      obtain ⟨rfl, h2, h3, h4⟩ := h
      obtain ⟨k1, k2⟩ := okNm_of h3
      obtain ⟨dd, v, u, e1, e2, r, hh⟩ := C.con x (by simpa using h4)
      refine PE_imp (pe_glob (C.gl h2) e2 r k1) fun σ H Q ⟨m, F, S, ρ, s, rr, h⟩ => ?_
      rw [evalE] at h
      have e3 : (G.cfg d).con x = some dd := e1
      rw [e3] at h
      exact h.ok s v (hh m F H)
    · cases h
  | BinOp a' op' b' p =>
    dsimp only at h
    split at h
    · simp only [Bool.and_eq_true, beq_iff_eq] at h
      obtain ⟨rfl, h1, h2⟩ := h
      exact E_bin (I.E C h1) (I.E C h2)
    · simp only [Bool.and_eq_true, beq_iff_eq] at h
      obtain ⟨rfl, h1, h2⟩ := h
      exact E_new (L_cat (I.E C h1) (I.E C h2))
    · simp only [Bool.and_eq_true, beq_iff_eq] at h
      obtain ⟨rfl, h1, h2⟩ := h
      exact E_new (L_rep (I.E C h1) (I.E C h2))
    · cases h
  | UnaryOp op a' p =>
    dsimp only at h
    split at h
    · exact E_neg (I.E C h)
    · exact E_not (I.E C h)
    · cases h
  | Compare a' ops cs p =>
    dsimp only at h
    split at h
    · simp only [Bool.and_eq_true, beq_iff_eq, Bool.not_eq_true'] at h
      obtain ⟨rfl, hm, h1, h2⟩ := h
      exact E_cmp C.room.units (I.E C h1) (I.E C h2) hm
    · simp only [Bool.and_eq_true, beq_iff_eq, Bool.not_eq_true'] at h
      obtain ⟨rfl, rfl, hm, h1, h2, h3⟩ := h
      exact E_chain C.room.units (I.E C h1) (I.E C h2) (I.E C h3) hm
    · cases h
  | IfExp t' a' b' p =>
    dsimp only at h
    split at h
    · simp only [Bool.and_eq_true] at h
      exact E_ite (I.T C h.1) (I.E C h.2.1) (I.E C h.2.2)
    · cases h
  | Tuple es kk p =>
    dsimp only at h
    split at h
    · exact E_tup (I.Es C h).1
    · cases h
  | List es p =>
    dsimp only at h
    split at h
    · exact E_new (L_disp (I.Es C h).1)
    · cases h
  | Dict ks vs p =>
    dsimp only at h
    split at h
    · rw [Bool.and_eq_true, List.isEmpty_iff, List.isEmpty_iff] at h
      obtain ⟨rfl, rfl⟩ := h
      exact E_dnew
    · split at h
      · rw [Bool.and_eq_true] at h
        exact E_dlit (I.E C h.1) (I.E C h.2)
      · cases h
    · cases h
  | ListComp elt' gs scope p =>
    dsimp only at h
    split at h
    · simp only [Bool.and_eq_true, beq_iff_eq] at h
      obtain ⟨rfl, h⟩ := h
      obtain ⟨h1, h2, h3, h4, h5, h6, h7⟩ := I.Lc C h
      exact E_new (L_comp C.calm (by rw [C.N]; exact C.nd) h1 h2 h3 h4 h5 h6 h7)
    · cases h
  | Subscript a' i' p =>
    dsimp only at h
    split at h
    · split at h
      · simp only [Bool.and_eq_true] at h
        exact E_slc (I.E C h.1) (I.O C h.2.1) (I.O C h.2.2)
      · simp only [Bool.and_eq_true] at h
        exact E_new (L_slc (I.E C h.1) (I.O C h.2.1) (I.O C h.2.2))
      · simp only [Bool.and_eq_true] at h
        obtain ⟨rfl, rfl, k1, p1, p2, rfl⟩ := revSt_of h.1
        exact E_slr (I.E C h.2)
      · simp only [Bool.and_eq_true] at h
        obtain ⟨rfl, rfl, k1, p1, p2, rfl⟩ := revSt_of h.1
        exact E_new (L_slr (I.E C h.2))
      · cases h
    · split at h
      · simp only [Bool.and_eq_true] at h
        exact E_idx h.1 (I.E C h.2.1) (I.E C h.2.2)
      · simp only [Bool.and_eq_true] at h
        exact E_dat C.room.units h.1 (I.E C h.2.1) (I.E C h.2.2)
      · split at h
        · simp only [Bool.and_eq_true] at h
          exact E_dget C.room.units (I.E C h.1) (I.Es C h.2).1
        · cases h
      · cases h
  | Call f' es' kws cpos =>
    dsimp only at h
    split at h
    · split at h
      · rename_i f as
        simp only [Bool.and_eq_true, beq_iff_eq] at h
        obtain ⟨rfl, h1, h2, h3, h4⟩ := h
        obtain ⟨ha, hp⟩ := I.Es C h4
        have hF := C.fns _ (by simpa using h3)
        cases es' with
        | nil =>
          cases as with
          | nil => exact E_call0 hF (C.room.mono (Nat.le_succ _)) (C.gl h1) C.pass (okNm_of h2).1
          | cons a as => cases n <;> simp [chkEs] at h4
        | cons e1 es => exact E_call hF (C.room.mono (Nat.le_succ _)) (C.gl h1) C.pass (okNm_of h2).1 hp ha
      · rename_i b as
        simp only [Bool.and_eq_true, beq_iff_eq] at h
        obtain ⟨rfl, h1, h2, h3, h4⟩ := h
        obtain ⟨ha, hp⟩ := I.Es C h4
        cases es' with
        | nil => simp at h3
        | cons e1 es => exact E_bi C.calm C.room.units h1 (C.gl h2) (C.blt _ (by cases b <;> first | decide | cases h1)) hp ha
      · split at h
        · simp only [Bool.and_eq_true, beq_iff_eq] at h
          obtain ⟨rfl, h1, h2, h3⟩ := h
          exact E_dof C.calm (C.gl h1) (C.blt _ (by decide)) h2 (A_cons h2 (I.E C h3) A_nil)
        · cases h
      · split at h
        · simp only [Bool.and_eq_true, beq_iff_eq] at h
          obtain ⟨rfl, h1, rfl, h3, h4, h5, h6⟩ := h
          exact E_isi h3 (C.gl h1) (C.blt _ (by decide)) (C.gl h4) (C.blt _ (ty_blt h3)) h5 (I.E C h6)
        · cases h
      · split at h
        · simp only [Bool.and_eq_true, beq_iff_eq] at h
          obtain ⟨rfl, h1, h2, h3⟩ := h
          exact E_new (L_list (C.gl h1) (C.blt _ (by decide)) h2 (I.E C h3))
        · cases h
      · split at h
        · simp only [Bool.and_eq_true, beq_iff_eq] at h
          obtain ⟨rfl, rfl, h1, h2, h3, h4⟩ := h
          exact E_new (L_sset C.calm (C.gl h1) (C.blt _ (by decide)) (C.gl h2) (C.blt _ (by decide)) h3 (I.E C h4))
        · cases h
      · split at h
        · simp only [Bool.and_eq_true, beq_iff_eq] at h
          obtain ⟨rfl, rfl, h1, h2, h3, h4⟩ := h
          exact E_new (L_listRev C.calm (C.gl h1) (C.blt _ (by decide)) (C.gl h2) (C.blt _ (by decide)) h3 (I.E C h4))
        · cases h
      · cases h
    · split at h
      · split at h
        · simp only [Bool.and_eq_true, beq_iff_eq] at h
          obtain ⟨rfl, rfl, rfl, h1, h2, h3, h4, h5, h6⟩ := h
          exact E_new (L_sortk (C.fns _ (by simpa using h4)) C.room (C.gl h1) (C.blt _ (by decide)) (C.gl h2) (okNm_of h3).1 C.cxf h5 (I.E C h6))
        · cases h
      · cases h
    · split at h
      · rename_i b o as
        simp only [Bool.and_eq_true, beq_iff_eq, decide_eq_true_eq, Bool.not_eq_true'] at h
        obtain ⟨rfl, h1, h2, h3, h4, h5, h6, h7⟩ := h
        obtain ⟨ha, hp⟩ := I.Es C h7
        cases es' with
        | nil => simp at h5
        | cons e1 es => exact E_met h1 (I.E C h6) h2 (by simpa using h3) hp h4 ha
      · rename_i mu o as
        simp only [Bool.and_eq_true, beq_iff_eq, decide_eq_true_eq] at h
        obtain ⟨rfl, h2, h3, h4, h5, h6, h7⟩ := h
        obtain ⟨ha, hp⟩ := I.Es C h7
        cases es' with
        | nil =>
          cases as with
          | nil => exact E_mut0 (by simpa using h5) (I.E C h6) h2 (by simpa using h3)
          | cons a as => cases n <;> simp [chkEs] at h7
        | cons e1 es => exact E_mut (by simpa using h5) (I.E C h6) h2 (by simpa using h3) hp h4 ha
      · split at h
        · simp only [Bool.and_eq_true, beq_iff_eq] at h
          obtain ⟨rfl, h2, h3, h4, h5, h6⟩ := h
          exact E_new (L_split (I.E C h5) h2 (by simpa using h3) h4 (I.E C h6))
        · cases h
      · split at h
        · simp only [Bool.and_eq_true, beq_iff_eq] at h
          obtain ⟨rfl, h2, h3, h4, h5, h6⟩ := h
          exact E_lm C.room.units (I.E C h5) h2 (by simpa using h3) h4 (I.E C h6)
        · cases h
      · cases h
    · cases h
  | _ => cases h
theorem snd_B {n : Nat} (I : Snd CX G d n) (C : Cn CX G d k W X) {op : BoolOp} {vs : List Expr} {p : Pos} {ce : CE} (h : chkE (n + 1) k (.BoolOp op vs p) ce = true) : PW X (.BoolOp op vs p) (tT X.K X.mg (G.cfg d) W ce) := by
  unfold chkE at h
  dsimp only at h
  split at h
  · cases h
  · split at h
    · cases op
      · exact pw_and1 (I.T C h)
      · exact pw_or1 (I.T C h)
    · split at h
      · simp only [Bool.and_eq_true] at h
        exact W_and (I.T C h.1) (I.B C h.2)
      · simp only [Bool.and_eq_true] at h
        exact W_or (I.T C h.1) (I.B C h.2)
      · cases h
theorem snd_T {n : Nat} (I : Snd CX G d n) (C : Cn CX G d k W X) {e : Expr} {ce : CE} (h : chkE (n + 1) k e ce = true) : PT X e (tT X.K X.mg (G.cfg d) W ce) := by
  have hE := snd_E I C h
  have h0 := h
  unfold chkE at h
  cases e with
  | BoolOp op vs p => exact (snd_B I C h0).pt
  | Constant cc kk p =>
    dsimp only at h
    split at h
    · exact T_bad rfl
    · exact T_of rfl (.inl rfl) hE
    · exact T_bad rfl
    · exact T_bad rfl
    · cases h
  | Name x p =>
    dsimp only at h
    split at h
    · exact T_of rfl (.inl rfl) hE
    · exact T_bad rfl
    · cases h
  | BinOp a' op' b' p =>
    dsimp only at h
    split at h
    · exact T_of rfl (.inl rfl) hE
    · exact T_bad rfl
    · exact T_bad rfl
    · cases h
  | UnaryOp op a' p =>
    dsimp only at h
    split at h
    · exact T_bad rfl
    · exact T_not (I.T C h)
    · cases h
  | Compare a' ops cs p =>
    dsimp only at h
    split at h
    · simp only [Bool.and_eq_true, beq_iff_eq, Bool.not_eq_true'] at h
      obtain ⟨rfl, hm, h1, h2⟩ := h
      exact T_cmp C.room.units (I.E C h1) (I.E C h2) hm
    · simp only [Bool.and_eq_true, beq_iff_eq, Bool.not_eq_true'] at h
      obtain ⟨rfl, rfl, hm, h1, h2, h3⟩ := h
      exact T_chain C.room.units (I.E C h1) (I.E C h2) (I.E C h3) hm
    · cases h
  | IfExp t' a' b' p =>
    dsimp only at h
    split at h
    · exact T_bad rfl
    · cases h
  | Tuple es kk p =>
    dsimp only at h
    split at h
    · exact T_bad rfl
    · cases h
  | List es p =>
    dsimp only at h
    split at h
    · exact T_bad rfl
    · cases h
  | Dict ks vs p =>
    dsimp only at h
    split at h
    · exact T_bad rfl
    · exact T_bad rfl
    · cases h
  | ListComp elt' gs scope p =>
    dsimp only at h
    split at h
    · exact T_bad rfl
    · cases h
  | Subscript a' i' p =>
    dsimp only at h
    split at h
    · split at h
      · exact T_of rfl (.inl rfl) hE
      · exact T_bad rfl
      · exact T_bad rfl
      · exact T_bad rfl
      · cases h
    · split at h
      · exact T_of rfl (.inl rfl) hE
      · exact T_bad rfl
      · exact T_of rfl (.inl rfl) hE
      · cases h
  | Call f' es' kws cpos =>
    dsimp only at h
    split at h
    · split at h
      · exact T_of rfl (.inl rfl) hE
      · exact T_of rfl (.inl rfl) hE
      · exact T_bad rfl
      · exact T_of rfl (.inl rfl) hE
      · exact T_bad rfl
      · exact T_bad rfl
      · exact T_bad rfl
      · cases h
    · split at h
      · exact T_bad rfl
      · cases h
    · split at h
      · exact T_of rfl (.inl rfl) hE
      · exact T_bad rfl
      · exact T_bad rfl
      · exact T_bad rfl
      · cases h
    · cases h
  | _ => cases h
theorem snd_Es {n : Nat} (I : Snd CX G d n) (C : Cn CX G d k W X) {es : List Expr} {ces : CEs} (h : chkEs (n + 1) k es ces = true) : PA X es (tA X.K X.mg (G.cfg d) W ces) ∧ plainEs es = true := by
  unfold chkEs at h
  split at h
  · exact ⟨A_nil, rfl⟩
  · simp only [Bool.and_eq_true] at h
    obtain ⟨ha, hp⟩ := I.Es C h.2.2
    exact ⟨A_cons h.1 (I.E C h.2.1) ha, by simp [plainEs, h.1]; simpa [plainEs] using hp⟩
  · cases h
theorem snd_O {n : Nat} (I : Snd CX G d n) (C : Cn CX G d k W X) {e : Option Expr} {co : CO} (h : chkO (n + 1) k e co = true) : PO X e (tO X.K X.mg (G.cfg d) W co) := by
  unfold chkO at h
  split at h
  · exact O_non
  · exact O_som (I.E C h)
  · cases h
theorem snd_C {n : Nat} (I : Snd CX G d n) (C : Cn CX G d k W X) {es : List Expr} {co : CO} (h : chkC (n + 1) k es co = true) : PTs X es (tC X.K X.mg (G.cfg d) W co) := by
  unfold chkC at h
  split at h
  · exact C_non
  · exact C_som (I.T C h)
  · cases h
theorem snd0 : Snd CX G d 0 := by
  constructor
  all_goals intros
  all_goals rename_i h
  · unfold chkE at h; cases h
  · unfold chkE at h; cases h
  · unfold chkE at h; cases h
  · unfold chkEs at h; cases h
  · unfold chkO at h; cases h
  · unfold chkC at h; cases h
  · unfold chkI at h; cases h
  · unfold chkLc at h; cases h
theorem snd (n : Nat) : Snd CX G d n := by
  induction n with
  | zero => exact snd0
  | succ n I =>
    constructor
    all_goals intros
    · exact snd_E I (by assumption) (by assumption)
    · exact snd_T I (by assumption) (by assumption)
    · exact snd_B I (by assumption) (by assumption)
    · exact snd_Es I (by assumption) (by assumption)
    · exact snd_O I (by assumption) (by assumption)
    · exact snd_C I (by assumption) (by assumption)
    · exact snd_I I (by assumption) (by assumption)
    · exact snd_Lc I (by assumption) (by assumption)
theorem sw_cell {e : Expr} {y : Str} {py : Pos} {l : Nat} {env : PySem.Env} (h : env.scope.names.lookup y = some .cell) : swapsWith e (some (.Name y py)) l env = pure false := by
  have k : (env.kindOf y == some .local) = false := by
    show (env.scope.names.lookup y == some .local) = false
    rw [h]; rfl
  cases e
  case ListComp elt gs scope pos =>
    show (pure (env.blockKind == .function && env.kindOf y == some .local && py.line == pos.line && !(scope.names.any fun (n, k) => n == y && (k == .local || k == .cell))) : Sem Bool) = _
    rw [k]; simp
  case SetComp elt gs scope pos =>
    show (pure (env.blockKind == .function && env.kindOf y == some .local && py.line == pos.line && !(scope.names.any fun (n, k) => n == y && (k == .local || k == .cell))) : Sem Bool) = _
    rw [k]; simp
  case DictComp a elt gs scope pos =>
    show (pure (env.blockKind == .function && env.kindOf y == some .local && py.line == pos.line && !(scope.names.any fun (n, k) => n == y && (k == .local || k == .cell))) : Sem Bool) = _
    rw [k]; simp
  all_goals rfl
theorem lcSw_ok (C : Cn CX G d k W X) {elt : Expr} {gs : List Comprehension} {scope : Scope} {y : Str} {py pos : Pos} {l : Nat} (h : lcSw k scope y py pos = true) : swapsWith (.ListComp elt gs scope pos) (some (.Name y py)) l X.env = pure true ∧ X.env.scope.names.lookup y = some .local := by
  unfold lcSw at h
  simp only [Bool.and_eq_true, beq_iff_eq, Bool.not_eq_true'] at h
  obtain ⟨h1, h2, h3, h4⟩ := h
  refine ⟨sw_true (by rw [C.sc]; exact h1) (by rw [C.sc]; exact h2) (by simpa using h3) ?_, by rw [C.sc]; exact h2⟩
  simpa using h4
mutual
theorem snd_S : ∀ (n : Nat) {k : Ck} {W : WX} {X : Cx}, Cn CX G d k W X → ∀ {st : Stmt} {cs : CS}, chkS n k st cs = true → PS X st (tS X.K X.mg (G.cfg d) W cs)
  | 0, k, W, X, C, st, cs, h => by cases h
  | n + 1, k, W, X, C, st, cs, h => by
    unfold chkS at h
    have I : Snd CX G d n := snd n
    cases cs with
    | never => exact S_never
    | asg i a =>
      dsimp only at h
      split at h
      · rename_i x p e spos
        simp only [Bool.and_eq_true] at h
        obtain ⟨h1, h2, h3⟩ := h
        obtain ⟨k1, k2, k3⟩ := C.put h1
        have nd : X.N.Nodup := by rw [C.N]; exact C.nd
        cases hn : notComp e with
        | true => exact S_asg nd k1 k2 k3 (sw_not hn) (I.E C h2)
        | false =>
          rw [hn, Bool.false_or] at h3
          cases hc : celB k.sc x with
          | true => exact S_asg nd k1 k2 k3 (sw_cell (by rw [C.sc]; exact beq_iff_eq.mp hc)) (I.E C h2)
          | false =>
          rw [hc, Bool.false_or] at h3
          split at h3
          · split at h3
            · simp only [Bool.and_eq_true, beq_iff_eq] at h3
              obtain ⟨rfl, h4, h5⟩ := h3
              obtain ⟨l1, l2, l3, l4, l5, l6, l7⟩ := I.Lc C h5
              obtain ⟨sw, loc⟩ := lcSw_ok C h4
              exact S_asgLc C.calm nd k1 loc sw l1 l2 l3 l4 l5 l6 l7
            · cases h3
          · cases h3
      · cases h
    | asgt is a =>
      dsimp only at h
      split at h
      · simp only [Bool.and_eq_true] at h
        exact S_asgt (T_ok C h.1) h.2.1 (I.E C h.2.2)
      · cases h
    | asgl is a =>
      dsimp only at h
      split at h
      · simp only [Bool.and_eq_true] at h
        exact S_asgl (TL_ok C h.1) h.2.1 (I.E C h.2.2)
      · cases h
    | asgs o i a =>
      dsimp only at h
      split at h
      · simp only [Bool.and_eq_true] at h
        exact S_asgs h.1 (I.E C h.2.1) (I.E C h.2.2.1) (I.E C h.2.2.2)
      · cases h
    | dset o i a =>
      dsimp only at h
      split at h
      · simp only [Bool.and_eq_true] at h
        exact S_dset C.room.units h.1 (I.E C h.2.1) (I.E C h.2.2.1) (I.E C h.2.2.2)
      · cases h
    | dput o es a =>
      dsimp only at h
      split at h
      · simp only [Bool.and_eq_true] at h
        exact S_dput C.room.units (I.E C h.1) (I.E C h.2.1) (I.Es C h.2.2).1
      · cases h
    | expr a =>
      dsimp only at h
      split at h
      · simp only [Bool.and_eq_true] at h
        exact S_expr h.1 (I.E C h.2)
      · cases h
    | ret a =>
      dsimp only at h
      split at h
      · exact S_ret (I.E C h)
      · cases h
    | retN =>
      dsimp only at h
      split at h
      · exact S_retN
      · cases h
    | ite t a b =>
      dsimp only at h
      split at h
      · simp only [Bool.and_eq_true] at h
        exact S_ite (I.T C h.1) (snd_Ss n C h.2.1) (snd_Ss n C h.2.2)
      · cases h
    | for_ t it b =>
      dsimp only at h
      split at h
      · simp only [Bool.and_eq_true] at h
        exact S_for C.own C.calm (I.I C h.2.1) (T_ok C h.2.2.1) (snd_Ss n C h.2.2.2) h.1
      · cases h
    | while_ kk t b =>
      dsimp only at h
      split at h
      · simp only [Bool.and_eq_true] at h
        exact S_while C.own (I.T C h.1) (snd_Ss n C h.2)
      · cases h
    | pass =>
      dsimp only at h
      split at h
      · exact S_pass
      · cases h
    | brk =>
      dsimp only at h
      split at h
      · exact S_brk
      · cases h
    | cont =>
      dsimp only at h
      split at h
      · exact S_cont
      · cases h
theorem snd_Ss : ∀ (n : Nat) {k : Ck} {W : WX} {X : Cx}, Cn CX G d k W X → ∀ {sts : List Stmt} {css : CSs}, chkSs n k sts css = true → PSs X sts (tSs X.K X.mg (G.cfg d) W css)
  | 0, k, W, X, C, st, cs, h => by cases h
  | n + 1, k, W, X, C, st, cs, h => by
    unfold chkSs at h
    split at h
    · exact Ss_nil
    · simp only [Bool.and_eq_true] at h
      exact Ss_cons (snd_S n C h.1) (snd_Ss n C h.2)
    · cases h
end
end
end Rf


namespace Rf
open PySem PySem.Spec PyProof.Rows L2

section
variable {K : PySem.W.Frag} {mg : Str → Option Value} {m m' : List Addr} {F : Addr → Prop} {S S' : Store} {H H' : Hp}
mutual
theorem rp_back (g : Grow m H m' H') : ∀ (d : D) (v0 v : V), Rp K m F H d v0 → Rp K m' F H' d v → Rp K m F H' d v
  | .non, _, v, _, h => by rw [Rp] at h ⊢; exact h
  | .bl b, _, v, _, h => by rw [Rp] at h ⊢; exact h
  | .int b, _, v, _, h => by rw [Rp] at h ⊢; exact h
  | .str b, _, v, _, h => by rw [Rp] at h ⊢; exact h
  | .fro ns, _, v, _, h => by rw [Rp] at h ⊢; exact h
  | .tup xs, v0, v, h0, h => by
    rw [Rp] at h0
    rw [Rp] at h ⊢
    obtain ⟨a, vs, e, h1, h2⟩ := h
    obtain ⟨_, vs0, _, _, h3⟩ := h0
    exact ⟨a, vs, e, h1, rps_back g xs vs0 vs h3 h2⟩
  | .lst xs, v0, v, h0, h => by
    rw [Rp] at h0
    rw [Rp] at h ⊢
    obtain ⟨a, vs, e, h1, nm, nf, h2⟩ := h
    obtain ⟨_, vs0, _, _, _, _, h3⟩ := h0
    exact ⟨a, vs, e, h1, fun z => nm (g.sub a z), nf, rps_back g xs vs0 vs h3 h2⟩
  | .ref n, v0, v, h0, h => by
    rw [Rp] at h0
    rw [Rp] at h ⊢
    obtain ⟨a, h1, rfl⟩ := h
    obtain ⟨a0, h2, _⟩ := h0
    have := g.at h2
    rw [h1] at this; cases this
    exact ⟨a, h2, rfl⟩
theorem rps_back (g : Grow m H m' H') : ∀ (ds : List D) (v0 v : List V), Rps K m F H ds v0 → Rps K m' F H' ds v → Rps K m F H' ds v
  | [], _, v, _, h => by rw [Rps] at h ⊢; exact h
  | d :: ds, v0, v, h0, h => by
    rw [Rps] at h0
    rw [Rps] at h ⊢
    obtain ⟨x, r, e, h1, h2⟩ := h
    obtain ⟨x0, r0, _, h3, h4⟩ := h0
    exact ⟨x, r, e, rp_back g d x0 x h3 h1, rps_back g ds r0 r h4 h2⟩
end
theorem fzr_np {S' : Store} {k : Nat} : ∀ (j n : Nat) (d : D), fzr S' k j n = some d → D.objS d = true
  | 0, n, d, e => by rw [fzr] at e; cases e
  | j + 1, n, d, e => by
    rw [fzr] at e
    split at e
    · cases e; rfl
    · split at e
      · obtain ⟨ys, _, rfl⟩ := Option.map_eq_some_iff.mp e
        rfl
      · cases e
theorem old_np {k : Nat} : ∀ (n : Nat) (d : D), oldR k n = some d → D.objS d = true := fun n d e => by
  unfold oldR at e
  split at e
  · cases e; rfl
  · cases e
theorem pair_mapR {f : Nat → Option D} (hp : ∀ n d, f n = some d → D.objS d = true) {d d' : D} (e : D.mapR f d = some d') (h : D.pairS d' = true) : D.pairS d = true := by
  cases d with
  | ref n =>
    rw [D.mapR] at e
    have := hp n d' e
    cases d' <;> first | (cases this; done) | (cases h; done)
  | tup xs =>
    rw [D.mapR] at e
    obtain ⟨ys, z, rfl⟩ := Option.map_eq_some_iff.mp e
    match xs, z with
    | [], z => rw [D.mapRs] at z; cases z; cases h
    | x :: r, z =>
      rw [D.mapRs] at z
      split at z
      · rename_i y ys' q1 q2
        cases z
        match r, q2 with
        | [], q2 => rw [D.mapRs] at q2; cases q2; cases y <;> cases h
        | x2 :: r2, q2 =>
          rw [D.mapRs] at q2
          split at q2
          · rename_i y2 ys2 q3 q4
            cases q2
            match r2, q4 with
            | [], q4 =>
              cases x with
              | str k => rfl
              | non => rw [D.mapR] at q1; cases q1; cases h
              | bl b => rw [D.mapR] at q1; cases q1; cases h
              | int b => rw [D.mapR] at q1; cases q1; cases h
              | fro b => rw [D.mapR] at q1; cases q1; cases h
              | tup b =>
                rw [D.mapR] at q1
                obtain ⟨_, _, rfl⟩ := Option.map_eq_some_iff.mp q1
                rw [D.mapRs] at q4; cases q4; cases h
              | lst b =>
                rw [D.mapR] at q1
                obtain ⟨_, _, rfl⟩ := Option.map_eq_some_iff.mp q1
                rw [D.mapRs] at q4; cases q4; cases h
              | ref n =>
                rw [D.mapR] at q1
                have := hp n y q1
                rw [D.mapRs] at q4; cases q4
                cases y <;> first | (cases this; done) | (cases h; done)
            | x3 :: r3, q4 =>
              rw [D.mapRs] at q4
              split at q4
              · cases q4; cases y <;> cases h
              · cases q4
          · cases q2
      · cases z
  | non => rw [D.mapR] at e; cases e; cases h
  | bl b => rw [D.mapR] at e; cases e; cases h
  | int b => rw [D.mapR] at e; cases e; cases h
  | str b => rw [D.mapR] at e; cases e; cases h
  | fro b => rw [D.mapR] at e; cases e; cases h
  | lst b =>
    rw [D.mapR] at e
    obtain ⟨_, _, rfl⟩ := Option.map_eq_some_iff.mp e
    cases h
theorem need_mapR {f : Nat → Option D} (hp : ∀ n d, f n = some d → D.objS d = true) : ∀ (xs ys : List D), D.mapRs f xs = some ys → D.need ys = true → D.need xs = true
  | [], ys, _, _ => rfl
  | x :: xs, ys, z, h => by
    rw [D.mapRs] at z
    split at z
    · rename_i y ys' q1 q2
      cases z
      have h := Bool.and_eq_true_iff.mp (show (D.pairS y && D.need ys') = true from h)
      exact Bool.and_eq_true_iff.mpr ⟨pair_mapR hp q1 h.1, need_mapR hp xs ys' q2 h.2⟩
    · cases z
mutual
theorem rp_mapR {f : Nat → Option D} (sub : ∀ a, a ∈ m → a ∈ m') (hf : ∀ n d a, f n = some d → m'[n]? = some a → Rp K m F H' d (.ref a)) (hp : ∀ n d, f n = some d → D.objS d = true) : ∀ (d d' : D) (v : V), Rp K m' F H' d v → D.mapR f d = some d' → Rp K m F H' d' v
  | .non, d', v, h, e => by rw [D.mapR] at e; cases e; rw [Rp] at h ⊢; exact h
  | .bl b, d', v, h, e => by rw [D.mapR] at e; cases e; rw [Rp] at h ⊢; exact h
  | .int b, d', v, h, e => by rw [D.mapR] at e; cases e; rw [Rp] at h ⊢; exact h
  | .str b, d', v, h, e => by rw [D.mapR] at e; cases e; rw [Rp] at h ⊢; exact h
  | .fro ns, d', v, h, e => by rw [D.mapR] at e; cases e; rw [Rp] at h ⊢; exact h
  | .tup xs, d', v, h, e => by
    rw [D.mapR] at e
    cases z : D.mapRs f xs with
    | none => rw [z] at e; cases e
    | some ys =>
      rw [z] at e; cases e
      rw [Rp] at h ⊢
      obtain ⟨a, vs, e, h1, h2⟩ := h
      exact ⟨a, vs, e, ⟨h1.1, fun en => h1.2 (need_mapR hp xs ys z en)⟩, rps_mapR sub hf hp xs ys vs h2 z⟩
  | .lst xs, d', v, h, e => by
    rw [D.mapR] at e
    cases z : D.mapRs f xs with
    | none => rw [z] at e; cases e
    | some ys =>
      rw [z] at e; cases e
      rw [Rp] at h ⊢
      obtain ⟨a, vs, e, h1, nm, nf, h2⟩ := h
      exact ⟨a, vs, e, h1, fun q => nm (sub a q), nf, rps_mapR sub hf hp xs ys vs h2 z⟩
  | .ref n, d', v, h, e => by
    rw [D.mapR] at e
    rw [Rp] at h
    obtain ⟨a, h1, rfl⟩ := h
    exact hf n d' a e h1
theorem rps_mapR {f : Nat → Option D} (sub : ∀ a, a ∈ m → a ∈ m') (hf : ∀ n d a, f n = some d → m'[n]? = some a → Rp K m F H' d (.ref a)) (hp : ∀ n d, f n = some d → D.objS d = true) : ∀ (ds ds' : List D) (v : List V), Rps K m' F H' ds v → D.mapRs f ds = some ds' → Rps K m F H' ds' v
  | [], ds', v, h, e => by rw [D.mapRs] at e; cases e; rw [Rps] at h ⊢; exact h
  | d :: ds, ds', v, h, e => by
    rw [D.mapRs] at e
    cases z : D.mapR f d with
    | none => rw [z] at e; cases e
    | some y =>
      cases z2 : D.mapRs f ds with
      | none => rw [z, z2] at e; cases e
      | some ys =>
        rw [z, z2] at e; cases e
        rw [Rps] at h ⊢
        obtain ⟨x, r, e, h1, h2⟩ := h
        exact ⟨x, r, e, rp_mapR sub hf hp d y x h1 z, rps_mapR sub hf hp ds ys r h2 z2⟩
end
theorem fzr_ok (s : Sm K m F S H) (g : Grow m H m' H') (s' : Sm K m' F S' H') : ∀ (j n : Nat) (d : D) (a : Addr), fzr S' S.length j n = some d → m'[n]? = some a → Rp K m F H' d (.ref a)
  | 0, n, d, a, e, _ => by rw [fzr] at e; cases e
  | j + 1, n, d, a, e, ha => by
    rw [fzr] at e
    obtain ⟨l, el, _⟩ := g.pre
    split at e
    · rename_i hn
      cases e
      rw [Rp]
      rw [← s.len] at hn
      refine ⟨a, ?_, rfl⟩
      rw [el, List.getElem?_append_left hn] at ha
      exact ha
    · rename_i hn
      rw [← s.len] at hn
      cases z : S'[n]? with
      | none => rw [z] at e; cases e
      | some o =>
        rw [z] at e
        cases o with
        | lst xs =>
          have e : (D.mapRs (fzr S' S.length j) xs).map .lst = some d := e
          cases z2 : D.mapRs (fzr S' S.length j) xs with
          | none => rw [z2] at e; cases e
          | some ys =>
            rw [z2] at e; cases e
            obtain ⟨vs, e2, rr⟩ := s'.obj n a _ ha z
            rw [Rp]
            have nm : a ∉ m := fun q => by
              have nd := s'.nd
              rw [el, List.nodup_append] at nd
              rw [el, List.getElem?_append_right (by omega)] at ha
              exact nd.2.2 a q a (List.mem_of_getElem? ha) rfl
            exact ⟨a, vs, rfl, e2, nm, s'.fm a (List.mem_of_getElem? ha), rps_mapR g.sub (fzr_ok s g s' j) (fzr_np j) xs ys vs rr z2⟩
        | dic _ => cases e
        | dks _ _ => cases e
theorem freeze_ok (s : Sm K m F S H) (g : Grow m H m' H') (s' : Sm K m' F S' H') {d d2 : D} {S2 : Store} {v : V} (r : Rp K m' F H' d v) (e : freeze S S' d = (d2, S2)) : ∃ m2, Grow m H m2 H' ∧ Sm K m2 F S2 H' ∧ Rp K m2 F H' d2 v := by
  unfold freeze at e
  split at e
  · rename_i ht
    cases z : D.mapR (fzr S' S.length 4) d with
    | none => rw [z] at e; cases e; exact ⟨m', g, s', r⟩
    | some y =>
      rw [z] at e; cases e
      refine ⟨m, ⟨⟨[], by simp, by simp⟩, g.keep, fun a ha => g.tr a (g.sub a ha)⟩, ⟨s.len, s.nd, s'.fok, s.fm, fun n a o h1 h2 => ?_⟩, rp_mapR g.sub (fzr_ok s g s' 4) (fzr_np 4) _ _ _ r z⟩
      have h3 : S'[n]? = some o := by
        have hn := (List.getElem?_eq_some_iff.mp h2).1
        rw [← ht, List.getElem?_take] at h2
        rw [if_pos hn] at h2
        exact h2
      have k1 := s'.obj n a o (g.at h1) h3
      have k0 := s.obj n a o h1 h2
      cases o with
      | lst xs =>
        obtain ⟨vs, e1, r1⟩ := k1
        obtain ⟨vs0, e0, r0⟩ := k0
        exact ⟨vs, e1, rps_back g xs vs0 vs r0 r1⟩
      | dic _ => exact k1
      | dks ks xs =>
        obtain ⟨kk, vs, e1, a1, b1, r1⟩ := k1
        obtain ⟨kk0, vs0, e0, a0, b0, r0⟩ := k0
        exact ⟨kk, vs, e1, a1, b1, rps_back g xs vs0 vs r0 r1⟩
  · cases e; exact ⟨m', g, s', r⟩
mutual
theorem rp_old {f : Nat → Option D} (hf : ∀ k, k < m.length → f k = some (.ref k)) : ∀ (d : D) (v : V), Rp K m F H d v → D.mapR f d = some d
  | .non, v, h => by rw [D.mapR]
  | .bl b, v, h => by rw [D.mapR]
  | .int b, v, h => by rw [D.mapR]
  | .str b, v, h => by rw [D.mapR]
  | .fro ns, v, h => by rw [D.mapR]
  | .tup xs, v, h => by
    rw [Rp] at h
    obtain ⟨_, vs, _, _, h3⟩ := h
    rw [D.mapR, rps_old hf xs vs h3]; rfl
  | .lst xs, v, h => by
    rw [Rp] at h
    obtain ⟨_, vs, _, _, _, _, h3⟩ := h
    rw [D.mapR, rps_old hf xs vs h3]; rfl
  | .ref n, v, h => by
    rw [Rp] at h
    obtain ⟨a, h1, _⟩ := h
    rw [D.mapR, hf n (List.getElem?_eq_some_iff.mp h1).1]
theorem rps_old {f : Nat → Option D} (hf : ∀ k, k < m.length → f k = some (.ref k)) : ∀ (ds : List D) (v : List V), Rps K m F H ds v → D.mapRs f ds = some ds
  | [], v, h => by rw [D.mapRs]
  | d :: ds, v, h => by
    rw [Rps] at h
    obtain ⟨x, r, _, h1, h2⟩ := h
    rw [D.mapRs, rp_old hf d x h1, rps_old hf ds r h2]
end
theorem keep_ok (s : Sm K m F S H) (g : Grow m H m' H') (s' : Sm K m' F S' H') {n : Nat} {d2 : D} {S2 : Store} {v : V} (r : Rp K m' F H' (.ref n) v) (e : keepR S S' n = some (d2, S2)) : ∃ m2, Grow m H m2 H' ∧ Sm K m2 F S2 H' ∧ Rp K m2 F H' d2 v := by
  unfold keepR at e
  split at e
  · rename_i ht
    obtain ⟨ht, hn⟩ := ht
    cases z : S'[n]? with
    | none => rw [z] at e; cases e
    | some o =>
      rw [z] at e
      cases o with
      | dic _ => cases e
      | dks _ _ => cases e
      | lst xs =>
        cases z2 : D.mapRs (oldR S.length) xs with
        | none =>
          have e' : (match D.mapRs (oldR S.length) xs with
            | some ys => some (D.ref S.length, S ++ [O.lst ys])
            | none => none) = some (d2, S2) := e
          rw [z2] at e'; cases e'
        | some ys =>
          have e' : (match D.mapRs (oldR S.length) xs with
            | some ys => some (D.ref S.length, S ++ [O.lst ys])
            | none => none) = some (d2, S2) := e
          rw [z2] at e'; cases e'
          rw [Rp] at r
          obtain ⟨a, ha, rfl⟩ := r
          obtain ⟨l, el, hl⟩ := g.pre
          have hnl : m.length ≤ n := by rw [s.len]; exact hn
          have hal : a ∈ l := by
            rw [el, List.getElem?_append_right hnl] at ha
            exact List.mem_of_getElem? ha
          have am : a ∈ m' := List.mem_of_getElem? ha
          have nm : a ∉ m := fun q => by
            have nd := s'.nd
            rw [el, List.nodup_append] at nd
            exact nd.2.2 a q a hal rfl
          have sub : ∀ b, b ∈ m ++ [a] → b ∈ m' := fun b hb => by
            rcases List.mem_append.mp hb with hb | hb
            · exact g.sub b hb
            · rw [List.mem_singleton.mp hb]; exact am
          have hf : ∀ k d b, oldR S.length k = some d → m'[k]? = some b → Rp K (m ++ [a]) F H' d (.ref b) := fun k d b h1 h2 => by
            unfold oldR at h1
            split at h1
            · rename_i hk
              cases h1
              rw [← s.len] at hk
              rw [Rp]
              rw [el, List.getElem?_append_left hk] at h2
              exact ⟨b, by rw [List.getElem?_append_left hk]; exact h2, rfl⟩
            · cases h1
          have hold : ∀ k, k < m.length → oldR S.length k = some (.ref k) := fun k hk => by
            unfold oldR; rw [if_pos (by rw [← s.len]; exact hk)]
          refine ⟨m ++ [a], ⟨⟨[a], rfl, fun b hb => by rw [List.mem_singleton.mp hb]; exact hl a hal⟩, g.keep, fun b hb => g.tr b (sub b hb)⟩, ⟨by simp [s.len], ?_, s'.fok, fun b hb => s'.fm b (sub b hb), fun k b o h1 h2 => ?_⟩, ?_⟩
          · rw [List.nodup_append]
            refine ⟨s.nd, by simp, fun b hb c hc => ?_⟩
            rw [List.mem_singleton.mp hc]
            exact fun z => nm (z ▸ hb)
          · by_cases hk : k < m.length
            · rw [List.getElem?_append_left hk] at h1
              rw [List.getElem?_append_left (by rw [← s.len]; exact hk)] at h2
              have h3 : S'[k]? = some o := by
                have hn := (List.getElem?_eq_some_iff.mp h2).1
                rw [← ht, List.getElem?_take] at h2
                rw [if_pos hn] at h2
                exact h2
              have k1 := s'.obj k b o (g.at h1) h3
              have k0 := s.obj k b o h1 h2
              cases o with
              | lst ws =>
                obtain ⟨vs, e1, r1⟩ := k1
                obtain ⟨vs0, e0, r0⟩ := k0
                exact ⟨vs, e1, rps_mapR sub hf old_np _ _ _ r1 (rps_old hold ws vs0 r0)⟩
              | dic _ => exact k1
              | dks ks ws =>
                obtain ⟨kk, vs, e1, a1, b1, r1⟩ := k1
                obtain ⟨kk0, vs0, e0, a0, b0, r0⟩ := k0
                exact ⟨kk, vs, e1, a1, b1, rps_mapR sub hf old_np _ _ _ r1 (rps_old hold ws vs0 r0)⟩
            · have hk' : k = m.length := by
                have := (List.getElem?_eq_some_iff.mp h1).1
                simp at this; omega
              subst hk'
              rw [List.getElem?_append_right (Nat.le_refl _)] at h1
              rw [s.len, List.getElem?_append_right (Nat.le_refl _)] at h2
              simp at h1 h2
              subst h1 h2
              obtain ⟨vs, e2, rr⟩ := s'.obj n a _ ha z
              exact ⟨vs, e2, rps_mapR sub hf old_np _ _ _ rr z2⟩
          · rw [Rp]
            exact ⟨a, by rw [← s.len, List.getElem?_append_right (Nat.le_refl _)]; simp, rfl⟩
  · cases e
theorem finD_ok (cf : FD) (s : Sm K m F S H) (g : Grow m H m' H') (s' : Sm K m' F S' H') {d d2 : D} {S2 : Store} {v : V} (r : Rp K m' F H' d v) (e : cf.fin S S' d = (d2, S2)) : ∃ m2, Grow m H m2 H' ∧ Sm K m2 F S2 H' ∧ Rp K m2 F H' d2 v := by
  unfold FD.fin at e
  split at e
  · exact freeze_ok s g s' r e
  · split at e
    · split at e
      · rename_i n z h
        subst e
        exact keep_ok s g s' r h
      · exact freeze_ok s g s' r e
    · exact freeze_ok s g s' r e
theorem start_rp : ∀ {ds : List D} {vs : List V}, Rps K m F H ds vs → ∀ (i : Nat) (d : D), (ds.map some)[i]? = some (some d) → ∃ v, (vs.map some)[i]? = some (some v) ∧ Rp K m F H d v := by
  intro ds vs r i d e
  rw [List.getElem?_map] at e
  cases z : ds[i]? with
  | none => rw [z] at e; cases e
  | some x =>
    rw [z] at e; cases e
    obtain ⟨v, h1, h2⟩ := r.get z
    exact ⟨v, by rw [List.getElem?_map, h1]; rfl, h2⟩
theorem startE_ok {N : List Str} {n : Nat} {ds : List D} {vs : List V} (hn : n = N.length) (hl : ds.length ≤ n) (r : Rps K m F H ds vs) : RpE K m F H (startE n ds) (L2.start N vs) := by
  unfold startE L2.start
  have len := r.len
  subst hn
  refine ⟨by simp [len], fun i d e => ?_⟩
  by_cases hi : i < ds.length
  · rw [List.getElem?_append_left (by simpa using hi)] at e
    rw [List.getElem?_append_left (by simpa [← len] using hi)]
    exact start_rp r i d e
  · rw [List.getElem?_append_right (by simp; omega)] at e
    rw [List.getElem?_replicate] at e
    split at e <;> cases e
end

def FnAtP (P : Program) (w : World) (K : PySem.W.Frag) (mg : Str → Option Value) (base : Heap) (CX : CXT) (G : Gam) (n : Nat) (f : Str) : Prop := ∃ (a : Addr) (fd : FuncData) (ps : List Str), mg f = some (.ref a) ∧ PySem.W.keepIn K (.ref a) = true ∧ Binds K fd ps [] ∧ FnOk P w K mg base CX (2 * n) a fd ps (spF K mg G n f)
def ConK (K : PySem.W.Frag) (mg : Str → Option Value) (G : Gam) (x : Str) : Prop := ∃ d v u, List.lookup x G.con = some d ∧ mg x = some u ∧ RelV v u ∧ ∀ m F H, Rp K m F H d v

structure DefOk (K : PySem.W.Frag) (mg : Str → Option Value) (G : Gam) (names cons : List Str) (f : Str) : Prop where
  ex : ∃ (cf : FD) (a : Addr) (fd : FuncData) (nm qual : Str) (params : Arguments) (body : List Stmt) (scope : Scope) (N ps : List Str) (fuel : Nat), List.lookup f G.fns = some cf ∧ FunD K nm qual params body scope [] [] a fd ∧ mg f = some (.ref a) ∧ FnScope N ps scope ∧ Binds K fd ps [] ∧
    cf.ps = ps.length ∧ cf.n = N.length ∧ chkSs fuel ⟨N, scope, fun _ => true, names, cons⟩ body cf.body = true
section
variable {P : Program} {w : World} {K : PySem.W.Frag} {mg : Str → Option Value} {base : Heap} {G : Gam} {names cons : List Str}
theorem spF_len {n : Nat} {f : Str} {cf : FD} (hf : List.lookup f G.fns = some cf) {vs : List V} {H : Hp} {Q : VK} {E : XK} (h : spF K mg G (n + 1) f vs H Q E) : vs.length = cf.ps ∧ cf.ps ≤ cf.n := by
  obtain ⟨m, F, S, ds, s, r, h⟩ := h
  rw [callF, hf] at h
  unfold runB at h
  by_cases hc : ds.length = cf.ps ∧ cf.ps ≤ cf.n
  · exact ⟨by rw [← r.len]; exact hc.1, hc.2⟩
  · simp only [if_neg hc] at h
    exact h.elim
theorem fn_okD {n : Nat} {f : Str} {cf : FD} {a : Addr} {fd : FuncData} {nm qual : Str} {params : Arguments} {body : List Stmt} {scope : Scope} {N ps : List Str} {fuel : Nat} (hf : List.lookup f G.fns = some cf) (FD : FunD K nm qual params body scope [] [] a fd) (SC : FnScope N ps scope)
    (e1 : cf.ps = ps.length) (e2 : cf.n = N.length) (hchk : chkSs fuel ⟨N, scope, fun _ => true, names, cons⟩ body cf.body = true) (hfn : ∀ g ∈ names, FnAtP P w K mg base (L2N.CX P w) G n g) (hcon : ∀ x ∈ cons, ConK K mg G x) (hblt : ∀ x ∈ bltNames, mg x = none) :
    FnOk P w K mg base (L2N.CX P w) (2 * (n + 1)) a fd ps (spF K mg G (n + 1) f) := by
  refine FD.ok SC (fun vs H Q E h => ?_) fun cdv A outer s H vs Q E hr hsp => ?_
  · rw [← e1]; exact (spF_len hf h).1
  · refine ⟨tSs K mg (G.cfg n) (fun cls d _ H => E cls d H) cf.body, ?_, ?_⟩
    · have tk : L2N.Takes (cxOf (L2N.CX P w) P w K mg base N qual scope a cdv A outer s H E) (fun cls d _ H => E cls d H) := L2N.takes_of (E₁ := fun e' s'' => L2N.CX P w outer H s E e' s'') rfl rfl rfl rfl
      have C : Cn (L2N.CX P w) G n ⟨N, scope, fun _ => true, names, cons⟩ (fun cls d _ H => E cls d H) (cxOf (L2N.CX P w) P w K mg base N qual scope a cdv A outer s H E) := by
        refine ⟨rfl, SC.nd, rfl, rfl, rfl, hr, hfn, hcon, hblt, L2N.passAt tk, passes_of (E₁ := fun e' s'' => L2N.CX P w outer H s E e' s'') (K := fun e s'' => L2N.CX P w outer H s E e s'') rfl, fun o H s e s' h => ?_⟩
        obtain ⟨_, _, _, _, _, _, _, _, _, _, _, _, z⟩ := h
        exact z
      exact snd_Ss fuel C hchk
    · obtain ⟨hl, hl2⟩ := spF_len hf hsp
      obtain ⟨m, F, S, ds, sm, r, h⟩ := hsp
      refine ⟨m, F, S, startE cf.n ds, sm, startE_ok e2 (by rw [r.len, hl]; exact hl2) r, ?_⟩
      rw [callF, hf] at h
      have h : FinF K mg m F H E ((runB (G.cfg n) cf ds S).bd fun d S' => .ok (cf.fin S S' d)) Q := h
      unfold runB at h
      rw [if_pos ⟨by rw [r.len, hl], hl2⟩] at h
      cases z : execs (G.cfg n) cf.body (startE cf.n ds) S with
      | bad => rw [z] at h; exact h
      | ex e ρ S' => rw [z] at h; exact fun m' H' σ cls dx g s' re rx => h m' H' cls dx g s' rx
      | ok q =>
        obtain ⟨⟨fl, ρ⟩, S'⟩ := q
        rw [z] at h
        intro m' H' g s' σ' r'
        cases fl with
        | nx =>
          have h : FinF K mg m F H E (.ok (cf.fin S S' .non)) Q := h
          obtain ⟨m2, g2, s2, r2⟩ := finD_ok cf sm g s' (d := .non) (v := .non) (d2 := (cf.fin S S' .non).1) (S2 := (cf.fin S S' .non).2) (by rw [Rp]) rfl
          exact h m2 H' .non g2 s2 r2
        | rt d =>
          have h : FinF K mg m F H E (.ok (cf.fin S S' d)) Q := h
          intro v rv
          obtain ⟨m2, g2, s2, r2⟩ := finD_ok cf sm g s' (d := d) (v := v) (d2 := (cf.fin S S' d).1) (S2 := (cf.fin S S' d).2) rv rfl
          exact h m2 H' v g2 s2 r2
        | bk => exact h.elim
        | ct => exact h.elim
theorem fn_ok' {n : Nat} {f : Str} (D : DefOk K mg G names cons f) (hfn : ∀ g ∈ names, FnAtP P w K mg base (L2N.CX P w) G n g) (hcon : ∀ x ∈ cons, ConK K mg G x) (hblt : ∀ x ∈ bltNames, mg x = none) : FnAtP P w K mg base (L2N.CX P w) G (n + 1) f := by
  obtain ⟨cf, a, fd, nm, qual, params, body, scope, N, ps, fuel, hf, FD, hm, SC, hb, e1, e2, hchk⟩ := D.ex
  exact ⟨a, fd, ps, hm, FD.kp, hb, fn_okD hf FD SC e1 e2 hchk hfn hcon hblt⟩
theorem fns_ok (hD : ∀ f ∈ names, DefOk K mg G names cons f) (hcon : ∀ x ∈ cons, ConK K mg G x) (hblt : ∀ x ∈ bltNames, mg x = none) : ∀ n, ∀ f ∈ names, FnAtP P w K mg base (L2N.CX P w) G n f
  | 0, f, hf => by
    obtain ⟨cf, a, fd, nm, qual, params, body, scope, N, ps, fuel, hf, FD, hm, SC, hb, e1, e2, hchk⟩ := (hD f hf).ex
    refine ⟨a, fd, ps, hm, FD.kp, hb, fun vs H Q E h => ?_, fun A outer s H args us vs Q E _ _ _ _ h => ?_⟩
    · obtain ⟨m, F, S, ds, s, r, h⟩ := h
      exact h.elim
    · obtain ⟨m, F, S, ds, s, r, h⟩ := h
      exact h.elim
  | n + 1, f, hf => fn_ok' (hD f hf) (fns_ok hD hcon hblt n) hcon hblt
end
end Rf


namespace Rf
open PySem PySem.Spec PyProof.Rows L2

mutual

def conB (K : PySem.W.Frag) : D → Value → Bool
  | .non, .none => true
  | .bl b, .bool c => b == c
  | .int i, .int j _ => decide (i = j)
  | .str x, .str y _ => decide (x = y)
  | .tup xs, .ref a => match K.lookup a with
    | some ⟨.type c, dd, .seq its _, _⟩ => decide (c = "tuple") && (dd.isNone && (decide (its.size ≤ sizeLine) && conBs K xs its.toList))
    | _ => false
  | _, _ => false
def conBs (K : PySem.W.Frag) : List D → List Value → Bool
  | [], [] => true
  | x :: xs, u :: us => conB K x u && conBs K xs us
  | _, _ => false
end
mutual
theorem conB_ok {K : PySem.W.Frag} : ∀ (d : D) (u : Value), conB K d u = true → ∃ v, RelV v u ∧ ∀ m F H, Rp K m F H d v
  | .non, u, h => by
    cases u <;> first | exact ⟨.non, rfl, fun m F H => by rw [Rp]⟩ | (simp [conB] at h)
  | .bl b, u, h => by
    cases u with
    | bool c => rw [conB] at h; obtain rfl := beq_iff_eq.mp h; exact ⟨.bl b, rfl, fun m F H => by rw [Rp]⟩
    | _ => simp [conB] at h
  | .int i, u, h => by
    cases u with
    | int j t => rw [conB] at h; obtain rfl := of_decide_eq_true h; exact ⟨.int i, ⟨t, rfl⟩, fun m F H => by rw [Rp]⟩
    | _ => simp [conB] at h
  | .str i, u, h => by
    cases u with
    | str j t => rw [conB] at h; obtain rfl := of_decide_eq_true h; exact ⟨.str i, ⟨t, rfl⟩, fun m F H => by rw [Rp]⟩
    | _ => simp [conB] at h
  | .tup xs, u, h => by
    cases u with
    | ref a =>
      rw [conB] at h
      split at h
      · rename_i c dd its n sl e
        simp only [Bool.and_eq_true, decide_eq_true_eq, Option.isNone_iff_eq_none] at h
        obtain ⟨rfl, rfl, h1, h2⟩ := h
        obtain ⟨vs, r1, r2⟩ := conBs_ok xs its.toList h2
        exact ⟨.ref a, rfl, fun m F H => by
          rw [Rp]
          exact ⟨a, vs, rfl, ⟨.inr ⟨_, its, n, e, rfl, rfl, h1, r1⟩, fun _ => .inr ⟨_, e, rfl⟩⟩, r2 m F H⟩⟩
      · cases h
    | _ => simp [conB] at h
  | .lst xs, u, h => by simp [conB] at h
  | .ref xs, u, h => by simp [conB] at h
  | .fro xs, u, h => by simp [conB] at h
theorem conBs_ok {K : PySem.W.Frag} : ∀ (ds : List D) (us : List Value), conBs K ds us = true → ∃ vs, Vals vs us ∧ ∀ m F H, Rps K m F H ds vs
  | [], [], _ => ⟨[], .nil, fun m F H => .nil⟩
  | d :: ds, u :: us, h => by
    rw [conBs] at h
    have h' := Bool.and_eq_true_iff.mp h
    obtain ⟨v, r1, r2⟩ := conB_ok d u h'.1
    obtain ⟨vs, s1, s2⟩ := conBs_ok ds us h'.2
    exact ⟨v :: vs, .cons r1 s1, fun m F H => .cons (r2 m F H) (s2 m F H)⟩
  | [], _ :: _, h => by simp [conBs] at h
  | _ :: _, [], h => by simp [conBs] at h
end
def conX (K : PySem.W.Frag) (p : Str × D) : Bool := match PySem.W.nsIn K mainGlobals p.1 with
  | some (some u) => conB K p.2 u
  | _ => false
def headB (names : List Str) (cons : List (Str × D)) (K : PySem.W.Frag) : Bool := bltNames.all (fun x => He.Fa.ok K (.free x)) && (names.all (fun x => He.Fa.ok K (.glo x)) && cons.all (conX K))
def obsR (names : List Str) (cons : List (Str × D)) (fn : List He.DefD) (K : PySem.W.Frag) : He.AlD := (headB names cons K && fn.all fun d => d.ok K, fn.map fun d => He.fnW K d.at_)
def obsRG (n : Nat) (names : List Str) (cons : List (Str × D)) (fn : List He.DefD) (g : Addr → Option Obj) : He.AlD := obsR names cons fn (He.frG g (He.asD g n))
def SaysR (names : List Str) (cons : List (Str × D)) (fn : List He.DefD) (K : PySem.W.Frag) : Prop := obsR names cons fn K = He.valD fn
def hookR (n : Nat) (names : List Str) (cons : List (Str × D)) (fn : List He.DefD) : PySem.W.Hook where
  α := He.AlD
  obs := fun s => obsRG n names cons fn s.heap.get?
  val := fun _ => He.valD fn
  says := fun _ h => ∃ K : PySem.W.Frag, K.In h ∧ SaysR names cons fn K
  of := fun _ _ e => ⟨_, He.frG_in, e⟩
  keeps := fun _ _ _ ⟨K, hK, c⟩ k => ⟨K, PySem.W.Frag.In.keeps hK k, c⟩
theorem obsRG_eq {n : Nat} {names : List Str} {cons : List (Str × D)} {fn : List He.DefD} {g : Addr → Option Obj} {s : Shared} (h : ∀ a, g a = s.heap.get? a) : obsRG n names cons fn g = (hookR n names cons fn).obs s := by
  have e : g = s.heap.get? := funext h
  rw [e] <;> rfl

structure Ent where
  f : Str
  nm : Str
  params : Arguments
  body : List Stmt
  scope : Scope
  cf : FD
  N : List Str
  ps : List Str
def Ent.d (e : Ent) : He.DefD := ⟨(e.f, none), e.nm, e.nm, e.params, e.body, e.scope, [], []⟩
def scopeB (N ps : List Str) (sc : Scope) : Bool := sc.kind == .function && (!sc.isCoroutine && (!sc.isGenerator && (decide N.Nodup && (N.take ps.length == ps && (ps.all (fun x => locB sc x) && sc.names.all (fun y => !(y.2 == .free)))))))
def Ent.ok (fuel : Nat) (names cons : List Str) (e : Ent) : Bool := scopeB e.N e.ps e.scope && (e.cf.ps == e.ps.length && (e.cf.n == e.N.length && chkSs fuel ⟨e.N, e.scope, fun _ => true, names, cons⟩ e.body e.cf.body))
def Ent.Bind (e : Ent) : Prop := ∀ (kV doc pm : Value) (an : Option Addr) (cdv ct : Value) (us : List Value), us.length = e.ps.length → bindArgs (PySem.W.fnOf e.nm e.nm e.params e.body e.scope .none kV doc pm an cdv ct) ⟨us, []⟩ = pure (e.ps.zip us)
def BindAll : List Ent → Prop
  | [] => True
  | e :: es => e.Bind ∧ BindAll es
theorem BindAll.at : ∀ {es : List Ent} {e : Ent}, BindAll es → e ∈ es → e.Bind
  | e' :: es, e, h, hm => by
    rcases List.mem_cons.mp hm with rfl | hm
    · exact h.1
    · exact BindAll.at h.2 hm
theorem scope_ok {N ps : List Str} {sc : Scope} (h : scopeB N ps sc = true) : FnScope N ps sc := by
  unfold scopeB at h
  simp only [Bool.and_eq_true, beq_iff_eq, Bool.not_eq_true', decide_eq_true_eq, List.all_eq_true] at h
  obtain ⟨h1, h2, h3, h4, h5, h6, h7⟩ := h
  refine ⟨h1, h2, h3, h4, h5, fun x hx => ?_, fun y hy => ?_⟩
  · have := h6 x hx
    unfold locB at this
    simpa only [Bool.or_eq_true, beq_iff_eq] using this
  · have := h7 y hy
    intro e
    rw [e] at this
    exact absurd this (by decide)
def gamOf (es : List Ent) (cons : List (Str × D)) : Gam := ⟨es.map fun e => (e.f, e.cf), cons⟩
theorem gam_nd {es : List Ent} {cons : List (Str × D)} (nd : (es.map (·.f)).Nodup) : ((gamOf es cons).fns.map (·.1)).Nodup := by
  have e : (gamOf es cons).fns.map (·.1) = es.map (·.f) := by
    show (es.map fun e => (e.f, e.cf)).map (·.1) = _
    rw [List.map_map]; rfl
  rw [e]; exact nd
theorem look_mem {β : Type} : ∀ {l : List (Str × β)} {x : Str} {b : β}, (l.map (·.1)).Nodup → (x, b) ∈ l → List.lookup x l = some b
  | (y, c) :: l, x, b, nd, h => by
    have nd' : y ∉ l.map (·.1) ∧ (l.map (·.1)).Nodup := by simpa only [List.map_cons, List.nodup_cons] using nd
    rcases List.mem_cons.mp h with e | h
    · cases e; simp
    · have : x ≠ y := fun z => nd'.1 (z ▸ List.mem_map.mpr ⟨_, h, rfl⟩)
      rw [List.lookup_cons]
      rw [beq_eq_false_iff_ne.mpr this]
      exact look_mem nd'.2 h
section
variable {es : List Ent} {cons : List (Str × D)} {fuel : Nat}
theorem defs_rf {K : PySem.W.Frag} {h : Heap} {mg : Str → Option Value} (X : K.In h) (G : h.Ns mainGlobals mg) (c : SaysR (es.map (·.f)) cons (es.map Ent.d) K) (nd : (es.map (·.f)).Nodup) (nc : (cons.map (·.1)).Nodup)
    (ok : es.all (Ent.ok fuel (es.map (·.f)) (cons.map (·.1))) = true) (hb : BindAll es) :
    (∀ f ∈ es.map (·.f), DefOk K mg (gamOf es cons) (es.map (·.f)) (cons.map (·.1)) f) ∧ (∀ x ∈ cons.map (·.1), ConK K mg (gamOf es cons) x) ∧ ∀ x ∈ bltNames, mg x = none := by
  have c1 : (headB (es.map (·.f)) cons K && (es.map Ent.d).all fun d => d.ok K) = true := congrArg (fun z : He.AlD => z.1) c
  have c2 : (es.map Ent.d).map (fun d => He.fnW K d.at_) = (es.map Ent.d).map He.DefD.val := congrArg (fun z : He.AlD => z.2) c
  have hB : headB (es.map (·.f)) cons K = true := (Bool.and_eq_true_iff.mp c1).1
  have hD := (Bool.and_eq_true_iff.mp c1).2
  unfold headB at hB
  simp only [Bool.and_eq_true, List.all_eq_true] at hB
  obtain ⟨b1, b2, b3⟩ := hB
  refine ⟨fun f hf => ?_, fun x hx => ?_, fun x hx => He.free_ok X G (b1 x hx)⟩
  · obtain ⟨e, he, rfl⟩ := List.mem_map.mp hf
    have hm := He.glo_ok X G (b2 e.f hf)
    obtain ⟨i, hi⟩ := List.getElem?_of_mem he
    have e3 : He.fnW K e.d.at_ = e.d.val := by
      have := congrArg (·[i]?) c2
      simp only [List.map_map, List.getElem?_map, hi, Option.map_some, Option.some.injEq, Function.comp] at this
      exact this
    have e4 : e.d.ok K = true := List.all_eq_true.mp hD _ (List.mem_map.mpr ⟨e, he, rfl⟩)
    obtain ⟨fd, FD⟩ := He.DefD.funD e3 e4
    have hok := List.all_eq_true.mp ok e he
    unfold Ent.ok at hok
    simp only [Bool.and_eq_true, beq_iff_eq] at hok
    obtain ⟨o1, o2, o3, o4⟩ := hok
    refine ⟨e.cf, He.ga K e.f, fd, e.nm, e.nm, e.params, e.body, e.scope, e.N, e.ps, fuel, ?_, FD, hm, scope_ok o1, FD.bindsN (hb.at he), o2, o3, o4⟩
    exact look_mem (gam_nd nd) (List.mem_map.mpr ⟨e, he, rfl⟩)
  · obtain ⟨p, hp, rfl⟩ := List.mem_map.mp hx
    have hc := b3 p hp
    unfold conX at hc
    split at hc
    · rename_i u e
      obtain ⟨v, r1, r2⟩ := conB_ok _ _ hc
      exact ⟨p.2, v, u, look_mem nc hp, PySem.W.mg_of X G e, r1, r2⟩
    · cases hc
theorem sql_fro {K : PySem.W.Frag} {H : Hp} {a : Addr} {vs : List V} (o : Only H) (h : SqL K H a vs) : FroL K H a vs := by
  rcases h with (h | h) | h
  · rcases o a with e | ⟨ob, xs, e⟩
    · rw [h] at e; cases e
    · rw [h] at e; cases e
  · obtain ⟨ob, h⟩ := h; exact .inl ⟨ob, h⟩
  · exact .inr h

theorem walk_rf {l : PySem.W.OpenLaw} {k : Nat} {q : Program} {loose : List Str} {XP : (Str → Option Value) → Heap → Prop} {d : DefRec} {hn : Nat} {x : Str}
    (h63 : l.most = some 63) (hdf : d.params.defaults = []) (hr : Room (2 * (k + 1)) callerA) (hname : d.name = "law")
    (nd : (es.map (·.f)).Nodup) (nc : (cons.map (·.1)).Nodup) (ok : es.all (Ent.ok fuel (es.map (·.f)) (cons.map (·.1))) = true) (hb : BindAll es) (hlaw : ∃ e ∈ es, e.f = "law" ∧ e.ps = [x])
    (res : ∀ ns : List Int, ns.length ≤ 63 → (∀ z ∈ ns, Builtin.Int.intBits z ≤ 1048576) → ∃ S, callF (gamOf es cons) (k + 1) "law" [.fro ns] [] = .ok (.bl true, S)) :
    PySem.W.WalkO q loose XP (hookR hn (es.map (·.f)) cons (es.map Ent.d)).says l.row.toRowW d [] (fun f vs => PySem.call f vs) := by
  refine Att.attach_callB h63 hdf fun w s₀ s₁ mg mb fa o pm cd doc a vs ns G Y ho hd hcd hmg hobj hints hlen hbits hg => ?_
  obtain ⟨K, KX, c⟩ := Y
  obtain ⟨e, he, e1, e2⟩ := hlaw
  have hmem : ("law" : Str) ∈ es.map (·.f) := List.mem_map.mpr ⟨e, he, e1⟩
  have all := fun (mg : Str → Option Value) (base : Heap) (X : K.In base) (G : base.Ns mainGlobals mg) => defs_rf (fuel := fuel) X G c nd nc ok hb
  have hfa : fa = He.ga K "law" := by
    obtain ⟨D1, _, _⟩ := all mg s₁.heap KX G.T.g
    rw [hname] at hmg
    have c1 : (headB (es.map (·.f)) cons K && (es.map Ent.d).all fun d => d.ok K) = true := congrArg (fun z : He.AlD => z.1) c
    have hB : headB (es.map (·.f)) cons K = true := (Bool.and_eq_true_iff.mp c1).1
    unfold headB at hB
    simp only [Bool.and_eq_true, List.all_eq_true] at hB
    have := He.glo_ok KX G.T.g (hB.2.1 _ hmem)
    rw [hmg] at this
    cases this; rfl
  subst hfa
  -- the law's function
  have c1 : (headB (es.map (·.f)) cons K && (es.map Ent.d).all fun d => d.ok K) = true := congrArg (fun z : He.AlD => z.1) c
  have c2 : (es.map Ent.d).map (fun d => He.fnW K d.at_) = (es.map Ent.d).map He.DefD.val := congrArg (fun z : He.AlD => z.2) c
  obtain ⟨i, hi⟩ := List.getElem?_of_mem he
  have e3 : He.fnW K e.d.at_ = e.d.val := by
    have := congrArg (·[i]?) c2
    simp only [List.map_map, List.getElem?_map, hi, Option.map_some, Option.some.injEq, Function.comp] at this
    exact this
  obtain ⟨fd, FD⟩ := He.DefD.funD e3 (List.all_eq_true.mp (Bool.and_eq_true_iff.mp c1).2 _ (List.mem_map.mpr ⟨e, he, rfl⟩))
  refine law_call (K := K) (CX := L2N.CX l.prog w) (x := x) (k := 2 * (k + 1)) (sp := spF K mg (gamOf es cons) (k + 1) "law") (fd := fd) KX G.T.g G.T.b G.T.builtins G.T.nolimit hg hobj hints (by rw [sizeLine_eq]; omega) hr (fun base bX bG => ?_) (fun s u => ?_) (fun H hO hS => ?_) fun H ee s' hz => ?_
  · obtain ⟨D1, D2, D3⟩ := all mg base bX bG
    have hok := List.all_eq_true.mp ok e he
    unfold Ent.ok at hok
    simp only [Bool.and_eq_true, beq_iff_eq] at hok
    obtain ⟨o1, o2, o3, o4⟩ := hok
    have look : List.lookup ("law" : Str) (gamOf es cons).fns = some e.cf := by
      rw [← e1]
      exact look_mem (gam_nd nd) (List.mem_map.mpr ⟨e, he, rfl⟩)
    have at_ : He.fAd K e.d.at_ = He.ga K "law" := by rw [← e1]; rfl
    have FD2 : FunD K e.nm e.nm e.params e.body e.scope [] [] (He.ga K "law") fd := by rw [← at_]; exact FD
    have := fn_okD (P := l.prog) (w := w) (base := base) look FD2 (scope_ok o1) o2 o3 o4 (fns_ok D1 D2 D3 k) D2 D3
    rw [e2] at this
    exact this
  · have := FD.bindsA (ps := e.ps) (hb.at he) s [u] (by rw [e2]; rfl)
    rw [e2] at this
    exact this
  · obtain ⟨S, hS2⟩ := res ns hlen hbits
    refine ⟨[], fun _ => False, [], [.fro ns], ⟨rfl, by simp, fun a h => h.elim, fun a h => by simp at h, fun n a o h => by simp at h⟩, .cons ?_ .nil, ?_⟩
    · rw [Rp]
      exact ⟨a, rfl, sql_fro hO hS⟩
    · rw [hS2]
      intro m' H' v g s rv
      rw [Rp] at rv
      exact rv
  · obtain ⟨_, _, _, _, _, _, _, _, _, _, _, _, z⟩ := hz
    exact z
end
end Rf


namespace Rf
open PySem L2

namespace D
mutual

def pur : D → Bool
  | .non | .bl _ | .int _ | .str _ | .fro _ => true
  | .tup xs => purs xs
  | .lst xs => purs xs
  | .ref _ => false
def purs : List D → Bool
  | [] => true
  | x :: xs => pur x && purs xs
end
mutual
theorem mapR_pur {g : Nat → Option D} : ∀ d : D, pur d = true → mapR g d = some d
  | .non, _ => by rw [mapR]
  | .bl _, _ => by rw [mapR]
  | .int _, _ => by rw [mapR]
  | .str _, _ => by rw [mapR]
  | .fro _, _ => by rw [mapR]
  | .tup xs, h => by rw [pur] at h; rw [mapR, mapRs_purs xs h]; rfl
  | .lst xs, h => by rw [pur] at h; rw [mapR, mapRs_purs xs h]; rfl
  | .ref _, h => by rw [pur] at h; cases h
theorem mapRs_purs {g : Nat → Option D} : ∀ ds : List D, purs ds = true → mapRs g ds = some ds
  | [], _ => by rw [mapRs]
  | x :: xs, h => by
    rw [purs, Bool.and_eq_true] at h
    rw [mapRs, mapR_pur x h.1, mapRs_purs xs h.2]
end
theorem purs_map {α : Type} (f : α → D) (h : ∀ a, pur (f a) = true) : ∀ l : List α, purs (l.map f) = true
  | [] => by rw [List.map_nil, purs]
  | a :: r => by rw [List.map_cons, purs, h a, purs_map f h r]; rfl
end D
open D
theorem freeze_pur {S : Store} (T : List O) {d : D} (h : pur d = true) : freeze S (S ++ T) d = (d, S) := by
  unfold freeze
  rw [if_pos (by simp), mapR_pur d h]
theorem freeze_ref {S : Store} (T : List O) {j : Nat} {xs : List D} (h : purs xs = true) (hj : T[j]? = some (.lst xs)) : freeze S (S ++ T) (.ref (S.length + j)) = (.lst xs, S) := by
  unfold freeze
  rw [if_pos (by simp), mapR]
  have : fzr (S ++ T) S.length 4 (S.length + j) = some (.lst xs) := by
    rw [fzr, if_neg (by omega), List.getElem?_append_right (by omega)]
    rw [show S.length + j - S.length = j by omega, hj]
    show (D.mapRs _ xs).map D.lst = _
    rw [mapRs_purs xs h]; rfl
  rw [this]
theorem fin_pur (fd : FD) {S : Store} (T : List O) {d : D} (h : pur d = true) : fd.fin S (S ++ T) d = (d, S) := by
  unfold FD.fin
  split
  · exact freeze_pur T h
  · cases d with
    | ref n => rw [pur] at h; cases h
    | _ => exact freeze_pur T h
theorem fin_pur0 (fd : FD) {S : Store} {d : D} (h : pur d = true) : fd.fin S S d = (d, S) := by
  have := fin_pur fd (S := S) [] h
  rwa [List.append_nil] at this
theorem oldR_pur {n : Nat} {xs : List D} (h : purs xs = true) : D.mapRs (oldR n) xs = some xs := mapRs_purs xs h
theorem fin_keep {fd : FD} (hk : fd.keep = true) {S : Store} (T : List O) {j : Nat} {xs : List D} (h : purs xs = true) (hj : T[j]? = some (.lst xs)) : fd.fin S (S ++ T) (.ref (S.length + j)) = (.ref S.length, S ++ [.lst xs]) := by
  have e : keepR S (S ++ T) (S.length + j) = some (.ref S.length, S ++ [.lst xs]) := by
    unfold keepR
    rw [if_pos ⟨by simp, by omega⟩, List.getElem?_append_right (by omega)]
    rw [show S.length + j - S.length = j by omega, hj]
    show (match D.mapRs (oldR S.length) xs with
      | some ys => some (D.ref S.length, S ++ [O.lst ys])
      | none => none) = _
    rw [oldR_pur h]
  unfold FD.fin
  rw [hk]
  show (match keepR S (S ++ T) (S.length + j) with
    | some z => z
    | none => freeze S (S ++ T) (.ref (S.length + j))) = _
  rw [e]
theorem freeze_ref0 {S : Store} (T : List O) {xs : List D} (h : purs xs = true) : freeze S (S ++ O.lst xs :: T) (.ref S.length) = (.lst xs, S) := freeze_ref (j := 0) _ h rfl


theorem callF_eq {G : Gam} {n : Nat} {f : Str} {fd : FD} {vs : List D} {S S' : Store} {p : Fl × Env} {d : D} {z : D × Store} (hl : List.lookup f G.fns = some fd) (h1 : vs.length = fd.ps) (h2 : fd.ps ≤ fd.n)
    (he : execs (G.cfg n) fd.body (startE fd.n vs) S = .ok (p, S')) (hp : p.1 = .rt d) (hz : fd.fin S S' d = z) : callF G (n + 1) f vs S = .ok z := by
  obtain ⟨fl, r⟩ := p
  cases hp
  rw [callF, hl]
  show (runB (G.cfg n) fd vs S).bd _ = _
  unfold runB
  rw [if_pos ⟨h1, h2⟩, he]
  show Res.ok (fd.fin S S' d) = _
  rw [hz]
theorem callF_pur {G : Gam} {n : Nat} {f : Str} {fd : FD} {vs : List D} {S : Store} {d : D} (hl : List.lookup f G.fns = some fd) (h1 : vs.length = fd.ps) (h2 : fd.ps ≤ fd.n)
    (hd : pur d = true) (he : ∃ r T, execs (G.cfg n) fd.body (startE fd.n vs) S = .ok ((.rt d, r), S ++ T)) : callF G (n + 1) f vs S = .ok (d, S) :=
  he.elim fun _ he => he.elim fun T he => callF_eq hl h1 h2 he rfl (fin_pur fd T hd)
theorem callF_pur0 {G : Gam} {n : Nat} {f : Str} {fd : FD} {vs : List D} {S : Store} {d : D} (hl : List.lookup f G.fns = some fd) (h1 : vs.length = fd.ps) (h2 : fd.ps ≤ fd.n)
    (hd : pur d = true) (he : ∃ r, execs (G.cfg n) fd.body (startE fd.n vs) S = .ok ((.rt d, r), S)) : callF G (n + 1) f vs S = .ok (d, S) :=
  he.elim fun _ he => callF_eq hl h1 h2 he rfl (fin_pur0 fd hd)
theorem cfg_ok {G : Gam} {n : Nat} {f : Str} {vs : List D} {S : Store} {z : RD} (h : callF G n f vs S = z) : (G.cfg n).call f vs S = z := h
@[simp] theorem bd_k {α β : Type} (a : α) (S : Store) (f : α → Store → Res β) : Res.bd (.ok (a, S)) f = f a S := id rfl
@[simp] theorem of_some {α : Type} (a : α) (S : Store) : Res.of (some a) S = .ok (a, S) := id rfl
@[simp] theorem nox_k {α : Type} (a : α) : Res.nox (.ok a) = .ok a := id rfl
theorem compL_map {f : D → Store → Res (Option D × Store)} {S : Store} {α : Type} {emb : α → D} {g : α → D} : ∀ (xs : List α), (∀ x ∈ xs, f (emb x) S = .ok (some (g x), S)) → compL (fun _ => true) f (xs.map emb) S = .ok (xs.map g, S)
  | [], _ => by rw [List.map_nil, compL]; rfl
  | x :: xs, h => by
    rw [List.map_cons, compL, if_pos rfl, h x (by simp)]
    show (compL (fun _ => true) f (xs.map emb) S).bd _ = _
    rw [compL_map xs (fun y hy => h y (by simp [hy]))]
    rfl
theorem compL_fmap {f : D → Store → Res (Option D × Store)} {S : Store} {α : Type} {emb : α → D} {g : α → Option D} : ∀ (xs : List α), (∀ x ∈ xs, f (emb x) S = .ok (g x, S)) → compL (fun _ => true) f (xs.map emb) S = .ok (xs.filterMap g, S)
  | [], _ => by rw [List.map_nil, compL]; rfl
  | x :: xs, h => by
    rw [List.map_cons, compL, if_pos rfl, h x (by simp)]
    show (compL (fun _ => true) f (xs.map emb) S).bd _ = _
    rw [compL_fmap xs (fun y hy => h y (by simp [hy]))]
    rw [List.filterMap_cons]
    cases g x <;> rfl

def lp {σ α ρ : Type} (f : σ → α → σ ⊕ ρ) : List α → σ → σ ⊕ ρ
  | [], s => .inl s
  | x :: xs, s => match f s x with
    | .inl s' => lp f xs s'
    | .inr d => .inr d
theorem forL_lp {σ α ρ : Type} {emb : α → D} {w : Store → Bool} {body : D → Env → Store → RS} {I : σ → Env → Store → Prop} {J : ρ → D → Env → Store → Prop} {f : σ → α → σ ⊕ ρ} (hw : ∀ s r S, I s r S → w S = true) :
    ∀ (xs : List α) (s : σ) (r : Env) (S : Store), (∀ x ∈ xs, ∀ s r S, I s r S → match f s x with
      | .inl s' => ∃ r' S', body (emb x) r S = .ok ((.nx, r'), S') ∧ I s' r' S'
      | .inr o => ∃ d r' S', body (emb x) r S = .ok ((.rt d, r'), S') ∧ J o d r' S') → I s r S →
    match lp f xs s with
    | .inl s' => ∃ r' S', forL w body (xs.map emb) r S = .ok ((.nx, r'), S') ∧ I s' r' S'
    | .inr o => ∃ d r' S', forL w body (xs.map emb) r S = .ok ((.rt d, r'), S') ∧ J o d r' S'
  | [], s, r, S, h, i => ⟨r, S, by rw [List.map_nil, forL, if_pos (hw s r S i)], i⟩
  | x :: xs, s, r, S, h, i => by
    have h1 := h x (by simp) s r S i
    rw [lp]
    cases e : f s x with
    | inl s' =>
      rw [e] at h1
      obtain ⟨r', S', hb, i'⟩ := h1
      have ih := forL_lp hw xs s' r' S' (fun y hy => h y (by simp [hy])) i'
      have he : forL w body ((x :: xs).map emb) r S = forL w body (xs.map emb) r' S' := by
        rw [List.map_cons, forL, if_pos (hw s r S i), hb]; rfl
      rw [he]; exact ih
    | inr o =>
      rw [e] at h1
      obtain ⟨d, r', S', hb, i'⟩ := h1
      exact ⟨d, r', S', by rw [List.map_cons, forL, if_pos (hw s r S i), hb]; rfl, i'⟩

theorem forL_fold {σ α : Type} {emb : α → D} {w : Store → Bool} {body : D → Env → Store → RS} {I : σ → Env → Store → Prop} {f : σ → α → σ} (hw : ∀ s r S, I s r S → w S = true) :
    ∀ (xs : List α) (s : σ) (r : Env) (S : Store), (∀ x ∈ xs, ∀ s r S, I s r S → ∃ r' S', body (emb x) r S = .ok ((.nx, r'), S') ∧ I (f s x) r' S') → I s r S →
    ∃ r' S', forL w body (xs.map emb) r S = .ok ((.nx, r'), S') ∧ I (xs.foldl f s) r' S'
  | [], s, r, S, h, i => ⟨r, S, by rw [List.map_nil, forL, if_pos (hw s r S i)], i⟩
  | x :: xs, s, r, S, h, i => by
    obtain ⟨r', S', hb, i'⟩ := h x (by simp) s r S i
    obtain ⟨r2, S2, h2, i2⟩ := forL_fold hw xs (f s x) r' S' (fun y hy => h y (by simp [hy])) i'
    exact ⟨r2, S2, by rw [List.map_cons, forL, if_pos (hw s r S i), hb]; exact h2, i2⟩

theorem exec_for {c : Cfg} {tg : CT} {it : CI} {b : CSs} {r : Env} {S : Store} {σ α : Type} (xs : List α) (emb : α → D) {w : Store → Bool} (I : σ → Env → Store → Prop) (f : σ → α → σ) (s0 : σ)
    (hi : evalI c it r S = .ok ((xs.map emb, w), S)) (hw : ∀ s r S, I s r S → w S = true)
    (step : ∀ x ∈ xs, ∀ s r S, I s r S → ∃ r1, bindT tg (emb x) r = some r1 ∧ ∃ r' S', execs c b r1 S = .ok ((.nx, r'), S') ∧ I (f s x) r' S') (init : I s0 r S) :
    ∃ r' S', execS c (.for_ tg it b) r S = .ok ((.nx, r'), S') ∧ I (xs.foldl f s0) r' S' := by
  rw [execS, hi, bd_k]
  refine forL_fold hw xs s0 r S (fun x hx s r S i => ?_) init
  obtain ⟨r1, e1, r', S', e2, i'⟩ := step x hx s r S i
  rw [e1]
  exact ⟨r', S', e2, i'⟩
theorem forL_ix {α : Type} {emb : α → D} {w : Store → Bool} {body : D → Env → Store → RS} {I : Nat → Env → Store → Prop} (hw : ∀ s r S, I s r S → w S = true) :
    ∀ (xs : List α) (i0 : Nat) (r : Env) (S : Store), (∀ i (h : i < xs.length) r S, I (i0 + i) r S → ∃ r' S', body (emb xs[i]) r S = .ok ((.nx, r'), S') ∧ I (i0 + i + 1) r' S') → I i0 r S →
    ∃ r' S', forL w body (xs.map emb) r S = .ok ((.nx, r'), S') ∧ I (i0 + xs.length) r' S'
  | [], i0, r, S, h, i => ⟨r, S, by rw [List.map_nil, forL, if_pos (hw _ r S i)], i⟩
  | x :: xs, i0, r, S, h, i => by
    obtain ⟨r', S', hb, i'⟩ := h 0 (by simp) r S i
    obtain ⟨r2, S2, h2, i2⟩ := forL_ix hw xs (i0 + 1) r' S' (fun j hj r S hi => by
      have := h (j + 1) (by simp; omega) r S (by rw [show i0 + (j + 1) = i0 + 1 + j by omega]; exact hi)
      rw [show i0 + (j + 1) + 1 = i0 + 1 + j + 1 by omega] at this
      exact this) i'
    exact ⟨r2, S2, by rw [List.map_cons, forL, if_pos (hw _ r S i)]; simp only [List.getElem_cons_zero] at hb; rw [hb]; exact h2, by rw [List.length_cons, show i0 + (xs.length + 1) = i0 + 1 + xs.length by omega]; exact i2⟩
theorem exec_for_ix {c : Cfg} {tg : CT} {it : CI} {b : CSs} {r : Env} {S : Store} {α : Type} (xs : List α) (emb : α → D) {w : Store → Bool} (I : Nat → Env → Store → Prop)
    (hi : evalI c it r S = .ok ((xs.map emb, w), S)) (hw : ∀ s r S, I s r S → w S = true)
    (step : ∀ i (h : i < xs.length) r S, I i r S → ∃ r1, bindT tg (emb xs[i]) r = some r1 ∧ ∃ r' S', execs c b r1 S = .ok ((.nx, r'), S') ∧ I (i + 1) r' S') (init : I 0 r S) :
    ∃ r' S', execS c (.for_ tg it b) r S = .ok ((.nx, r'), S') ∧ I xs.length r' S' := by
  rw [execS, hi, bd_k]
  have := forL_ix (I := I) hw xs 0 r S (body := fun x r S2 => match bindT tg x r with
      | some r' => execs c b r' S2
      | none => .bad) (emb := emb) (fun i h r S hi => by
    rw [Nat.zero_add] at hi ⊢
    obtain ⟨r1, e1, r', S', e2, i'⟩ := step i h r S hi
    refine ⟨r', S', ?_, i'⟩
    rw [e1]; exact e2) init
  rw [Nat.zero_add] at this
  exact this
theorem items_pl (S T : Store) (j : Nat) (xs : List D) (h : T[j]? = some (.lst xs)) : items (S ++ T) (.ref (S.length + j)) = some xs := by
  simp [items, List.getElem?_append_right, h]
theorem exec_for_lp {c : Cfg} {tg : CT} {it : CI} {b : CSs} {r : Env} {S : Store} {σ α ρ : Type} (xs : List α) (emb : α → D) {w : Store → Bool} (I : σ → Env → Store → Prop) (J : ρ → D → Env → Store → Prop) (f : σ → α → σ ⊕ ρ) (s0 : σ)
    (hi : evalI c it r S = .ok ((xs.map emb, w), S)) (hw : ∀ s r S, I s r S → w S = true)
    (step : ∀ x ∈ xs, ∀ s r S, I s r S → ∃ r1, bindT tg (emb x) r = some r1 ∧ match f s x with
      | .inl s' => ∃ r' S', execs c b r1 S = .ok ((.nx, r'), S') ∧ I s' r' S'
      | .inr o => ∃ d r' S', execs c b r1 S = .ok ((.rt d, r'), S') ∧ J o d r' S') (init : I s0 r S) :
    match lp f xs s0 with
    | .inl s' => ∃ r' S', execS c (.for_ tg it b) r S = .ok ((.nx, r'), S') ∧ I s' r' S'
    | .inr o => ∃ d r' S', execS c (.for_ tg it b) r S = .ok ((.rt d, r'), S') ∧ J o d r' S' := by
  rw [execS, hi, bd_k]
  refine forL_lp hw xs s0 r S (fun x hx s r S i => ?_) init
  obtain ⟨r1, e1, e2⟩ := step x hx s r S i
  rw [e1]
  exact e2
theorem eval_comp {c : Cfg} {tg : CT} {it : CI} {elt : CE} {r : Env} {S : Store} {α : Type} (xs : List α) (emb : α → D) (g : α → D)
    (hi : evalI c it r S = .ok ((xs.map emb, fun _ => true), S)) (hl : xs.length ≤ sizeLine)
    (step : ∀ x ∈ xs, ∃ r1, bindT tg (emb x) (wipeT tg r) = some r1 ∧ evalE c elt r1 S = .ok (g x, S)) :
    evalL c (.comp tg it .non elt) r S = .ok (xs.map g, S) := by
  rw [evalL, hi, bd_k, if_pos (by rw [List.length_map]; exact hl)]
  refine compL_map xs fun x hx => ?_
  obtain ⟨r1, e1, e2⟩ := step x hx
  rw [e1]
  show (evalC c .non r1 S).bd _ = _
  rw [evalC, bd_k, if_pos rfl, e2]; rfl
theorem eval_compF {c : Cfg} {tg : CT} {it : CI} {cd elt : CE} {r : Env} {S : Store} {α : Type} (xs : List α) (emb : α → D) (g : α → D) (p : α → Bool)
    (hi : evalI c it r S = .ok ((xs.map emb, fun _ => true), S)) (hl : xs.length ≤ sizeLine)
    (step : ∀ x ∈ xs, ∃ r1, bindT tg (emb x) (wipeT tg r) = some r1 ∧ evalT c cd r1 S = .ok (p x, S) ∧ (p x = true → evalE c elt r1 S = .ok (g x, S))) :
    evalL c (.comp tg it (.som cd) elt) r S = .ok ((xs.filter p).map g, S) := by
  rw [evalL, hi, bd_k, if_pos (by rw [List.length_map]; exact hl)]
  have : (xs.filter p).map g = xs.filterMap fun x => if p x = true then some (g x) else none := by
    rw [← List.filterMap_eq_map, List.filterMap_filter]; rfl
  rw [this]
  refine compL_fmap xs fun x hx => ?_
  obtain ⟨r1, e1, e2, e3⟩ := step x hx
  rw [e1]
  show (evalC c (.som cd) r1 S).bd _ = _
  rw [evalC, e2, bd_k]
  by_cases h : p x = true
  · rw [if_pos h, e3 h, if_pos h]; rfl
  · rw [if_neg h, if_neg h]
theorem execs_step {c : Cfg} {s : CS} {rest : CSs} {r r1 : Env} {S S1 : Store} (h : execS c s r S = .ok ((.nx, r1), S1)) : execs c (.cons s rest) r S = execs c rest r1 S1 := by
  rw [execs, h, bd_k]
theorem execs_ret {c : Cfg} {s : CS} {rest : CSs} {r r1 : Env} {S S1 : Store} {d : D} (h : execS c s r S = .ok ((.rt d, r1), S1)) : execs c (.cons s rest) r S = .ok ((.rt d, r1), S1) := by
  rw [execs, h, bd_k]
theorem ret_step {c : Cfg} {s : CS} {rest : CSs} {r r1 : Env} {S S1 S' : Store} {d : D} (h : execS c s r S = .ok ((.nx, r1), S1)) (k : ∃ r', execs c rest r1 S1 = .ok ((.rt d, r'), S')) : ∃ r', execs c (.cons s rest) r S = .ok ((.rt d, r'), S') := by
  rw [execs_step h]; exact k
theorem rat_step {c : Cfg} {s : CS} {rest : CSs} {r r1 : Env} {S S1 S' : Store} {d : D} (h : execS c s r S = .ok ((.nx, r1), S1)) (k : ∃ r' T, execs c rest r1 S1 = .ok ((.rt d, r'), S' ++ T)) : ∃ r' T, execs c (.cons s rest) r S = .ok ((.rt d, r'), S' ++ T) := by
  rw [execs_step h]; exact k
theorem size16 : sizeLine = 16777216 := rfl
theorem cmp_eq_int (S : Store) (i j : Int) : cmpD S .Eq (.int i) (.int j) = some (decide (i = j)) := id rfl
theorem cmp_ne_int (S : Store) (i j : Int) : cmpD S .NotEq (.int i) (.int j) = some (!decide (i = j)) := id rfl
theorem cmp_eq_str (S : Store) (i j : Str) : cmpD S .Eq (.str i) (.str j) = some (decide (i = j)) := id rfl
theorem cmp_ne_str (S : Store) (i j : Str) : cmpD S .NotEq (.str i) (.str j) = some (!decide (i = j)) := id rfl
theorem cmp_eq_bl (S : Store) (i j : Bool) : cmpD S .Eq (.bl i) (.bl j) = some (i == j) := id rfl
theorem cmp_ne_bl (S : Store) (i j : Bool) : cmpD S .NotEq (.bl i) (.bl j) = some (!(i == j)) := id rfl
theorem cmp_lt_int (S : Store) (i j : Int) : cmpD S .Lt (.int i) (.int j) = some (decide (i < j)) := id rfl
theorem cmp_le_int (S : Store) (i j : Int) : cmpD S .LtE (.int i) (.int j) = some (decide (i ≤ j)) := id rfl
theorem cmp_gt_int (S : Store) (i j : Int) : cmpD S .Gt (.int i) (.int j) = some (decide (j < i)) := id rfl
theorem cmp_ge_int (S : Store) (i j : Int) : cmpD S .GtE (.int i) (.int j) = some (decide (j ≤ i)) := id rfl
theorem cmp_is_non (S : Store) : cmpD S .Is .non .non = some true := id rfl
theorem cmp_is_int (S : Store) (i : Int) : cmpD S .Is (.int i) .non = some false := id rfl
theorem cmp_is_tup (S : Store) (i : List D) : cmpD S .Is (.tup i) .non = some false := id rfl
theorem cmp_isn_non (S : Store) : cmpD S .IsNot .non .non = some false := id rfl
theorem cmp_isn_int (S : Store) (i : Int) : cmpD S .IsNot (.int i) .non = some true := id rfl
theorem cmp_isn_tup (S : Store) (i : List D) : cmpD S .IsNot (.tup i) .non = some true := id rfl
theorem cmp_isn_bl (S : Store) (i j : Bool) : cmpD S .IsNot (.bl i) (.bl j) = some (!decide (i = j)) := id rfl
theorem cmp_is_bl (S : Store) (i j : Bool) : cmpD S .Is (.bl i) (.bl j) = some (decide (i = j)) := id rfl
theorem cmp_in_str (S : Store) (x y : Str) : cmpD S .In (.str x) (.str y) = some (inStr x y) := id rfl
theorem isi_bl (S : Store) (t : String) (b : Bool) : isiD S t (.bl b) = some (t == "bool" || t == "int") := id rfl
theorem isi_int (S : Store) (t : String) (b : Int) : isiD S t (.int b) = some (t == "int") := id rfl
theorem isi_str (S : Store) (t : String) (b : Str) : isiD S t (.str b) = some (t == "str") := id rfl
theorem isi_tup (S : Store) (t : String) (b : List D) : isiD S t (.tup b) = some (t == "tuple") := id rfl
theorem isi_lst (S : Store) (t : String) (b : List D) : isiD S t (.lst b) = some (t == "list") := id rfl
theorem isi_non (S : Store) (t : String) : isiD S t .non = some false := id rfl
theorem truth_bl (S : Store) (b : Bool) : truth S (.bl b) = some b := id rfl
theorem len_tup (S : Store) (xs : List D) : biD .len S [.tup xs] = some (.int xs.length) := id rfl
theorem len_lst (S : Store) (xs : List D) : biD .len S [.lst xs] = some (.int xs.length) := id rfl
theorem len_fro (S : Store) (xs : List Int) : biD .len S [.fro xs] = some (.int xs.length) := by
  show some (D.int ((xs.map D.int).length : Int)) = _
  rw [List.length_map]
theorem idx_tup (S : Store) (xs : List D) (i : Int) : idxD S (.tup xs) (.int i) = atI xs i := id rfl
theorem idx_lst (S : Store) (xs : List D) (i : Int) : idxD S (.lst xs) (.int i) = atI xs i := id rfl
theorem idx_fro (S : Store) (xs : List Int) (i : Int) : idxD S (.fro xs) (.int i) = atI (xs.map .int) i := id rfl
theorem bls_map {α : Type} (f : α → Bool) : ∀ l : List α, bls (l.map fun a => .bl (f a)) = some (l.map f)
  | [] => rfl
  | a :: r => by rw [List.map_cons, bls, bls_map f r]; rfl
theorem all_map {α : Type} (S : Store) (f : α → Bool) (l : List α) : biD .all S [.lst (l.map fun a => .bl (f a))] = some (.bl (l.all f)) := by
  show (bls _).map _ = _
  rw [bls_map]
  simp [List.all_map]
theorem any_map {α : Type} (S : Store) (f : α → Bool) (l : List α) : biD .any S [.lst (l.map fun a => .bl (f a))] = some (.bl (l.any f)) := by
  show (bls _).map _ = _
  rw [bls_map]
  simp [List.any_map]
theorem strL_map {α : Type} (f : α → Str) : ∀ l : List α, strL (l.map fun a => .str (f a)) = some (l.map f)
  | [] => rfl
  | a :: r => by rw [List.map_cons, strL, strL_map f r]; rfl
abbrev tx (l : List Nat) : Str := ⟨l.toArray⟩
theorem seqI_str (S : Store) (l : List Nat) : seqI S (.str (tx l)) = some (l.map (fun c => .str (tx [c])), fun _ => true) := id rfl
theorem seqI_tup (S : Store) (l : List D) : seqI S (.tup l) = some (l, fun _ => true) := id rfl
theorem seqI_lst (S : Store) (l : List D) : seqI S (.lst l) = some (l, fun _ => true) := id rfl
theorem rangeI_one {n : Nat} (h : n ≤ 1000000) : rangeI [.int (n : Int)] = some ((List.range n).map fun (k : Nat) => D.int (k : Int)) := by
  show (if inRng (n : Int) then some (rangeL 0 (n : Int).toNat) else none) = _
  rw [if_pos (by unfold inRng; simp; omega)]
  simp [rangeL]
theorem rangeI_lit {n : Nat} {i : Int} (e : i = n) (h : n ≤ 1000000) : rangeI [.int i] = some ((List.range n).map fun (k : Nat) => D.int (k : Int)) := by
  rw [e]; exact rangeI_one h
end Rf

namespace Cr
open PySem L2 Rf
def c__law_at_work_l0 : CL := (.comp (.nm 4) (.seq (.var 1)) .non (.tup (.cons (.str "") (.cons (.idx (.var 4) (.int 0)) (.cons (.idx (.var 4) (.int 1)) .nil)))))
def c__law_at_work_l1 : CL := (.comp (.nm 4) (.seq (.idx (.var 7) (.int 2))) .non (.tup (.cons (.var 5) (.cons (.idx (.var 4) (.int 0)) (.cons (.idx (.var 4) (.int 1)) .nil)))))
def c__law_at_work_b0 : CSs := (.cons (.ite (.cmp .Eq (.slc (.var 7) .non (.som (.int 2))) (.tup (.cons (.var 5) (.cons (.var 6) .nil)))) (.cons (.asg 3 (.new false (.cat (.var 3) (.new false c__law_at_work_l1)))) .nil) .nil) .nil)
def c__law_at_work_s0 : CS := (.for_ (.nm 7) (.seq (.var 0)) c__law_at_work_b0)
def c__law_at_work_b1 : CSs := (.cons c__law_at_work_s0 .nil)
def c__law_at_work_s1 : CS := (.for_ (.tp [5, 6]) (.seq (.var 2)) c__law_at_work_b1)
def c__law_at_work : FD := ⟨3, 8, (.cons (.asg 3 (.new false c__law_at_work_l0)) (.cons c__law_at_work_s1 (.cons (.ret (.var 3)) .nil))), false⟩
def c__law_book_l0 : CL := (.comp (.nm 4) (.seq (.var 1)) .non (.idx (.var 4) (.int 0)))
def c__law_book_l1 : CL := (.comp (.nm 4) (.seq (.var 1)) (.som (.cmp .Eq (.idx (.var 4) (.int 0)) (.idx (.var 3) (.var 6)))) (.idx (.var 4) (.int 1)))
def c__law_book_b0 : CSs := (.cons (.asg 7 (.new false c__law_book_l1)) (.cons (.ite (.cmp .Lt (.idx (.var 2) (.bin .Mult (.int 2) (.var 6))) (.int 3)) (.cons (.expr (.mut .append (.var 5) (.cons (.tup (.cons (.idx (.var 3) (.var 6)) (.cons (.idx (.var 7) (.bin .Mod (.idx (.var 2) (.bin .Add (.bin .Mult (.int 2) (.var 6)) (.int 1))) (.bi .len (.cons (.var 7) .nil)))) .nil))) .nil))) .nil) .nil) .nil))
def c__law_book_s0 : CS := (.for_ (.nm 6) (.range (.cons (.bi .len (.cons (.var 3) .nil)) .nil)) c__law_book_b0)
def c__law_book : FD := ⟨2, 8, (.cons (.asg 2 (.call "_law_draws" (.cons (.var 0) (.cons (.new false (.rep (.new false (.disp (.cons (.int 4) (.cons (.int 12) .nil)))) (.int 8))) .nil)))) (.cons (.asg 3 (.new false (.sset (.new false c__law_book_l0)))) (.cons (.asg 5 (.new true (.disp .nil))) (.cons c__law_book_s0 (.cons (.ret (.bi .tuple (.cons (.var 5) .nil))) .nil))))), false⟩
def c__law_broken_l0 : CL := (.comp (.nm 3) (.seq (.call "_law_at_work" (.cons (.var 0) (.cons (.var 1) (.cons (.var 2) .nil))))) (.som (.not (.call "_law_is_met" (.cons (.slc (.var 3) (.som (.int 1)) .non) (.cons (.var 2) .nil))))) (.var 3))
def c__law_broken : FD := ⟨3, 4, (.cons (.ret (.new false c__law_broken_l0)) .nil), false⟩
def c__law_cell : FD := ⟨2, 2, (.cons (.ite (.cmp .Eq (.bi .len (.cons (.var 0) .nil)) (.int 0)) (.cons (.ret (.bin .Mult (.int 7919) (.var 1))) .nil) .nil) (.cons (.ret (.bin .Add (.idx (.var 0) (.bin .Mod (.var 1) (.bi .len (.cons (.var 0) .nil)))) (.bin .Mult (.int 7919) (.bin .FloorDiv (.var 1) (.bi .len (.cons (.var 0) .nil)))))) .nil)), false⟩
def c__law_draw : FD := ⟨3, 6, (.cons (.asg 3 (.int 0)) (.cons (.asg 4 (.int 0)) (.cons (.ite (.cmp .Gt (.bi .len (.cons (.var 0) .nil)) (.int 0)) (.cons (.asg 3 (.idx (.var 0) (.bin .Mod (.var 1) (.bi .len (.cons (.var 0) .nil))))) (.cons (.asg 4 (.bin .Mod (.bin .FloorDiv (.var 1) (.bi .len (.cons (.var 0) .nil))) (.int 40))) .nil)) .nil) (.cons (.ite (.cmp .Eq (.bin .Mod (.var 3) (.int 2)) (.int 1)) (.cons (.ret (.bin .Mod (.bin .RShift (.var 3) (.bin .Add (.int 1) (.bin .Mult (.int 6) (.var 4)))) (.var 2))) .nil) .nil) (.cons (.asg 5 (.bin .Mod (.bin .Mult (.bin .Add (.bin .Mod (.var 3) (.int 2147483629)) (.int 1)) (.bin .Add (.bin .Mult (.bin .Mult (.int 31) (.var 1)) (.var 1)) (.int 7919))) (.int 2147483647))) (.cons (.ret (.bin .Mod (.bin .FloorDiv (.bin .Mod (.bin .Add (.bin .Mult (.var 5) (.bin .Add (.bin .Mod (.var 5) (.int 65521)) (.int 48271))) (.var 1)) (.int 2147483629)) (.int 7)) (.var 2))) .nil)))))), false⟩
def c__law_draws_b0 : CSs := (.cons (.asg 5 (.bin .Mod (.bin .Mult (.bin .Add (.bin .Mod (.var 0) (.int 1000003)) (.int 1)) (.bin .Add (.int 48271) (.bin .Mult (.int 31) (.var 4)))) (.int 2147483629))) (.cons (.asg 5 (.bin .Mod (.bin .Mult (.bin .Add (.bin .Add (.var 5) (.bin .Mult (.bin .Mult (.int 7919) (.var 4)) (.var 4))) (.int 11)) (.int 69621)) (.int 999983))) (.cons (.ite (.cmp .Eq (.bin .Mod (.var 0) (.int 2)) (.int 0)) (.cons (.asg 5 (.var 3)) .nil) .nil) (.cons (.expr (.mut .append (.var 2) (.cons (.bin .Mod (.var 5) (.idx (.var 1) (.var 4))) .nil))) (.cons (.asg 3 (.bin .FloorDiv (.var 3) (.idx (.var 1) (.var 4)))) .nil)))))
def c__law_draws_s0 : CS := (.for_ (.nm 4) (.range (.cons (.bi .len (.cons (.var 1) .nil)) .nil)) c__law_draws_b0)
def c__law_draws : FD := ⟨2, 6, (.cons (.asg 2 (.new true (.disp .nil))) (.cons (.asg 3 (.bin .FloorDiv (.var 0) (.int 2))) (.cons c__law_draws_s0 (.cons (.ret (.var 2)) .nil)))), false⟩
def c__law_entry : FD := ⟨1, 3, (.cons (.asg 1 (.call "_law_draws" (.cons (.var 0) (.cons (.new false (.cat (.new false (.disp (.cons (.int 8) (.cons (.int 3) (.cons (.int 3) (.cons (.int 4) (.cons (.int 4) (.cons (.int 7) (.cons (.int 7) (.cons (.int 4) .nil)))))))))) (.new false (.rep (.new false (.disp (.cons (.int 8) (.cons (.int 7) (.cons (.int 3) (.cons (.int 3) (.cons (.int 4) (.cons (.int 4) (.cons (.int 7) (.cons (.int 7) .nil)))))))))) (.int 3))))) .nil)))) (.cons (.asg 2 (.call "_law_title" (.cons (.idx (.var 1) (.int 0)) .nil))) (.cons (.ret (.tup (.cons (.var 2) (.cons (.call "_law_make" (.cons (.new false (.slc (.var 1) (.som (.int 1)) (.som (.int 7)))) .nil)) (.cons (.call "_law_needs" (.cons (.var 2) (.cons (.new false (.slc (.var 1) (.som (.int 8)) (.som (.bin .Add (.int 8) (.bin .Mult (.int 8) (.idx (.var 1) (.int 7))))))) .nil))) .nil))))) .nil))), false⟩
def c__law_great : FD := ⟨1, 1, (.cons (.ite (.cmp .Gt (.idx (.var 0) (.int 0)) (.int 0)) (.cons (.ret (.tup (.cons (.bin .Add (.idx (.var 0) (.int 0)) (.int 1)) (.cons (.int 0) (.cons (.int 0) (.cons (.tup (.cons (.int 0) .nil)) .nil)))))) .nil) .nil) (.cons (.ite (.cmp .Gt (.idx (.var 0) (.int 1)) (.int 0)) (.cons (.ret (.tup (.cons (.int 0) (.cons (.bin .Add (.idx (.var 0) (.int 1)) (.int 1)) (.cons (.int 0) (.cons (.tup (.cons (.int 0) .nil)) .nil)))))) .nil) .nil) (.cons (.ret (.tup (.cons (.int 0) (.cons (.int 0) (.cons (.bin .Add (.idx (.var 0) (.int 2)) (.int 1)) (.cons (.tup (.cons (.int 0) .nil)) .nil)))))) .nil))), false⟩
def c__law_in_b0 : CSs := (.cons (.ite (.and (.not (.call "_law_older" (.cons (.var 0) (.cons (.var 2) .nil)))) (.or (.cmp .Is (.var 3) .non) (.call "_law_older" (.cons (.var 0) (.cons (.var 3) .nil))))) (.cons (.ret (.bl true)) .nil) .nil) .nil)
def c__law_in_s0 : CS := (.for_ (.tp [2, 3]) (.seq (.var 1)) c__law_in_b0)
def c__law_in : FD := ⟨2, 4, (.cons c__law_in_s0 (.cons (.ret (.bl false)) .nil)), false⟩
def c__law_is_met_b0 : CSs := (.cons (.ite (.cmp .Eq (.var 2) (.idx (.var 0) (.int 0))) (.cons (.ret (.call "_law_lies" (.cons (.var 3) (.cons (.idx (.var 0) (.int 1)) .nil)))) .nil) .nil) .nil)
def c__law_is_met_s0 : CS := (.for_ (.tp [2, 3]) (.seq (.var 1)) c__law_is_met_b0)
def c__law_is_met : FD := ⟨2, 4, (.cons c__law_is_met_s0 (.cons (.ret (.bl false)) .nil)), false⟩
def c__law_key_b0 : CSs := (.cons (.ite (.isi (.var 2) "str") (.cons (.expr (.mut .append (.var 1) (.cons (.tup (.cons (.int 1) (.cons (.int 0) (.cons (.var 2) .nil)))) .nil))) .nil) (.cons (.expr (.mut .append (.var 1) (.cons (.tup (.cons (.int 0) (.cons (.var 2) (.cons (.str "") .nil)))) .nil))) .nil)) .nil)
def c__law_key_s0 : CS := (.for_ (.nm 2) (.seq (.idx (.var 0) (.int 3))) c__law_key_b0)
def c__law_key : FD := ⟨1, 3, (.cons (.asg 1 (.new true (.disp .nil))) (.cons c__law_key_s0 (.cons (.ret (.tup (.cons (.idx (.var 0) (.int 0)) (.cons (.idx (.var 0) (.int 1)) (.cons (.idx (.var 0) (.int 2)) (.cons (.bi .int (.cons (.cmp .Eq (.idx (.var 0) (.int 3)) (.tup .nil)) .nil)) (.cons (.var 1) .nil))))))) .nil))), false⟩
def c__law_lies_b0 : CSs := (.cons (.ite (.and (.not (.cmp .Lt (.call "_law_key" (.cons (.var 0) .nil)) (.call "_law_key" (.cons (.var 2) .nil)))) (.or (.cmp .Is (.var 3) .non) (.cmp .Lt (.call "_law_key" (.cons (.var 0) .nil)) (.call "_law_key" (.cons (.var 3) .nil))))) (.cons (.ret (.bl true)) .nil) .nil) .nil)
def c__law_lies_s0 : CS := (.for_ (.tp [2, 3]) (.seq (.var 1)) c__law_lies_b0)
def c__law_lies : FD := ⟨2, 4, (.cons c__law_lies_s0 (.cons (.ret (.bl false)) .nil)), false⟩
def c__law_make_l0 : CL := (.comp (.nm 3) (.range (.cons (.int 3) .nil)) .non (.call "_law_draw" (.cons (.var 0) (.cons (.bin .Add (.var 1) (.var 3)) (.cons (.int 3) .nil)))))
def c__law_make_l1 : CL := (.comp (.nm 3) (.range (.cons (.var 4) .nil)) .non (.call "_law_mark" (.cons (.var 0) (.cons (.bin .Add (.bin .Add (.var 1) (.int 6)) (.var 3)) .nil))))
def c__law_make : FD := ⟨2, 5, (.cons (.asg 2 (.new true c__law_make_l0)) (.cons (.ite (.cmp .Eq (.call "_law_draw" (.cons (.var 0) (.cons (.bin .Add (.var 1) (.int 3)) (.cons (.int 9) .nil)))) (.int 8)) (.cons (.asgs (.var 2) (.call "_law_draw" (.cons (.var 0) (.cons (.bin .Add (.var 1) (.int 4)) (.cons (.int 3) .nil)))) (.idx (.new false (.disp (.cons (.int 9) (.cons (.int 10) (.cons (.bin .Sub (.bin .Pow (.int 10) (.int 12)) (.int 1)) .nil))))) (.call "_law_draw" (.cons (.var 0) (.cons (.bin .Add (.var 1) (.int 5)) (.cons (.int 3) .nil)))))) .nil) .nil) (.cons (.asg 4 (.idx (.new false (.disp (.cons (.int 0) (.cons (.int 0) (.cons (.int 1) (.cons (.int 1) (.cons (.int 2) (.cons (.int 3) (.cons (.int 8) .nil))))))))) (.call "_law_draw" (.cons (.var 0) (.cons (.bin .Add (.var 1) (.int 4)) (.cons (.int 7) .nil)))))) (.cons (.ret (.bin .Add (.bi .tuple (.cons (.var 2) .nil)) (.tup (.cons (.bi .tuple (.cons (.new false c__law_make_l1) .nil)) .nil)))) .nil)))), false⟩
def c__law_make_v1_l0 : CL := (.comp (.nm 3) (.range (.cons (.int 3) .nil)) .non (.call "_law_draw" (.cons (.var 0) (.cons (.bin .Add (.var 1) (.var 3)) (.cons (.int 3) .nil)))))
def c__law_make_v1_l1 : CL := (.comp (.nm 3) (.range (.cons (.var 4) .nil)) .non (.call "_law_mark" (.cons (.var 0) (.cons (.bin .Add (.bin .Add (.var 1) (.int 6)) (.var 3)) .nil))))
def c__law_make_v1 : FD := ⟨2, 5, (.cons (.asg 2 (.new true c__law_make_v1_l0)) (.cons (.ite (.cmp .Eq (.call "_law_draw" (.cons (.var 0) (.cons (.bin .Add (.var 1) (.int 3)) (.cons (.int 9) .nil)))) (.int 8)) (.cons (.asgs (.var 2) (.call "_law_draw" (.cons (.var 0) (.cons (.bin .Add (.var 1) (.int 4)) (.cons (.int 3) .nil)))) (.idx (.new false (.disp (.cons (.int 9) (.cons (.int 10) (.cons (.bin .Sub (.bin .Pow (.int 10) (.int 12)) (.int 20)) .nil))))) (.call "_law_draw" (.cons (.var 0) (.cons (.bin .Add (.var 1) (.int 5)) (.cons (.int 3) .nil)))))) .nil) .nil) (.cons (.asg 4 (.idx (.new false (.disp (.cons (.int 0) (.cons (.int 0) (.cons (.int 1) (.cons (.int 1) (.cons (.int 2) (.cons (.int 3) (.cons (.int 8) .nil))))))))) (.call "_law_draw" (.cons (.var 0) (.cons (.bin .Add (.var 1) (.int 4)) (.cons (.int 7) .nil)))))) (.cons (.ret (.bin .Add (.bi .tuple (.cons (.var 2) .nil)) (.tup (.cons (.bi .tuple (.cons (.new false c__law_make_v1_l1) .nil)) .nil)))) .nil)))), false⟩
def c__law_make_v2 : FD := ⟨1, 4, (.cons (.asg 1 (.new false (.disp (.cons (.int 0) (.cons (.int 1) (.cons (.int 10) (.cons (.str "a") (.cons (.str "ab") (.cons (.str "b") (.cons (.str "zz") .nil)))))))))) (.cons (.asg 2 (.idx (.new false (.disp (.cons (.int 0) (.cons (.int 0) (.cons (.int 1) (.cons (.int 2) .nil)))))) (.idx (.var 0) (.int 3)))) (.cons (.asg 3 (.bin .Add (.idx (.var 0) (.int 0)) (.bin .Mult (.int 8) (.bi .int (.cons (.and (.cmp .Eq (.idx (.var 0) (.int 3)) (.int 0)) (.cmp .Gt (.idx (.var 0) (.int 4)) (.int 3))) .nil))))) (.cons (.ret (.tup (.cons (.var 3) (.cons (.idx (.var 0) (.int 1)) (.cons (.idx (.var 0) (.int 2)) (.cons (.bi .tuple (.cons (.new false (.slc (.new false (.disp (.cons (.idx (.var 1) (.idx (.var 0) (.int 4))) (.cons (.idx (.var 1) (.idx (.var 0) (.int 5))) .nil)))) .non (.som (.var 2)))) .nil)) .nil)))))) .nil)))), false⟩
def c__law_makes_b0 : CSs := (.cons (.asg 5 (.call "_law_make" (.cons (.var 0) (.cons (.bin .Add (.bin .Add (.var 1) (.int 12)) (.bin .Mult (.int 20) (.var 4))) .nil)))) (.cons (.ite (.and (.cmp .Gt (.var 4) (.int 0)) (.cmp .Gt (.call "_law_draw" (.cons (.var 0) (.cons (.bin .Add (.var 1) (.bin .Mod (.var 4) (.int 6))) (.cons (.int 4) .nil)))) (.int 0))) (.cons (.asg 5 (.call "_law_near" (.cons (.var 0) (.cons (.bin .Add (.bin .Add (.var 1) (.int 12)) (.bin .Mult (.int 20) (.var 4))) (.cons (.idx (.var 3) (.call "_law_draw" (.cons (.var 0) (.cons (.bin .Add (.bin .Add (.var 1) (.int 6)) (.bin .Mod (.var 4) (.int 6))) (.cons (.var 4) .nil))))) .nil))))) .nil) .nil) (.cons (.expr (.mut .append (.var 3) (.cons (.var 5) .nil))) .nil)))
def c__law_makes_s0 : CS := (.for_ (.nm 4) (.range (.cons (.var 2) .nil)) c__law_makes_b0)
def c__law_makes : FD := ⟨3, 6, (.cons (.asg 3 (.new true (.disp .nil))) (.cons c__law_makes_s0 (.cons (.ret (.var 3)) .nil))), false⟩
def c__law_makes_v1_l0 : CL := (.comp (.nm 3) (.seq (.var 0)) (.som (.cmp .Eq (.idx (.var 3) (.int 0)) (.var 1))) (.idx (.var 3) (.int 1)))
def c__law_makes_v1 : FD := ⟨2, 4, (.cons (.asg 2 (.new true (.sortk "_law_key" (.new false c__law_makes_v1_l0)))) (.cons (.expr (.mut .reverse (.var 2) .nil)) (.cons (.ret (.var 2)) .nil))), false⟩
def c__law_mark : FD := ⟨2, 3, (.cons (.asg 2 (.new false (.disp (.cons (.int 0) (.cons (.int 1) (.cons (.str "a") (.cons (.str "ab") (.cons (.str "b") (.cons (.int 2) (.cons (.int 10) (.cons (.str "zzzzzzzz") (.cons (.str "abc") (.cons (.bin .Sub (.bin .Pow (.int 10) (.int 12)) (.int 1)) (.cons (.str "ba") .nil)))))))))))))) (.cons (.ret (.idx (.var 2) (.call "_law_draw" (.cons (.var 0) (.cons (.var 1) (.cons (.int 11) .nil)))))) .nil)), false⟩
def c__law_mark_older : FD := ⟨2, 2, (.cons (.ite (.cmp .NotEq (.isi (.var 0) "str") (.isi (.var 1) "str")) (.cons (.ret (.isi (.var 1) "str")) .nil) .nil) (.cons (.ret (.cmp .Lt (.var 0) (.var 1))) .nil)), false⟩
def c__law_near : FD := ⟨3, 9, (.cons (.asgt [3, 4, 5, 6] (.var 2)) (.cons (.asg 7 (.new true (.disp (.cons (.var 2) (.cons (.tup (.cons (.var 3) (.cons (.var 4) (.cons (.var 5) (.cons (.tup .nil) .nil))))) (.cons (.tup (.cons (.var 3) (.cons (.var 4) (.cons (.var 5) (.cons (.slc (.var 6) .non (.som (.neg (.int 1)))) .nil))))) (.cons (.tup (.cons (.var 3) (.cons (.var 4) (.cons (.bin .Add (.var 5) (.int 1)) (.cons (.tup (.cons (.int 0) .nil)) .nil))))) .nil))))))) (.cons (.asg 7 (.new true (.cat (.var 7) (.new false (.disp (.cons (.tup (.cons (.var 3) (.cons (.bin .Add (.var 4) (.int 1)) (.cons (.int 0) (.cons (.tup (.cons (.int 0) .nil)) .nil))))) (.cons (.tup (.cons (.bin .Add (.var 3) (.int 1)) (.cons (.int 0) (.cons (.int 0) (.cons (.tup (.cons (.int 0) .nil)) .nil))))) (.cons (.tup (.cons (.var 3) (.cons (.var 4) (.cons (.int 0) (.cons (.tup .nil) .nil))))) (.cons (.tup (.cons (.int 0) (.cons (.int 0) (.cons (.int 0) (.cons (.tup (.cons (.int 0) .nil)) .nil))))) .nil))))))))) (.cons (.ite (.cmp .Lt (.bi .len (.cons (.var 6) .nil)) (.int 8)) (.cons (.expr (.mut .append (.var 7) (.cons (.tup (.cons (.var 3) (.cons (.var 4) (.cons (.var 5) (.cons (.bin .Add (.var 6) (.tup (.cons (.call "_law_mark" (.cons (.var 0) (.cons (.bin .Add (.var 1) (.int 1)) .nil))) .nil))) .nil))))) .nil))) (.cons (.expr (.mut .append (.var 7) (.cons (.tup (.cons (.var 3) (.cons (.var 4) (.cons (.var 5) (.cons (.bin .Add (.var 6) (.tup (.cons (.int 0) .nil))) .nil))))) .nil))) .nil)) .nil) (.cons (.ite (.cmp .Gt (.bi .len (.cons (.var 6) .nil)) (.int 0)) (.cons (.expr (.mut .append (.var 7) (.cons (.tup (.cons (.var 3) (.cons (.var 4) (.cons (.var 5) (.cons (.bin .Add (.slc (.var 6) .non (.som (.neg (.int 1)))) (.tup (.cons (.call "_law_mark" (.cons (.var 0) (.cons (.bin .Add (.var 1) (.int 1)) .nil))) .nil))) .nil))))) .nil))) .nil) .nil) (.cons (.asg 8 (.idx (.var 7) (.call "_law_draw" (.cons (.var 0) (.cons (.var 1) (.cons (.bi .len (.cons (.var 7) .nil)) .nil)))))) (.cons (.ite (.and (.cmp .Lt (.bi .max (.cons (.slc (.var 8) .non (.som (.int 3))) .nil)) (.bin .Pow (.int 10) (.int 12))) (.cmp .Gt (.call "_law_draw" (.cons (.var 0) (.cons (.bin .Add (.var 1) (.int 2)) (.cons (.int 4) .nil)))) (.int 0))) (.cons (.ret (.var 8)) .nil) .nil) (.cons (.ret (.call "_law_make" (.cons (.var 0) (.cons (.bin .Add (.var 1) (.int 2)) .nil)))) .nil)))))))), false⟩
def c__law_need_span : FD := ⟨2, 3, (.cons (.asg 2 (.tup (.cons (.int 0) (.cons (.int 0) (.cons (.int 0) (.cons (.tup (.cons (.int 0) .nil)) .nil)))))) (.cons (.ite (.cmp .Eq (.var 0) (.int 0)) (.cons (.ret (.tup (.cons (.tup (.cons (.var 1) (.cons .non .nil))) .nil))) .nil) .nil) (.cons (.ite (.cmp .Eq (.var 0) (.int 1)) (.cons (.ret (.tup (.cons (.tup (.cons (.var 1) (.cons (.call "_law_great" (.cons (.var 1) .nil)) .nil))) .nil))) .nil) .nil) (.cons (.ite (.cmp .Eq (.var 0) (.int 2)) (.cons (.ret (.tup (.cons (.tup (.cons (.var 1) (.cons (.tup (.cons (.idx (.var 1) (.int 0)) (.cons (.bin .Add (.idx (.var 1) (.int 1)) (.int 1)) (.cons (.int 0) (.cons (.tup (.cons (.int 0) .nil)) .nil))))) .nil))) .nil))) .nil) .nil) (.cons (.ite (.cmp .Eq (.var 0) (.int 3)) (.cons (.ret (.tup (.cons (.tup (.cons (.var 1) (.cons (.call "_law_next" (.cons (.var 1) .nil)) .nil))) .nil))) .nil) .nil) (.cons (.ite (.cmp .Eq (.var 0) (.int 4)) (.cons (.ret (.tup (.cons (.tup (.cons (.var 2) (.cons .non .nil))) .nil))) .nil) .nil) (.cons (.ite (.and (.cmp .Eq (.var 0) (.int 5)) (.cmp .NotEq (.var 1) (.var 2))) (.cons (.ret (.tup (.cons (.tup (.cons (.var 2) (.cons (.var 1) .nil))) (.cons (.tup (.cons (.call "_law_next" (.cons (.var 1) .nil)) (.cons .non .nil))) .nil)))) .nil) .nil) (.cons (.ret (.tup (.cons (.tup (.cons (.var 2) (.cons (.call "_law_next" (.cons (.var 1) .nil)) .nil))) .nil))) .nil)))))))), false⟩
def c__law_needs_l0 : CL := (.comp (.nm 5) (.seq (.var 2)) .non (.idx (.var 5) (.int 0)))
def c__law_needs_b0 : CSs := (.cons (.asg 4 (.call "_law_title" (.cons (.idx (.var 1) (.bin .Mult (.int 8) (.var 3))) .nil))) (.cons (.ite (.and (.cmp .NotEq (.var 4) (.var 0)) (.cmp .NotIn (.var 4) (.new false c__law_needs_l0))) (.cons (.expr (.mut .append (.var 2) (.cons (.tup (.cons (.var 4) (.cons (.call "_law_need_span" (.cons (.idx (.var 1) (.bin .Add (.bin .Mult (.int 8) (.var 3)) (.int 1))) (.cons (.call "_law_make" (.cons (.new false (.slc (.var 1) (.som (.bin .Add (.bin .Mult (.int 8) (.var 3)) (.int 2))) (.som (.bin .Add (.bin .Mult (.int 8) (.var 3)) (.int 8))))) .nil)) .nil))) .nil))) .nil))) .nil) .nil) .nil))
def c__law_needs_s0 : CS := (.for_ (.nm 3) (.range (.cons (.bin .FloorDiv (.bi .len (.cons (.var 1) .nil)) (.int 8)) .nil)) c__law_needs_b0)
def c__law_needs : FD := ⟨2, 6, (.cons (.asg 2 (.new true (.disp .nil))) (.cons c__law_needs_s0 (.cons (.ret (.bi .tuple (.cons (.var 2) .nil))) .nil))), false⟩
def c__law_newest_b0 : CSs := (.cons (.ite (.cmp .Eq (.call "_law_broken" (.cons (.var 0) (.cons (.var 1) (.cons (.call "_law_with" (.cons (.var 2) (.cons (.var 3) (.cons (.var 4) .nil)))) .nil)))) (.new false (.disp .nil))) (.cons (.ret (.var 4)) .nil) .nil) .nil)
def c__law_newest_s0 : CS := (.for_ (.nm 4) (.seq (.call "_law_makes" (.cons (.var 0) (.cons (.var 3) .nil)))) c__law_newest_b0)
def c__law_newest : FD := ⟨4, 5, (.cons c__law_newest_s0 (.cons (.ret .non) .nil)), false⟩
def c__law_next : FD := ⟨1, 1, (.cons (.ite (.cmp .Eq (.idx (.var 0) (.int 3)) (.tup .nil)) (.cons (.ret (.tup (.cons (.idx (.var 0) (.int 0)) (.cons (.idx (.var 0) (.int 1)) (.cons (.bin .Add (.idx (.var 0) (.int 2)) (.int 1)) (.cons (.tup (.cons (.int 0) .nil)) .nil)))))) .nil) .nil) (.cons (.ret (.bin .Add (.slc (.var 0) .non (.som (.int 3))) (.tup (.cons (.bin .Add (.idx (.var 0) (.int 3)) (.tup (.cons (.int 0) .nil))) .nil)))) .nil)), false⟩
def c__law_older_b0 : CSs := (.cons (.ite (.cmp .NotEq (.idx (.var 0) (.var 2)) (.idx (.var 1) (.var 2))) (.cons (.ret (.cmp .Lt (.idx (.var 0) (.var 2)) (.idx (.var 1) (.var 2)))) .nil) .nil) .nil)
def c__law_older_s0 : CS := (.for_ (.nm 2) (.range (.cons (.int 3) .nil)) c__law_older_b0)
def c__law_older_b1 : CSs := (.cons (.ite (.cmp .NotEq (.idx (.idx (.var 0) (.int 3)) (.var 2)) (.idx (.idx (.var 1) (.int 3)) (.var 2))) (.cons (.ret (.call "_law_mark_older" (.cons (.idx (.idx (.var 0) (.int 3)) (.var 2)) (.cons (.idx (.idx (.var 1) (.int 3)) (.var 2)) .nil)))) .nil) .nil) .nil)
def c__law_older_s1 : CS := (.for_ (.nm 2) (.range (.cons (.bi .min (.cons (.bi .len (.cons (.idx (.var 0) (.int 3)) .nil)) (.cons (.bi .len (.cons (.idx (.var 1) (.int 3)) .nil)) .nil))) .nil)) c__law_older_b1)
def c__law_older : FD := ⟨2, 3, (.cons c__law_older_s0 (.cons (.ite (.or (.cmp .Eq (.idx (.var 0) (.int 3)) (.tup .nil)) (.cmp .Eq (.idx (.var 1) (.int 3)) (.tup .nil))) (.cons (.ret (.and (.cmp .NotEq (.idx (.var 0) (.int 3)) (.tup .nil)) (.cmp .Eq (.idx (.var 1) (.int 3)) (.tup .nil)))) .nil) .nil) (.cons c__law_older_s1 (.cons (.ret (.cmp .Lt (.bi .len (.cons (.idx (.var 0) (.int 3)) .nil)) (.bi .len (.cons (.idx (.var 1) (.int 3)) .nil)))) .nil)))), false⟩
def c__law_pieces_b0 : CSs := (.cons (.asg 3 .non) (.cons (.ite (.cmp .Lt (.bin .Add (.var 2) (.int 1)) (.bi .len (.cons (.var 0) .nil))) (.cons (.asg 3 (.idx (.var 0) (.bin .Add (.var 2) (.int 1)))) .nil) .nil) (.cons (.expr (.mut .append (.var 1) (.cons (.tup (.cons (.idx (.var 0) (.var 2)) (.cons (.var 3) .nil))) .nil))) .nil)))
def c__law_pieces_s0 : CS := (.for_ (.nm 2) (.range (.cons (.int 0) (.cons (.bi .len (.cons (.var 0) .nil)) (.cons (.int 2) .nil)))) c__law_pieces_b0)
def c__law_pieces : FD := ⟨1, 4, (.cons (.asg 1 (.new true (.disp .nil))) (.cons c__law_pieces_s0 (.cons (.ret (.bi .tuple (.cons (.var 1) .nil))) .nil))), false⟩
def c__law_shelf_l0 : CL := (.comp (.nm 7) (.seq (.var 4)) .non (.slc (.var 7) .non (.som (.int 2))))
def c__law_shelf_b0 : CSs := (.cons (.asg 6 (.call "_law_entry" (.cons (.call "_law_cell" (.cons (.var 0) (.cons (.bin .Add (.var 1) (.var 5)) .nil))) .nil))) (.cons (.ite (.cmp .NotIn (.slc (.var 6) .non (.som (.int 2))) (.new false c__law_shelf_l0)) (.cons (.expr (.mut .append (.var 4) (.cons (.var 6) .nil))) .nil) .nil) .nil))
def c__law_shelf_s0 : CS := (.for_ (.nm 5) (.range (.cons (.var 3) .nil)) c__law_shelf_b0)
def c__law_shelf : FD := ⟨2, 8, (.cons (.asg 2 (.call "_law_draws" (.cons (.call "_law_cell" (.cons (.var 0) (.cons (.int 0) .nil))) (.cons (.new false (.disp (.cons (.int 16) (.cons (.int 10) .nil)))) .nil)))) (.cons (.asg 3 (.idx (.var 2) (.int 1))) (.cons (.ite (.cmp .Eq (.idx (.var 2) (.int 0)) (.int 3)) (.cons (.asg 3 (.int 40)) .nil) .nil) (.cons (.asg 4 (.new true (.disp .nil))) (.cons c__law_shelf_s0 (.cons (.ret (.bi .tuple (.cons (.var 4) .nil))) .nil)))))), false⟩
def c__law_sorted_b0 : CSs := (.cons (.asg 3 (.bin .Add (.var 3) (.int 1))) .nil)
def c__law_sorted_s0 : CS := (.while_ 100000 (.and (.cmp .Lt (.var 3) (.bi .len (.cons (.var 1) .nil))) (.call "_law_older" (.cons (.idx (.var 1) (.var 3)) (.cons (.var 2) .nil)))) c__law_sorted_b0)
def c__law_sorted_b1 : CSs := (.cons (.asg 3 (.int 0)) (.cons c__law_sorted_s0 (.cons (.ite (.or (.cmp .Eq (.var 3) (.bi .len (.cons (.var 1) .nil))) (.cmp .NotEq (.idx (.var 1) (.var 3)) (.var 2))) (.cons (.expr (.mut .insert (.var 1) (.cons (.var 3) (.cons (.var 2) .nil)))) .nil) .nil) .nil)))
def c__law_sorted_s1 : CS := (.for_ (.nm 2) (.seq (.var 0)) c__law_sorted_b1)
def c__law_sorted : FD := ⟨1, 4, (.cons (.asg 1 (.new true (.disp .nil))) (.cons c__law_sorted_s1 (.cons (.ret (.var 1)) .nil))), false⟩
def c__law_sounded_l0 : CL := (.comp (.nm 7) (.seq (.var 6)) (.som (.call "_law_is_met" (.cons (.var 7) (.cons (.var 2) .nil)))) (.var 7))
def c__law_sounded_b0 : CSs := (.cons (.ite (.cmp .In (.tup (.cons (.var 4) (.cons (.var 5) .nil))) (.var 2)) (.cons (.asg 6 (.bi .tuple (.cons (.new false c__law_sounded_l0) .nil))) .nil) .nil) (.cons (.expr (.mut .append (.var 3) (.cons (.tup (.cons (.var 4) (.cons (.var 5) (.cons (.var 6) .nil)))) .nil))) .nil))
def c__law_sounded_s0 : CS := (.for_ (.tp [4, 5, 6]) (.seq (.var 0)) c__law_sounded_b0)
def c__law_sounded_l1 : CL := (.comp (.nm 7) (.seq (.var 1)) (.som (.call "_law_is_met" (.cons (.var 7) (.cons (.var 2) .nil)))) (.var 7))
def c__law_sounded : FD := ⟨3, 8, (.cons (.asg 3 (.new true (.disp .nil))) (.cons c__law_sounded_s0 (.cons (.ret (.tup (.cons (.bi .tuple (.cons (.var 3) .nil)) (.cons (.bi .tuple (.cons (.new false c__law_sounded_l1) .nil)) .nil)))) .nil))), false⟩
def c__law_step_b0 : CSs := (.cons (.asg 5 (.call "_law_newest" (.cons (.var 0) (.cons (.var 1) (.cons (.var 2) (.cons (.var 3) .nil)))))) (.cons (.ite (.cmp .NotEq (.var 5) (.var 4)) (.cons (.ret (.call "_law_with" (.cons (.var 2) (.cons (.var 3) (.cons (.var 5) .nil))))) .nil) .nil) .nil))
def c__law_step_s0 : CS := (.for_ (.tp [3, 4]) (.seq (.var 2)) c__law_step_b0)
def c__law_step : FD := ⟨3, 6, (.cons c__law_step_s0 (.cons (.ret (.var 2)) .nil)), false⟩
def c__law_title : FD := ⟨1, 1, (.cons (.ret (.idx (.new false (.disp (.cons (.str "a") (.cons (.str "ab") (.cons (.str "abc") (.cons (.str "b") (.cons (.str "part") (.cons (.str "need") (.cons (.str "zz") (.cons (.str "abcdefgh") .nil)))))))))) (.var 0))) .nil), false⟩
def c__law_wants : FD := ⟨1, 2, (.cons (.asg 1 (.call "_law_draws" (.cons (.var 0) (.cons (.new false (.cat (.new false (.disp (.cons (.int 5) .nil))) (.new false (.rep (.new false (.disp (.cons (.int 8) (.cons (.int 7) (.cons (.int 3) (.cons (.int 3) (.cons (.int 4) (.cons (.int 4) (.cons (.int 7) (.cons (.int 7) .nil)))))))))) (.int 4))))) .nil)))) (.cons (.ret (.call "_law_needs" (.cons (.str "") (.cons (.new false (.slc (.var 1) (.som (.int 1)) (.som (.bin .Add (.int 1) (.bin .Mult (.int 8) (.idx (.var 1) (.int 0))))))) .nil)))) .nil)), false⟩
def c__law_with_b0 : CSs := (.cons (.ite (.cmp .Eq (.var 4) (.var 1)) (.cons (.asg 5 (.var 2)) .nil) .nil) (.cons (.expr (.mut .append (.var 3) (.cons (.tup (.cons (.var 4) (.cons (.var 5) .nil))) .nil))) .nil))
def c__law_with_s0 : CS := (.for_ (.tp [4, 5]) (.seq (.var 0)) c__law_with_b0)
def c__law_with : FD := ⟨3, 6, (.cons (.asg 3 (.new true (.disp .nil))) (.cons c__law_with_s0 (.cons (.ret (.bi .tuple (.cons (.var 3) .nil))) .nil))), false⟩
def c_broken_l0 : CL := (.comp (.nm 3) (.seq (.call "needs_at_work" (.cons (.var 0) (.cons (.var 1) (.cons (.var 2) .nil))))) (.som (.not (.call "is_met" (.cons (.var 3) (.cons (.var 2) .nil))))) (.var 3))
def c_broken : FD := ⟨3, 4, (.cons (.ret (.new true c_broken_l0)) .nil), true⟩
def c_in_piece : FD := ⟨2, 4, (.cons (.asgt [2, 3] (.var 1)) (.cons (.ite (.call "is_older" (.cons (.var 0) (.cons (.var 2) .nil))) (.cons (.ret (.bl false)) .nil) .nil) (.cons (.ret (.or (.cmp .Is (.var 3) .non) (.call "is_older" (.cons (.var 0) (.cons (.var 3) .nil))))) .nil))), false⟩
def c_is_met_b0 : CSs := (.cons (.ite (.cmp .Eq (.var 2) (.idx (.var 0) (.int 1))) (.cons (.ret (.call "lies_in" (.cons (.var 3) (.cons (.idx (.var 0) (.int 2)) .nil)))) .nil) .nil) .nil)
def c_is_met_s0 : CS := (.for_ (.tp [2, 3]) (.seq (.var 1)) c_is_met_b0)
def c_is_met : FD := ⟨2, 4, (.cons c_is_met_s0 (.cons (.ret (.bl false)) .nil)), false⟩
def c_is_name_l0 : CL := (.comp (.nm 1) (.seq (.var 0)) .non (.cmp .In (.var 1) (.con "SMALL")))
def c_is_name : FD := ⟨1, 2, (.cons (.ret (.and (.chain .LtE .LtE (.int 1) (.bi .len (.cons (.var 0) .nil)) (.con "MOST_LETTERS")) (.bi .all (.cons (.new false c_is_name_l0) .nil)))) .nil), false⟩
def c_is_older : FD := ⟨2, 2, (.cons (.ret (.cmp .Lt (.call "make_key" (.cons (.var 0) .nil)) (.call "make_key" (.cons (.var 1) .nil)))) .nil), false⟩
def c_is_sound : FD := ⟨3, 3, (.cons (.ret (.cmp .Eq (.call "broken" (.cons (.var 0) (.cons (.var 1) (.cons (.var 2) .nil)))) (.new false (.disp .nil)))) .nil), false⟩
def c_law_v24_b0 : CSs := (.cons (.asg 10 (.call "_law_step" (.cons (.var 6) (.cons (.var 7) (.cons (.var 8) .nil))))) (.cons (.ite (.cmp .Eq (.var 10) (.var 8)) (.cons .brk .nil) .nil) (.cons (.asg 8 (.var 10)) .nil)))
def c_law_v24_s0 : CS := (.for_ (.nm 9) (.range (.cons (.int 41) .nil)) c_law_v24_b0)
def c_law_v24_b1 : CSs := (.cons (.asg 4 (.call "_law_cell" (.cons (.var 0) (.cons (.bin .Add (.int 41) (.var 3)) .nil)))) (.cons (.asg 5 (.call "_law_book" (.cons (.bin .FloorDiv (.var 4) (.int 5)) (.cons (.var 1) .nil)))) (.cons (.asgt [6, 7] (.call "_law_sounded" (.cons (.var 1) (.cons (.call "_law_wants" (.cons (.bin .FloorDiv (.var 4) (.int 3)) .nil)) (.cons (.var 5) .nil))))) (.cons (.asg 8 (.var 5)) (.cons c_law_v24_s0 (.cons (.asg 11 (.call "lifted" (.cons (.var 6) (.cons (.var 7) (.cons (.var 5) .nil))))) (.cons (.ite (.or (.not (.isi (.var 11) "tuple")) (.or (.cmp .NotEq (.var 11) (.var 8)) (.cmp .NotEq (.call "lifted" (.cons (.var 6) (.cons (.var 7) (.cons (.var 11) .nil)))) (.var 8)))) (.cons (.ret (.bl false)) .nil) .nil) .nil)))))))
def c_law_v24_s1 : CS := (.for_ (.nm 3) (.range (.cons (.var 2) .nil)) c_law_v24_b1)
def c_law_v24 : FD := ⟨1, 12, (.cons (.asg 1 (.call "_law_shelf" (.cons (.var 0) (.cons (.int 1) .nil)))) (.cons (.asg 2 (.bi .max (.cons (.int 2) (.cons (.bi .len (.cons (.new false (.slc (.var 0) (.som (.int 41)) (.som (.int 61)))) .nil)) .nil)))) (.cons (.ite (.cmp .Gt (.bi .len (.cons (.var 1) .nil)) (.int 9)) (.cons (.asg 2 (.bi .min (.cons (.var 2) (.cons (.int 4) .nil)))) .nil) .nil) (.cons c_law_v24_s1 (.cons (.ret (.bl true)) .nil))))), false⟩
def c_lies_in_l0 : CL := (.comp (.nm 2) (.seq (.var 1)) .non (.call "in_piece" (.cons (.var 0) (.cons (.var 2) .nil))))
def c_lies_in : FD := ⟨2, 3, (.cons (.ret (.bi .any (.cons (.new false c_lies_in_l0) .nil))) .nil), false⟩
def c_lifted_b0 : CSs := (.cons (.asgt [4, 5] (.idx (.var 2) (.var 3))) (.cons (.asg 6 (.idx (.call "newest" (.cons (.var 0) (.cons (.var 1) (.cons (.var 2) (.cons (.var 4) .nil))))) (.int 0))) (.cons (.ite (.cmp .Eq (.var 6) (.var 5)) (.cons (.asg 3 (.bin .Add (.var 3) (.int 1))) .nil) (.cons (.asg 2 (.call "with_make" (.cons (.var 2) (.cons (.var 4) (.cons (.var 6) .nil))))) (.cons (.asg 3 (.int 0)) .nil))) .nil)))
def c_lifted_s0 : CS := (.while_ 100000 (.cmp .Lt (.var 3) (.bi .len (.cons (.var 2) .nil))) c_lifted_b0)
def c_lifted : FD := ⟨3, 7, (.cons (.asg 3 (.int 0)) (.cons c_lifted_s0 (.cons (.ret (.var 2)) .nil))), false⟩
def c_make_key_l0 : CL := (.comp (.nm 2) (.seq (.idx (.var 0) (.int 3))) .non (.call "mark_key" (.cons (.var 2) .nil)))
def c_make_key : FD := ⟨1, 3, (.cons (.asg 1 (.new false c_make_key_l0)) (.cons (.ret (.tup (.cons (.idx (.var 0) (.int 0)) (.cons (.idx (.var 0) (.int 1)) (.cons (.idx (.var 0) (.int 2)) (.cons (.cmp .Eq (.bi .len (.cons (.var 1) .nil)) (.int 0)) (.cons (.var 1) .nil))))))) .nil)), false⟩
def c_makes_of_l0 : CL := (.comp (.nm 2) (.seq (.var 0)) (.som (.cmp .Eq (.idx (.var 2) (.int 0)) (.var 1))) (.idx (.var 2) (.int 1)))
def c_makes_of : FD := ⟨2, 3, (.cons (.ret (.call "newest_first" (.cons (.new false c_makes_of_l0) .nil))) .nil), true⟩
def c_mark_key : FD := ⟨1, 1, (.cons (.ite (.isi (.var 0) "str") (.cons (.ret (.tup (.cons (.int 1) (.cons (.int 0) (.cons (.var 0) .nil))))) .nil) .nil) (.cons (.ret (.tup (.cons (.int 0) (.cons (.var 0) (.cons (.str "") .nil))))) .nil)), false⟩
def c_needs_at_work_l0 : CL := (.comp (.tp [4, 5]) (.seq (.var 1)) .non (.tup (.cons (.str "") (.cons (.var 4) (.cons (.var 5) .nil)))))
def c_needs_at_work_l1 : CL := (.comp (.tp [4, 5]) (.seq (.call "needs_of" (.cons (.var 0) (.cons (.var 6) (.cons (.var 7) .nil))))) .non (.tup (.cons (.var 6) (.cons (.var 4) (.cons (.var 5) .nil)))))
def c_needs_at_work_b0 : CSs := (.cons (.expr (.mut .extend (.var 3) (.cons (.new false c_needs_at_work_l1) .nil))) .nil)
def c_needs_at_work_s0 : CS := (.for_ (.tp [6, 7]) (.seq (.var 2)) c_needs_at_work_b0)
def c_needs_at_work : FD := ⟨3, 8, (.cons (.asg 3 (.new true c_needs_at_work_l0)) (.cons c_needs_at_work_s0 (.cons (.ret (.var 3)) .nil))), false⟩
def c_needs_of_b0 : CSs := (.cons (.ite (.cmp .Eq (.slc (.var 4) .non (.som (.int 2))) (.tup (.cons (.var 1) (.cons (.var 2) .nil)))) (.cons (.asg 3 (.idx (.var 4) (.int 2))) .nil) .nil) .nil)
def c_needs_of_s0 : CS := (.for_ (.nm 4) (.seq (.var 0)) c_needs_of_b0)
def c_needs_of : FD := ⟨3, 5, (.cons (.asg 3 (.tup .nil)) (.cons c_needs_of_s0 (.cons (.ret (.var 3)) .nil))), false⟩
def c_newest_b0 : CSs := (.cons (.asg 7 (.call "broken" (.cons (.var 0) (.cons (.var 1) (.cons (.call "with_make" (.cons (.var 2) (.cons (.var 3) (.cons (.var 6) .nil)))) .nil))))) (.cons (.ite (.cmp .Eq (.var 7) (.new false (.disp .nil))) (.cons (.ret (.tup (.cons (.var 6) (.cons (.var 5) .nil)))) .nil) .nil) (.cons (.expr (.mut .append (.var 5) (.cons (.tup (.cons (.var 6) (.cons (.idx (.var 7) (.int 0)) .nil))) .nil))) .nil)))
def c_newest_s0 : CS := (.for_ (.nm 6) (.seq (.call "makes_of" (.cons (.var 0) (.cons (.var 3) .nil)))) c_newest_b0)
def c_newest : FD := ⟨4, 8, (.cons (.asg 4 (.dof (.var 2))) (.cons (.ite (.cmp .NotIn (.var 3) (.var 4)) (.cons .never .nil) .nil) (.cons (.asg 5 (.new true (.disp .nil))) (.cons c_newest_s0 (.cons (.ret (.tup (.cons (.dat (.var 4) (.var 3)) (.cons (.var 5) .nil)))) .nil))))), false⟩
def c_newest_first : FD := ⟨1, 1, (.cons (.ret (.new true (.revl (.list (.new false (.sortk "make_key" (.var 0))))))) .nil), true⟩
def c_next_make : FD := ⟨1, 5, (.cons (.asgt [1, 2, 3, 4] (.var 0)) (.cons (.ite (.cmp .Eq (.var 4) (.tup .nil)) (.cons (.ret (.tup (.cons (.var 1) (.cons (.var 2) (.cons (.bin .Add (.var 3) (.int 1)) (.cons (.tup (.cons (.int 0) .nil)) .nil)))))) .nil) .nil) (.cons (.ret (.tup (.cons (.var 1) (.cons (.var 2) (.cons (.var 3) (.cons (.bin .Add (.var 4) (.tup (.cons (.int 0) .nil))) .nil)))))) .nil))), false⟩
def c_number_of_l0 : CL := (.comp (.nm 1) (.seq (.var 0)) .non (.cmp .In (.var 1) (.con "FIGURES")))
def c_number_of : FD := ⟨1, 2, (.cons (.ite (.or (.not (.chain .LtE .LtE (.int 1) (.bi .len (.cons (.var 0) .nil)) (.con "MOST_FIGURES"))) (.not (.bi .all (.cons (.new false c_number_of_l0) .nil)))) (.cons (.ret .non) .nil) .nil) (.cons (.ite (.and (.cmp .Eq (.idx (.var 0) (.int 0)) (.str "0")) (.cmp .NotEq (.var 0) (.str "0"))) (.cons (.ret .non) .nil) .nil) (.cons (.ret (.bi .int (.cons (.var 0) .nil))) .nil))), false⟩
def c_with_make_l0 : CL := (.comp (.tp [3, 4]) (.seq (.var 0)) .non (.tup (.cons (.var 3) (.cons (.ite (.cmp .Eq (.var 3) (.var 1)) (.var 2) (.var 4)) .nil))))
def c_with_make : FD := ⟨3, 5, (.cons (.ret (.bi .tuple (.cons (.new false c_with_make_l0) .nil))) .nil), false⟩
end Cr


namespace Rf
open PySem L2 Cr

theorem ixN_nat {n k : Nat} (h : k < n) : ixN n (k : Int) = some k := by
  unfold ixN
  rw [if_pos (by omega), if_pos (by omega)]; simp
theorem ixN_int {n : Nat} {i : Int} (h0 : 0 ≤ i) (h : i < n) : ixN n i = some i.toNat := by
  unfold ixN
  rw [if_pos h0, if_pos h]
theorem atI_int {α : Type} {xs : List α} {i : Int} (h0 : 0 ≤ i) (h : i < xs.length) : atI xs i = xs[i.toNat]? := by
  unfold atI
  rw [ixN_int h0 h]; rfl
theorem atI_getD {α : Type} {xs : List α} {i : Int} (d : α) (h0 : 0 ≤ i) (h : i < xs.length) : atI xs i = some (xs.getD i.toNat d) := by
  rw [atI_int h0 h]
  have : i.toNat < xs.length := by omega
  simp [List.getD_eq_getElem?_getD, List.getElem?_eq_getElem this]
theorem atI_map {α β : Type} (f : α → β) (xs : List α) (i : Int) : atI (xs.map f) i = (atI xs i).map f := by
  unfold atI
  rw [List.length_map]
  cases ixN xs.length i with
  | none => rfl
  | some j => simp


def cellI (ns : List Int) (k : Int) : Int := if 0 < (ns.length : Int) then ns.getD (k % (ns.length : Int)).toNat 0 else 0
def atK (ns : List Int) (k : Int) : Int := if 0 < (ns.length : Int) then k / (ns.length : Int) % 40 else 0
def mixI (c k : Int) : Int := (c % 2147483629 + 1) * (31 * k * k + 7919) % 2147483647
def drawI (ns : List Int) (k many : Int) : Int :=
  if cellI ns k % 2 = 1 then cellI ns k / 2 ^ (1 + 6 * atK ns k).toNat % many
  else (mixI (cellI ns k) k * (mixI (cellI ns k) k % 65521 + 48271) + k) % 2147483629 / 7 % many
theorem inR_of {i : Int} (h : -(2 ^ 64) < i) (h2 : i < 2 ^ 64) : inR i = true := by
  unfold inR
  rw [decide_eq_true h, decide_eq_true h2]; rfl
end Rf


namespace Rf
open PySem L2 Cr

def small : List Nat := [97, 98, 99, 100, 101, 102, 103, 104, 105, 106, 107, 108, 109, 110, 111, 112, 113, 114, 115, 116, 117, 118, 119, 120, 121, 122]
def figs : List Nat := [48, 49, 50, 51, 52, 53, 54, 55, 56, 57]
theorem nil_eq : Str.ofString "" = tx [] := by decide +kernel
def isNm (cs : List Nat) : Bool := decide (1 ≤ cs.length) && decide (cs.length ≤ 8) && cs.all fun c => decide (c ∈ small)

structure FNames (G : Gam) : Prop where
  c1 : List.lookup (Str.ofString "SMALL") G.con = some (.str (Str.ofString "abcdefghijklmnopqrstuvwxyz"))
  c2 : List.lookup (Str.ofString "MOST_LETTERS") G.con = some (.int 8)
  f1 : List.lookup (Str.ofString "is_name") G.fns = some c_is_name
def numB (cs : List Nat) : Bool := decide (1 ≤ cs.length) && decide (cs.length ≤ 15) && cs.all (fun c => decide (c ∈ figs)) && !(decide (cs.head? = some 48) && !decide (cs = [48]))
def numD (cs : List Nat) : D := if numB cs = true then .int (NumText.digitsVal cs : Nat) else .non
structure FNums (G : Gam) : Prop where
  c1 : List.lookup (Str.ofString "FIGURES") G.con = some (.str (Str.ofString "0123456789"))
  c2 : List.lookup (Str.ofString "MOST_FIGURES") G.con = some (.int 15)
  f1 : List.lookup (Str.ofString "number_of") G.fns = some c_number_of
end Rf


namespace Rf
open PySem L2 Cr

theorem add_int (i j : Int) : binD .Add (.int i) (.int j) = some (.int (i + j)) := id rfl
theorem mod_int (i j : Int) (h : 0 < j) : binD .Mod (.int i) (.int j) = some (.int (i % j)) := if_pos (by simpa using h)
theorem add_tup (xs ys : List D) (h : xs.length + ys.length ≤ sizeLine) : binD .Add (.tup xs) (.tup ys) = some (.tup (xs ++ ys)) := by
  show (if _ then _ else none) = _
  rw [if_pos h]
inductive Mark where
  | n (k : Nat) | s (cs : List Nat)
deriving DecidableEq
namespace Mark
def d : Mark → D
  | .n k => .int k
  | .s cs => .str (tx cs)

def ok : Mark → Prop
  | .n k => k < 10 ^ 30
  | .s cs => cs.length ≤ 1000
theorem pur (m : Mark) : D.pur m.d = true := by cases m <;> rfl
end Mark
structure Make where
  a : Nat
  b : Nat
  c : Nat
  ms : List Mark
deriving DecidableEq
namespace Make
def d (m : Make) : D := .tup [.int m.a, .int m.b, .int m.c, .tup (m.ms.map Mark.d)]
theorem pur (m : Make) : D.pur m.d = true := by
  unfold d
  rw [D.pur, D.purs, D.purs, D.purs, D.purs, D.purs, D.pur, D.pur, D.pur, D.pur, D.purs_map _ Mark.pur]; rfl
end Make
def markL : List Mark := [.n 0, .n 1, .s [97], .s [97, 98], .s [98], .n 2, .n 10, .s [122, 122, 122, 122, 122, 122, 122, 122], .s [97, 98, 99], .n 999999999999, .s [98, 97]]
theorem a_eq : Str.ofString "a" = tx [97] := by decide +kernel
theorem ab_eq : Str.ofString "ab" = tx [97, 98] := by decide +kernel
theorem b_eq : Str.ofString "b" = tx [98] := by decide +kernel
structure Make.dr (N L : Nat) (m : Make) : Prop where
  a : m.a < N
  b : m.b < N
  c : m.c < N
  l : m.ms.length ≤ L
  ms : ∀ k ∈ m.ms, k ∈ markL

def mkFD (x : Int) : FD := ⟨2, 5, (.cons (.asg 2 (.new true c__law_make_l0)) (.cons (.ite (.cmp .Eq (.call "_law_draw" (.cons (.var 0) (.cons (.bin .Add (.var 1) (.int 3)) (.cons (.int 9) .nil)))) (.int 8)) (.cons (.asgs (.var 2) (.call "_law_draw" (.cons (.var 0) (.cons (.bin .Add (.var 1) (.int 4)) (.cons (.int 3) .nil)))) (.idx (.new false (.disp (.cons (.int 9) (.cons (.int 10) (.cons (.bin .Sub (.bin .Pow (.int 10) (.int 12)) (.int x)) .nil))))) (.call "_law_draw" (.cons (.var 0) (.cons (.bin .Add (.var 1) (.int 5)) (.cons (.int 3) .nil)))))) .nil) .nil) (.cons (.asg 4 (.idx (.new false (.disp (.cons (.int 0) (.cons (.int 0) (.cons (.int 1) (.cons (.int 1) (.cons (.int 2) (.cons (.int 3) (.cons (.int 8) .nil))))))))) (.call "_law_draw" (.cons (.var 0) (.cons (.bin .Add (.var 1) (.int 4)) (.cons (.int 7) .nil)))))) (.cons (.ret (.bin .Add (.bi .tuple (.cons (.var 2) .nil)) (.tup (.cons (.bi .tuple (.cons (.new false c__law_make_l1) .nil)) .nil)))) .nil)))), false⟩
structure FMake (G : Gam) (x : Int) : Prop where
  x0 : 1 ≤ x
  x1 : x ≤ 20
  draw : List.lookup (Str.ofString "_law_draw") G.fns = some c__law_draw
  mark : List.lookup (Str.ofString "_law_mark") G.fns = some c__law_mark
  make : List.lookup (Str.ofString "_law_make") G.fns = some (mkFD x)
end Rf


namespace Rf
open PySem L2 Cr


theorem ll_irrefl (x : List Nat) : ¬ x < x := List.lt_irrefl x
theorem ll_trans {x y z : List Nat} (h : x < y) (k : y < z) : x < z := List.lt_trans h k
theorem ll_total {x y : List Nat} (h : x ≠ y) : x < y ∨ y < x := by
  rcases Decidable.em (x < y) with p | p
  · exact .inl p
  · rcases Decidable.em (y < x) with q | q
    · exact .inr q
    · exact absurd (List.le_antisymm (List.not_lt.mp q) (List.not_lt.mp p)) h
namespace Mark
def lt : Mark → Mark → Bool
  | .n i, .n j => decide (i < j)
  | .n _, .s _ => true
  | .s _, .n _ => false
  | .s x, .s y => decide (x < y)
theorem irr (x : Mark) : lt x x = false := by
  cases x with
  | n i => simp [lt]
  | s x => simp only [lt, decide_eq_false (ll_irrefl x)]
theorem trans {x y z : Mark} (h : lt x y = true) (k : lt y z = true) : lt x z = true := by
  cases x <;> cases y <;> cases z <;> simp_all [lt]
  · omega
  · exact ll_trans h k
theorem total {x y : Mark} (h : x ≠ y) : lt x y = true ∨ lt y x = true := by
  cases x <;> cases y <;> simp_all [lt]
  · omega
  · exact ll_total h
end Mark
def ltM : List Mark → List Mark → Bool
  | [], [] => false
  | [], _ :: _ => true
  | _ :: _, [] => false
  | x :: xs, y :: ys => if x = y then ltM xs ys else x.lt y
theorem ltM_irr : ∀ x, ltM x x = false
  | [] => rfl
  | x :: xs => by rw [ltM, if_pos rfl, ltM_irr xs]
theorem ltM_trans : ∀ {x y z : List Mark}, ltM x y = true → ltM y z = true → ltM x z = true
  | [], [], _, h, _ => by simp [ltM] at h
  | [], _ :: _, [], _, k => by simp [ltM] at k
  | [], _ :: _, _ :: _, _, _ => rfl
  | _ :: _, [], _, h, _ => by simp [ltM] at h
  | _ :: _, _ :: _, [], _, k => by simp [ltM] at k
  | x :: xs, y :: ys, z :: zs, h, k => by
    rw [ltM] at h k ⊢
    by_cases h1 : x = y
    · subst h1
      rw [if_pos rfl] at h
      by_cases h2 : x = z
      · subst h2
        rw [if_pos rfl] at k ⊢
        exact ltM_trans h k
      · rw [if_neg h2] at k ⊢; exact k
    · rw [if_neg h1] at h
      by_cases h2 : y = z
      · subst h2; rw [if_neg h1]; exact h
      · rw [if_neg h2] at k
        have := Mark.trans h k
        rw [if_neg]
        · exact this
        · rintro rfl
          rw [Mark.irr] at this; cases this
theorem ltM_total : ∀ {x y : List Mark}, x ≠ y → ltM x y = true ∨ ltM y x = true
  | [], [], h => absurd rfl h
  | [], _ :: _, _ => .inl rfl
  | _ :: _, [], _ => .inr rfl
  | x :: xs, y :: ys, h => by
    rw [ltM, ltM]
    by_cases h1 : x = y
    · subst h1
      rw [if_pos rfl, if_pos rfl]
      exact ltM_total (fun e => h (by rw [e]))
    · rw [if_neg h1, if_neg (fun e => h1 e.symm)]
      exact Mark.total h1
namespace Make

def lt (m o : Make) : Bool :=
  if m.a ≠ o.a then decide (m.a < o.a) else if m.b ≠ o.b then decide (m.b < o.b) else if m.c ≠ o.c then decide (m.c < o.c) else
    if m.ms = [] ∨ o.ms = [] then decide (m.ms ≠ []) && decide (o.ms = []) else ltM m.ms o.ms

def ltN (x y : List Mark) : Bool := if x = [] ∨ y = [] then decide (x ≠ []) && decide (y = []) else ltM x y
theorem ltN_irr (x : List Mark) : ltN x x = false := by
  unfold ltN
  by_cases h : x = []
  · simp [h]
  · simp [h, ltM_irr]
theorem ltN_trans {x y z : List Mark} (h : ltN x y = true) (k : ltN y z = true) : ltN x z = true := by
  unfold ltN at *
  by_cases h1 : x = [] <;> by_cases h2 : y = [] <;> by_cases h3 : z = [] <;> simp_all
  exact ltM_trans h k
theorem ltN_total {x y : List Mark} (h : x ≠ y) : ltN x y = true ∨ ltN y x = true := by
  unfold ltN
  by_cases h1 : x = [] <;> by_cases h2 : y = [] <;> simp_all
  exact ltM_total h
theorem lt_eq (m o : Make) : lt m o = (decide (m.a < o.a) || (decide (m.a = o.a) && (decide (m.b < o.b) || (decide (m.b = o.b) && (decide (m.c < o.c) || (decide (m.c = o.c) && ltN m.ms o.ms)))))) := by
  unfold lt ltN
  by_cases h1 : m.a = o.a <;> by_cases h2 : m.b = o.b <;> by_cases h3 : m.c = o.c <;> simp [h1, h2, h3]
theorem irr (m : Make) : lt m m = false := by
  rw [lt_eq]; simp [ltN_irr]
theorem lt_iff (m o : Make) : lt m o = true ↔ (m.a < o.a ∨ (m.a = o.a ∧ (m.b < o.b ∨ (m.b = o.b ∧ (m.c < o.c ∨ (m.c = o.c ∧ ltN m.ms o.ms = true)))))) := by
  rw [lt_eq]; simp
theorem trans {x y z : Make} (h : lt x y = true) (k : lt y z = true) : lt x z = true := by
  rw [lt_iff] at *
  rcases h with h | ⟨h1, h | ⟨h2, h | ⟨h3, h⟩⟩⟩ <;> rcases k with k | ⟨k1, k | ⟨k2, k | ⟨k3, k⟩⟩⟩
  all_goals first
    | (left; omega)
    | (right; refine ⟨by omega, ?_⟩; left; omega)
    | (right; refine ⟨by omega, ?_⟩; right; refine ⟨by omega, ?_⟩; left; omega)
    | (right; refine ⟨by omega, ?_⟩; right; refine ⟨by omega, ?_⟩; right; exact ⟨by omega, ltN_trans h k⟩)
theorem total {x y : Make} (h : x ≠ y) : lt x y = true ∨ lt y x = true := by
  rw [lt_iff, lt_iff]
  rcases Nat.lt_trichotomy x.a y.a with q | q | q
  · exact .inl (.inl q)
  · rcases Nat.lt_trichotomy x.b y.b with q2 | q2 | q2
    · exact .inl (.inr ⟨q, .inl q2⟩)
    · rcases Nat.lt_trichotomy x.c y.c with q3 | q3 | q3
      · exact .inl (.inr ⟨q, .inr ⟨q2, .inl q3⟩⟩)
      · have : x.ms ≠ y.ms := fun e => h (by cases x; cases y; simp_all)
        rcases ltN_total this with r | r
        · exact .inl (.inr ⟨q, .inr ⟨q2, .inr ⟨q3, r⟩⟩⟩)
        · exact .inr (.inr ⟨q.symm, .inr ⟨q2.symm, .inr ⟨q3.symm, r⟩⟩⟩)
      · exact .inr (.inr ⟨q.symm, .inr ⟨q2.symm, .inl q3⟩⟩)
    · exact .inr (.inr ⟨q.symm, .inl q2⟩)
  · exact .inr (.inl q)
theorem asym {x y : Make} (h : lt x y = true) : lt y x = false := by
  cases k : lt y x with
  | false => rfl
  | true => have := trans h k; rw [irr] at this; cases this

def next (m : Make) : Make := if m.ms = [] then ⟨m.a, m.b, m.c + 1, [.n 0]⟩ else ⟨m.a, m.b, m.c, m.ms ++ [.n 0]⟩
end Make
end Rf


namespace Rf
open PySem L2 Cr

theorem cast_beq (i j : Nat) : ((i : Int) == (j : Int)) = decide (i = j) := by
  rw [Bool.eq_iff_iff, beq_iff_eq, decide_eq_true_iff]; omega
theorem cast_beq0 (i : Nat) : ((0 : Int) == (i : Int)) = decide (i = 0) := by
  rw [Bool.eq_iff_iff, beq_iff_eq, decide_eq_true_iff]; omega
theorem cast_beq1 (i : Nat) : ((i : Int) == (0 : Int)) = decide (i = 0) := by
  rw [Bool.eq_iff_iff, beq_iff_eq, decide_eq_true_iff]; omega
theorem tx_beq (x y : List Nat) : (tx x == tx y) = decide (x = y) := by
  rw [Bool.eq_iff_iff, beq_iff_eq, decide_eq_true_iff]; simp
theorem cast_lt (i j : Nat) : decide ((i : Int) < (j : Int)) = decide (i < j) := by
  apply decide_eq_decide.mpr; omega
namespace Mark
def key : Mark → D
  | .n k => .tup [.int 0, .int k, .str (tx [])]
  | .s cs => .tup [.int 1, .int 0, .str (tx cs)]
theorem key_pur (m : Mark) : D.pur m.key = true := by cases m <;> rfl
end Mark
def Make.key (m : Make) : D := .tup [.int m.a, .int m.b, .int m.c, .bl (decide (m.ms = [])), .lst (m.ms.map Mark.key)]
theorem Make.key_pur (m : Make) : D.pur m.key = true := by
  unfold key
  rw [D.pur, D.purs, D.purs, D.purs, D.purs, D.purs, D.purs, D.pur, D.pur, D.pur, D.pur, D.pur, D.purs_map _ Mark.key_pur]; rfl
theorem okd_mark (n : Nat) (m : Mark) : D.okd (n + 2) m.key = true := by
  cases m <;> simp [Mark.key, D.okd, D.okds]
theorem okds_marks (n : Nat) : ∀ l : List Mark, D.okds (n + 2) (l.map Mark.key) = true
  | [] => by rw [List.map_nil, D.okds]
  | m :: r => by rw [List.map_cons, D.okds, okd_mark, okds_marks n r]; rfl
theorem okd_key (m : Make) : D.okd deep m.key = true := by
  show D.okd (36 + 4) m.key = true
  simp only [Make.key, D.okd, D.okds, okds_marks, Bool.and_self]
theorem eqv_mark (x y : Mark) : D.eqv x.key y.key = decide (x = y) := by
  cases x <;> cases y <;> simp [Mark.key, D.eqv, D.eqvs, cast_beq, tx_beq]
theorem eqvs_marks : ∀ (x y : List Mark), D.eqvs (x.map Mark.key) (y.map Mark.key) = decide (x = y)
  | [], [] => rfl
  | [], _ :: _ => rfl
  | _ :: _, [] => rfl
  | x :: xs, y :: ys => by rw [List.map_cons, List.map_cons, D.eqvs, eqv_mark, eqvs_marks xs ys]; simp
theorem ltv_mark (x y : Mark) : D.ltv x.key y.key = some (x.lt y) := by
  cases x with
  | n i => cases y with
    | n j =>
      simp only [Mark.key, D.ltv, D.ltvs, D.eqv, Mark.lt, cast_beq, cast_lt, tx_beq]
      by_cases h : i = j <;> simp [h]
    | s y =>
      have : D.ltvs [.int 0, .int (i : Int), .str (tx [])] [.int 1, .int 0, .str (tx y)] = some true := by
        rw [D.ltvs, D.ltvs, D.ltvs, D.ltvs]
        by_cases h : i = 0 <;> by_cases k : y = [] <;> simp [D.eqv, D.ltv, cast_beq1, h, k]
      simpa [Mark.key, D.ltv, Mark.lt] using this
  | s x => cases y with
    | n j =>
      have : D.ltvs [.int 1, .int 0, .str (tx x)] [.int 0, .int (j : Int), .str (tx [])] = some false := by
        rw [D.ltvs, D.ltvs, D.ltvs, D.ltvs]
        by_cases h : j = 0 <;> by_cases k : x = [] <;> simp [D.eqv, D.ltv, cast_beq0, h, k]
      simpa [Mark.key, D.ltv, Mark.lt] using this
    | s y =>
      simp only [Mark.key, D.ltv, D.ltvs, D.eqv, Mark.lt]
      by_cases h : x = y
      · subst h; simp [ll_irrefl]
      · simp [h]
theorem ltvs_marks : ∀ (x y : List Mark), D.ltvs (x.map Mark.key) (y.map Mark.key) = some (ltM x y)
  | [], [] => rfl
  | [], _ :: _ => rfl
  | _ :: _, [] => rfl
  | x :: xs, y :: ys => by
    rw [List.map_cons, List.map_cons, D.ltvs, ltvs_marks xs ys, eqv_mark, ltM, ltv_mark]
    by_cases h : x = y <;> simp [h]
theorem ltv_key (m o : Make) : D.ltv m.key o.key = some (m.lt o) := by
  simp only [Make.key, D.ltv, D.ltvs, D.eqv, eqvs_marks, ltvs_marks]
  rw [Make.lt_eq]
  unfold Make.ltN
  simp only [cast_beq, cast_lt, decide_eq_true_iff]
  by_cases h1 : m.a = o.a <;> by_cases h2 : m.b = o.b <;> by_cases h3 : m.c = o.c <;> by_cases h4 : m.ms = [] <;> by_cases h5 : o.ms = [] <;> by_cases h6 : m.ms = o.ms <;> simp_all [ltM, ltM_irr]
theorem lt_key (S : Store) (m o : Make) : cmpD S .Lt m.key o.key = some (m.lt o) := by
  show (if D.okd deep m.key && D.okd deep o.key then D.ltv m.key o.key else none) = _
  rw [okd_key, okd_key, ltv_key]; rfl

structure FKey (G : Gam) : Prop where
  f1 : List.lookup (Str.ofString "mark_key") G.fns = some c_mark_key
  f2 : List.lookup (Str.ofString "make_key") G.fns = some c_make_key
structure FOld (G : Gam) : Prop where
  f1 : List.lookup (Str.ofString "mark_key") G.fns = some c_mark_key
  f2 : List.lookup (Str.ofString "make_key") G.fns = some c_make_key
  f3 : List.lookup (Str.ofString "is_older") G.fns = some c_is_older
theorem FOld.key {G : Gam} (F : FOld G) : FKey G := ⟨F.f1, F.f2⟩
theorem mark_key_ok {G : Gam} (F : FKey G) (m : Mark) (n : Nat) (S : Store) : callF G (n + 1) "mark_key" [m.d] S = .ok (m.key, S) := by
  refine callF_pur0 F.f1 rfl (by decide) m.key_pur ?_
  cases m with
  | n k => exact ⟨_, by simp only [c_mark_key, Rf.execs, Rf.execS, evalE, evalEs, evalO, evalT, evalL, evalC, evalI, bd_k, of_some, startE, bindT, wipeT, List.map_cons, List.map_nil, List.length_cons, List.length_nil, List.replicate, List.cons_append, List.nil_append, List.getElem?_cons_zero, List.getElem?_cons_succ, List.set_cons_zero, List.set_cons_succ, Option.map_some, Option.map_none, Option.bind_some, Option.bind_none, cmp_eq_int, cmp_ne_int, cmp_eq_str, cmp_ne_str, cmp_eq_bl, cmp_ne_bl, cmp_lt_int, cmp_le_int, cmp_gt_int, cmp_ge_int, cmp_is_non, cmp_is_int, cmp_is_tup, cmp_isn_non, cmp_isn_int, cmp_isn_tup, cmp_is_bl, cmp_isn_bl, cmp_in_str, isi_bl, isi_int, isi_str, isi_tup, isi_lst, isi_non, truth_bl, len_tup, len_lst, len_fro, idx_tup, idx_lst, idx_fro, isStr, seqI_str, seqI_tup, seqI_lst, decide_true, decide_false, if_true, if_false, ↓reduceIte, eq_self, Bool.false_eq_true, Bool.true_or, Bool.or_true, Bool.false_or, Bool.or_false, Bool.true_and, Bool.and_true, Bool.false_and, Bool.and_false, Bool.not_true, Bool.not_false, reduceCtorEq, and_self, and_true, true_and, ite_self, Mark.d, show ("int" == "str" : Bool) = false from by decide, show ("str" == "int" : Bool) = false from by decide, size16, Nat.reduceAdd, Nat.reduceLeDiff, nil_eq, Mark.key]; rfl⟩
  | s cs => exact ⟨_, by simp only [c_mark_key, Rf.execs, Rf.execS, evalE, evalEs, evalO, evalT, evalL, evalC, evalI, bd_k, of_some, startE, bindT, wipeT, List.map_cons, List.map_nil, List.length_cons, List.length_nil, List.replicate, List.cons_append, List.nil_append, List.getElem?_cons_zero, List.getElem?_cons_succ, List.set_cons_zero, List.set_cons_succ, Option.map_some, Option.map_none, Option.bind_some, Option.bind_none, cmp_eq_int, cmp_ne_int, cmp_eq_str, cmp_ne_str, cmp_eq_bl, cmp_ne_bl, cmp_lt_int, cmp_le_int, cmp_gt_int, cmp_ge_int, cmp_is_non, cmp_is_int, cmp_is_tup, cmp_isn_non, cmp_isn_int, cmp_isn_tup, cmp_is_bl, cmp_isn_bl, cmp_in_str, isi_bl, isi_int, isi_str, isi_tup, isi_lst, isi_non, truth_bl, len_tup, len_lst, len_fro, idx_tup, idx_lst, idx_fro, isStr, seqI_str, seqI_tup, seqI_lst, decide_true, decide_false, if_true, if_false, ↓reduceIte, eq_self, Bool.false_eq_true, Bool.true_or, Bool.or_true, Bool.false_or, Bool.or_false, Bool.true_and, Bool.and_true, Bool.false_and, Bool.and_false, Bool.not_true, Bool.not_false, reduceCtorEq, and_self, and_true, true_and, ite_self, Mark.d, beq_self_eq_true, size16, Nat.reduceAdd, Nat.reduceLeDiff, Mark.key]; rfl⟩
theorem atI40 (a b c d : D) : atI [a, b, c, d] 0 = some a := id rfl
theorem atI41 (a b c d : D) : atI [a, b, c, d] 1 = some b := id rfl
theorem atI42 (a b c d : D) : atI [a, b, c, d] 2 = some c := id rfl
theorem atI43 (a b c d : D) : atI [a, b, c, d] 3 = some d := id rfl
theorem make_key_ok {G : Gam} (F : FKey G) (m : Make) (hl : m.ms.length ≤ 1000) (n : Nat) (S : Store) : callF G (n + 2) "make_key" [m.d] S = .ok (m.key, S) := by
  refine callF_pur0 F.f2 rfl (by decide) m.key_pur ?_
  have l0 : evalL (G.cfg (n + 1)) c_make_key_l0 [some m.d, none, none] S = .ok (m.ms.map Mark.key, S) :=
    eval_comp m.ms Mark.d _ (by simp only [Rf.execs, Rf.execS, evalE, evalEs, evalO, evalT, evalL, evalC, evalI, bd_k, of_some, startE, bindT, wipeT, List.map_cons, List.map_nil, List.length_cons, List.length_nil, List.replicate, List.cons_append, List.nil_append, List.getElem?_cons_zero, List.getElem?_cons_succ, List.set_cons_zero, List.set_cons_succ, Option.map_some, Option.map_none, Option.bind_some, Option.bind_none, cmp_eq_int, cmp_ne_int, cmp_eq_str, cmp_ne_str, cmp_eq_bl, cmp_ne_bl, cmp_lt_int, cmp_le_int, cmp_gt_int, cmp_ge_int, cmp_is_non, cmp_is_int, cmp_is_tup, cmp_isn_non, cmp_isn_int, cmp_isn_tup, cmp_is_bl, cmp_isn_bl, cmp_in_str, isi_bl, isi_int, isi_str, isi_tup, isi_lst, isi_non, truth_bl, len_tup, len_lst, len_fro, idx_tup, idx_lst, idx_fro, isStr, seqI_str, seqI_tup, seqI_lst, decide_true, decide_false, if_true, if_false, ↓reduceIte, eq_self, Bool.false_eq_true, Bool.true_or, Bool.or_true, Bool.false_or, Bool.or_false, Bool.true_and, Bool.and_true, Bool.false_and, Bool.and_false, Bool.not_true, Bool.not_false, reduceCtorEq, and_self, and_true, true_and, ite_self, Make.d, atI43]) (by rw [size16]; omega) fun x hx => ⟨_, rfl, by simp only [Rf.execs, Rf.execS, evalE, evalEs, evalO, evalT, evalL, evalC, evalI, bd_k, of_some, startE, bindT, wipeT, List.map_cons, List.map_nil, List.length_cons, List.length_nil, List.replicate, List.cons_append, List.nil_append, List.getElem?_cons_zero, List.getElem?_cons_succ, List.set_cons_zero, List.set_cons_succ, Option.map_some, Option.map_none, Option.bind_some, Option.bind_none, cmp_eq_int, cmp_ne_int, cmp_eq_str, cmp_ne_str, cmp_eq_bl, cmp_ne_bl, cmp_lt_int, cmp_le_int, cmp_gt_int, cmp_ge_int, cmp_is_non, cmp_is_int, cmp_is_tup, cmp_isn_non, cmp_isn_int, cmp_isn_tup, cmp_is_bl, cmp_isn_bl, cmp_in_str, isi_bl, isi_int, isi_str, isi_tup, isi_lst, isi_non, truth_bl, len_tup, len_lst, len_fro, idx_tup, idx_lst, idx_fro, isStr, seqI_str, seqI_tup, seqI_lst, decide_true, decide_false, if_true, if_false, ↓reduceIte, eq_self, Bool.false_eq_true, Bool.true_or, Bool.or_true, Bool.false_or, Bool.or_false, Bool.true_and, Bool.and_true, Bool.false_and, Bool.and_false, Bool.not_true, Bool.not_false, reduceCtorEq, and_self, and_true, true_and, ite_self, cfg_ok (mark_key_ok F x n S)]⟩
  refine ret_step (r1 := [some m.d, some (.lst (m.ms.map Mark.key)), none]) (S1 := S) ?_ ?_
  · show execS _ _ [some m.d, none, none] S = _
    simp only [Rf.execs, Rf.execS, evalE, evalEs, evalO, evalT, evalL, evalC, evalI, bd_k, of_some, startE, bindT, wipeT, List.map_cons, List.map_nil, List.length_cons, List.length_nil, List.replicate, List.cons_append, List.nil_append, List.getElem?_cons_zero, List.getElem?_cons_succ, List.set_cons_zero, List.set_cons_succ, Option.map_some, Option.map_none, Option.bind_some, Option.bind_none, cmp_eq_int, cmp_ne_int, cmp_eq_str, cmp_ne_str, cmp_eq_bl, cmp_ne_bl, cmp_lt_int, cmp_le_int, cmp_gt_int, cmp_ge_int, cmp_is_non, cmp_is_int, cmp_is_tup, cmp_isn_non, cmp_isn_int, cmp_isn_tup, cmp_is_bl, cmp_isn_bl, cmp_in_str, isi_bl, isi_int, isi_str, isi_tup, isi_lst, isi_non, truth_bl, len_tup, len_lst, len_fro, idx_tup, idx_lst, idx_fro, isStr, seqI_str, seqI_tup, seqI_lst, decide_true, decide_false, if_true, if_false, ↓reduceIte, eq_self, Bool.false_eq_true, Bool.true_or, Bool.or_true, Bool.false_or, Bool.or_false, Bool.true_and, Bool.and_true, Bool.false_and, Bool.and_false, Bool.not_true, Bool.not_false, reduceCtorEq, and_self, and_true, true_and, ite_self, l0]
  have e : (decide (((m.ms.map Mark.key).length : Int) = 0)) = decide (m.ms = []) := by
    apply decide_eq_decide.mpr
    cases m.ms <;> simp
    omega
  exact ⟨_, by simp only [Rf.execs, Rf.execS, evalE, evalEs, evalO, evalT, evalL, evalC, evalI, bd_k, of_some, startE, bindT, wipeT, List.map_cons, List.map_nil, List.length_cons, List.length_nil, List.replicate, List.cons_append, List.nil_append, List.getElem?_cons_zero, List.getElem?_cons_succ, List.set_cons_zero, List.set_cons_succ, Option.map_some, Option.map_none, Option.bind_some, Option.bind_none, cmp_eq_int, cmp_ne_int, cmp_eq_str, cmp_ne_str, cmp_eq_bl, cmp_ne_bl, cmp_lt_int, cmp_le_int, cmp_gt_int, cmp_ge_int, cmp_is_non, cmp_is_int, cmp_is_tup, cmp_isn_non, cmp_isn_int, cmp_isn_tup, cmp_is_bl, cmp_isn_bl, cmp_in_str, isi_bl, isi_int, isi_str, isi_tup, isi_lst, isi_non, truth_bl, len_tup, len_lst, len_fro, idx_tup, idx_lst, idx_fro, isStr, seqI_str, seqI_tup, seqI_lst, decide_true, decide_false, if_true, if_false, ↓reduceIte, eq_self, Bool.false_eq_true, Bool.true_or, Bool.or_true, Bool.false_or, Bool.or_false, Bool.true_and, Bool.and_true, Bool.false_and, Bool.and_false, Bool.not_true, Bool.not_false, reduceCtorEq, and_self, and_true, true_and, ite_self, Make.d, atI40, atI41, atI42, size16, Nat.reduceAdd, Nat.reduceLeDiff, Make.key, e]; rfl⟩
theorem is_older_ok {G : Gam} (F : FOld G) (m o : Make) (hl : m.ms.length ≤ 1000) (ol : o.ms.length ≤ 1000) (n : Nat) (S : Store) : callF G (n + 3) "is_older" [m.d, o.d] S = .ok (.bl (m.lt o), S) := by
  refine callF_pur0 F.f3 rfl (by decide) rfl ?_
  exact ⟨_, by simp only [c_is_older, Rf.execs, Rf.execS, evalE, evalEs, evalO, evalT, evalL, evalC, evalI, bd_k, of_some, startE, bindT, wipeT, List.map_cons, List.map_nil, List.length_cons, List.length_nil, List.replicate, List.cons_append, List.nil_append, List.getElem?_cons_zero, List.getElem?_cons_succ, List.set_cons_zero, List.set_cons_succ, Option.map_some, Option.map_none, Option.bind_some, Option.bind_none, cmp_eq_int, cmp_ne_int, cmp_eq_str, cmp_ne_str, cmp_eq_bl, cmp_ne_bl, cmp_lt_int, cmp_le_int, cmp_gt_int, cmp_ge_int, cmp_is_non, cmp_is_int, cmp_is_tup, cmp_isn_non, cmp_isn_int, cmp_isn_tup, cmp_is_bl, cmp_isn_bl, cmp_in_str, isi_bl, isi_int, isi_str, isi_tup, isi_lst, isi_non, truth_bl, len_tup, len_lst, len_fro, idx_tup, idx_lst, idx_fro, isStr, seqI_str, seqI_tup, seqI_lst, decide_true, decide_false, if_true, if_false, ↓reduceIte, eq_self, Bool.false_eq_true, Bool.true_or, Bool.or_true, Bool.false_or, Bool.or_false, Bool.true_and, Bool.and_true, Bool.false_and, Bool.and_false, Bool.not_true, Bool.not_false, reduceCtorEq, and_self, and_true, true_and, ite_self, cfg_ok (make_key_ok F.key m hl n S), cfg_ok (make_key_ok F.key o ol n S), lt_key]; rfl⟩


theorem okd_d (n : Nat) (m : Mark) : D.okd (n + 1) m.d = true := by cases m <;> rfl
theorem okds_d (n : Nat) : ∀ l : List Mark, D.okds (n + 1) (l.map Mark.d) = true
  | [] => by rw [List.map_nil, D.okds]
  | m :: r => by rw [List.map_cons, D.okds, okd_d, okds_d n r]; rfl
theorem Make.okd (n : Nat) (m : Make) : D.okd (n + 3) m.d = true := by
  simp only [Make.d, D.okd, D.okds, okds_d, Bool.and_self]
theorem Make.okd' (m : Make) : D.okd deep m.d = true := Make.okd 37 m
theorem eqv_d (x y : Mark) : D.eqv x.d y.d = decide (x = y) := by
  cases x <;> cases y <;> simp [Mark.d, D.eqv, cast_beq, tx_beq]
theorem eqvs_d : ∀ (x y : List Mark), D.eqvs (x.map Mark.d) (y.map Mark.d) = decide (x = y)
  | [], [] => rfl
  | [], _ :: _ => rfl
  | _ :: _, [] => rfl
  | x :: xs, y :: ys => by rw [List.map_cons, List.map_cons, D.eqvs, eqv_d, eqvs_d xs ys]; simp
theorem Make.eqv (x y : Make) : D.eqv x.d y.d = decide (x = y) := by
  simp only [Make.d, D.eqv, D.eqvs, eqvs_d]
  cases x; cases y
  simp [Bool.and_assoc, cast_beq]
theorem Make.eq_ok (S : Store) (x y : Make) : cmpD S .Eq x.d y.d = some (decide (x = y)) := by
  show (if D.okd deep x.d && D.okd deep y.d then some (D.eqv x.d y.d) else none) = _
  rw [Make.okd', Make.okd', Make.eqv]; rfl
theorem Make.ne_ok (S : Store) (x y : Make) : cmpD S .NotEq x.d y.d = some (!decide (x = y)) := by
  show (if D.okd deep x.d && D.okd deep y.d then some (!D.eqv x.d y.d) else none) = _
  rw [Make.okd', Make.okd', Make.eqv]; rfl
theorem marks_eq_nil (S : Store) (l : List Mark) : cmpD S .Eq (.tup (l.map Mark.d)) (.tup []) = some (decide (l = [])) := by
  show (if D.okd deep (.tup (l.map Mark.d)) && D.okd deep (.tup []) then some (D.eqv (.tup (l.map Mark.d)) (.tup [])) else none) = _
  have : D.okd deep (.tup (l.map Mark.d)) = true := by
    show D.okd (38 + 2) _ = true
    rw [D.okd, okds_d]
  rw [this, show D.okd deep (.tup []) = true from rfl]
  cases l <;> rfl
structure FLOld (G : Gam) : Prop where
  f1 : List.lookup (Str.ofString "_law_mark_older") G.fns = some c__law_mark_older
  f2 : List.lookup (Str.ofString "_law_older") G.fns = some c__law_older
end Rf


namespace Rf
open PySem L2 Cr

def stepM (x y : List Mark) (_ : Unit) (k : Nat) : Unit ⊕ Bool := if x.getD k (.n 0) = y.getD k (.n 0) then .inl () else .inr ((x.getD k (.n 0)).lt (y.getD k (.n 0)))
theorem marks_app (S : Store) (l : List Mark) (k : Mark) (h : l.length ≤ 1000) : binD .Add (.tup (l.map Mark.d)) (.tup [k.d]) = some (.tup ((l ++ [k]).map Mark.d)) := by
  rw [add_tup _ _ (by rw [size16]; simp; omega)]; simp
theorem marks_app0 (l : List Mark) (h : l.length ≤ 1000) : binD .Add (.tup (l.map Mark.d)) (.tup [.int 0]) = some (.tup ((l ++ [Mark.n 0]).map Mark.d)) := marks_app [] l (.n 0) h
theorem next_d (m : Make) : m.next.d = if m.ms = [] then .tup [.int m.a, .int m.b, .int ((m.c : Int) + 1), .tup [.int 0]] else .tup [.int m.a, .int m.b, .int m.c, .tup ((m.ms ++ [Mark.n 0]).map Mark.d)] := by
  unfold Make.next
  split <;> rfl
theorem slc3 (m : Make) : slcD m.d none (some 3) = some (.tup [.int m.a, .int m.b, .int m.c]) := rfl
theorem law_next_ok {G : Gam} (hl : List.lookup (Str.ofString "_law_next") G.fns = some c__law_next) (m : Make) (h : m.ms.length ≤ 1000) (n : Nat) (S : Store) : callF G (n + 1) "_law_next" [m.d] S = .ok (m.next.d, S) := by
  refine callF_pur0 hl rfl (by decide) (Make.pur _) ?_
  rw [next_d]
  have s3 := slc3 m
  simp only [Make.d] at s3
  by_cases e : m.ms = []
  · simp only [e, List.map_nil] at s3
    exact ⟨_, by simp only [c__law_next, Rf.execs, Rf.execS, evalE, evalEs, evalO, evalT, evalL, evalC, evalI, bd_k, of_some, startE, bindT, wipeT, List.map_cons, List.map_nil, List.length_cons, List.length_nil, List.replicate, List.cons_append, List.nil_append, List.getElem?_cons_zero, List.getElem?_cons_succ, List.set_cons_zero, List.set_cons_succ, Option.map_some, Option.map_none, Option.bind_some, Option.bind_none, cmp_eq_int, cmp_ne_int, cmp_eq_str, cmp_ne_str, cmp_eq_bl, cmp_ne_bl, cmp_lt_int, cmp_le_int, cmp_gt_int, cmp_ge_int, cmp_is_non, cmp_is_int, cmp_is_tup, cmp_isn_non, cmp_isn_int, cmp_isn_tup, cmp_is_bl, cmp_isn_bl, cmp_in_str, isi_bl, isi_int, isi_str, isi_tup, isi_lst, isi_non, truth_bl, len_tup, len_lst, len_fro, idx_tup, idx_lst, idx_fro, isStr, seqI_str, seqI_tup, seqI_lst, decide_true, decide_false, if_true, if_false, ↓reduceIte, eq_self, Bool.false_eq_true, Bool.true_or, Bool.or_true, Bool.false_or, Bool.or_false, Bool.true_and, Bool.and_true, Bool.false_and, Bool.and_false, Bool.not_true, Bool.not_false, reduceCtorEq, and_self, and_true, true_and, ite_self, size16, Nat.reduceAdd, Nat.reduceLeDiff, Nat.zero_le, Make.d, atI40, atI41, atI42, atI43, marks_eq_nil, e, add_int]; rfl⟩
  · have := marks_app0 m.ms h
    exact ⟨_, by simp only [c__law_next, Rf.execs, Rf.execS, evalE, evalEs, evalO, evalT, evalL, evalC, evalI, bd_k, of_some, startE, bindT, wipeT, List.map_cons, List.map_nil, List.length_cons, List.length_nil, List.replicate, List.cons_append, List.nil_append, List.getElem?_cons_zero, List.getElem?_cons_succ, List.set_cons_zero, List.set_cons_succ, Option.map_some, Option.map_none, Option.bind_some, Option.bind_none, cmp_eq_int, cmp_ne_int, cmp_eq_str, cmp_ne_str, cmp_eq_bl, cmp_ne_bl, cmp_lt_int, cmp_le_int, cmp_gt_int, cmp_ge_int, cmp_is_non, cmp_is_int, cmp_is_tup, cmp_isn_non, cmp_isn_int, cmp_isn_tup, cmp_is_bl, cmp_isn_bl, cmp_in_str, isi_bl, isi_int, isi_str, isi_tup, isi_lst, isi_non, truth_bl, len_tup, len_lst, len_fro, idx_tup, idx_lst, idx_fro, isStr, seqI_str, seqI_tup, seqI_lst, decide_true, decide_false, if_true, if_false, ↓reduceIte, eq_self, Bool.false_eq_true, Bool.true_or, Bool.or_true, Bool.false_or, Bool.or_false, Bool.true_and, Bool.and_true, Bool.false_and, Bool.and_false, Bool.not_true, Bool.not_false, reduceCtorEq, and_self, and_true, true_and, ite_self, size16, Nat.reduceAdd, Nat.reduceLeDiff, Nat.zero_le, Make.d, atI40, atI41, atI42, atI43, marks_eq_nil, e, this, s3, add_tup]; rfl⟩

theorem Make.dr.mono {N L L' : Nat} {m : Make} (h : m.dr N L) (k : L ≤ L') : m.dr N L' := ⟨h.a, h.b, h.c, Nat.le_trans h.l k, h.ms⟩

theorem idx_end (S : Store) (xs : List D) (i : Int) : idxD (S ++ [.lst xs]) (.ref S.length) (.int i) = atI xs i := by
  simp [idxD, items]
theorem isMut_end (S : Store) (xs : List D) : isMut (S ++ [.lst xs]) (.ref S.length) = true := by
  simp [isMut]
theorem app_end (S : Store) (xs : List D) (y : D) (h : xs.length < sizeLine) : mutD .append (S ++ [.lst xs]) (.ref S.length) [y] = some (.non, S ++ [.lst (xs ++ [y])]) := by
  simp [mutD, h]
theorem cut_to {α : Type} (xs : List α) {i : Int} (h : 0 ≤ i) : cutD xs none (some i) = xs.take i.toNat := by
  unfold cutD
  show (xs.drop 0).take ((if i < 0 then (i + (xs.length : Int)).toNat else min i.toNat xs.length) - 0) = _
  rw [if_neg (by omega), List.drop_zero, Nat.sub_zero]
  rcases Nat.le_total i.toNat xs.length with q | q
  · rw [Nat.min_eq_left q]
  · rw [Nat.min_eq_right q, List.take_length, List.take_of_length_le q]
def near4 (m : Make) : List Make := [m, ⟨m.a, m.b, m.c, []⟩, ⟨m.a, m.b, m.c, m.ms.dropLast⟩, ⟨m.a, m.b, m.c + 1, [.n 0]⟩]
def near8 (m : Make) : List Make := near4 m ++ [⟨m.a, m.b + 1, 0, [.n 0]⟩, ⟨m.a + 1, 0, 0, [.n 0]⟩, ⟨m.a, m.b, 0, []⟩, ⟨0, 0, 0, [.n 0]⟩]
def nearA (m : Make) (k : Mark) : List Make := if m.ms.length < 8 then near8 m ++ [⟨m.a, m.b, m.c, m.ms ++ [k]⟩] ++ [⟨m.a, m.b, m.c, m.ms ++ [.n 0]⟩] else near8 m
def nearL (m : Make) (k : Mark) : List Make := if 0 < m.ms.length then nearA m k ++ [⟨m.a, m.b, m.c, m.ms.dropLast ++ [k]⟩] else nearA m k
end Rf


namespace Rf
open PySem L2 Cr

structure Piece where
  low : Make
  high : Option Make
deriving DecidableEq
def optD : Option Make → D
  | none => .non
  | some m => m.d
def Piece.d (p : Piece) : D := .tup [p.low.d, optD p.high]
def spanD (s : List Piece) : D := .tup (s.map Piece.d)
theorem optD_pur (o : Option Make) : D.pur (optD o) = true := by
  cases o with
  | none => rfl
  | some m => exact m.pur
theorem Piece.pur (p : Piece) : D.pur p.d = true := by
  unfold d
  rw [D.pur, D.purs, D.purs, D.purs, p.low.pur, optD_pur]; rfl
theorem spanD_pur (s : List Piece) : D.pur (spanD s) = true := by
  unfold spanD
  rw [D.pur, D.purs_map _ Piece.pur]

def Make.sm (m : Make) : Prop := m.ms.length ≤ 1000
def Piece.sm (p : Piece) : Prop := p.low.sm ∧ ∀ h, p.high = some h → h.sm
theorem Make.dr.sm {N L : Nat} {m : Make} (h : m.dr N L) (k : L ≤ 1000) : m.sm := Nat.le_trans h.l k


def insM (l : List Make) (m : Make) : List Make :=
  if (l.dropWhile fun x => x.lt m).head? = some m then l else (l.takeWhile fun x => x.lt m) ++ [m] ++ (l.dropWhile fun x => x.lt m)
def sortM (l : List Make) : List Make := l.foldl insM []
structure FSort (G : Gam) : Prop where
  lold : FLOld G
  f1 : List.lookup (Str.ofString "_law_sorted") G.fns = some c__law_sorted
theorem makes_idx (l : List Make) (k : Nat) (h : k < l.length) : atI (l.map Make.d) (k : Int) = some (l[k]).d := by
  rw [atI_map, atI_int (by omega) (by omega), Int.toNat_natCast, List.getElem?_eq_getElem h]; rfl
end Rf


namespace Rf
open PySem L2 Cr

structure FMakes (G : Gam) (x : Int) : Prop where
  mks : FMake G x
  near : List.lookup (Str.ofString "_law_near") G.fns = some c__law_near
  f1 : List.lookup (Str.ofString "_law_makes") G.fns = some c__law_makes
theorem mul_int {i j : Int} (h : inR i = true) : binD .Mult (.int i) (.int j) = some (.int (i * j)) := by
  show (if inR i || inR j then some (D.int (i * j)) else none) = _
  rw [h]; rfl
def piecesOf : List Make → List Piece
  | [] => []
  | [a] => [⟨a, none⟩]
  | a :: b :: r => ⟨a, some b⟩ :: piecesOf r
def Piece.has (p : Piece) (m : Make) : Bool := !m.lt p.low && (match p.high with
  | none => true
  | some h => m.lt h)
def hasS (s : List Piece) (m : Make) : Bool := s.any fun p => p.has m
structure FIn (G : Gam) : Prop where
  old : FOld G
  f1 : List.lookup (Str.ofString "in_piece") G.fns = some c_in_piece
  f2 : List.lookup (Str.ofString "lies_in") G.fns = some c_lies_in
theorem make_is_non (S : Store) (m : Make) : cmpD S .Is m.d .non = some false := rfl
theorem in_piece_ok {G : Gam} (F : FIn G) (m : Make) (p : Piece) (hm : m.sm) (hp : p.sm) (n : Nat) (S : Store) : callF G (n + 4) "in_piece" [m.d, p.d] S = .ok (.bl (p.has m), S) := by
  refine callF_pur0 F.f1 rfl (by decide) rfl ?_
  obtain ⟨lo, hi⟩ := p
  obtain ⟨h1, h2⟩ := hp
  simp only at h1 h2
  refine ret_step (r1 := [some m.d, some (Piece.d ⟨lo, hi⟩), some lo.d, some (optD hi)]) (S1 := S) ?_ ?_
  · show execS _ (.asgt [2, 3] (.var 1)) [some m.d, some (Piece.d ⟨lo, hi⟩), none, none] S = _
    rw [execS, evalE]; rfl
  have o1 := cfg_ok (is_older_ok F.old m lo hm h1 n S)
  cases q : m.lt lo with
  | true =>
    have e : Piece.has ⟨lo, hi⟩ m = false := by unfold Piece.has; rw [q]; rfl
    exact ⟨_, by simp only [Rf.execs, Rf.execS, evalE, evalEs, evalO, evalT, evalL, evalC, evalI, bd_k, of_some, startE, bindT, wipeT, List.map_cons, List.map_nil, List.length_cons, List.length_nil, List.replicate, List.cons_append, List.nil_append, List.getElem?_cons_zero, List.getElem?_cons_succ, List.set_cons_zero, List.set_cons_succ, Option.map_some, Option.map_none, Option.bind_some, Option.bind_none, cmp_eq_int, cmp_ne_int, cmp_eq_str, cmp_ne_str, cmp_eq_bl, cmp_ne_bl, cmp_lt_int, cmp_le_int, cmp_gt_int, cmp_ge_int, cmp_is_non, cmp_is_int, cmp_is_tup, cmp_isn_non, cmp_isn_int, cmp_isn_tup, cmp_is_bl, cmp_isn_bl, cmp_in_str, isi_bl, isi_int, isi_str, isi_tup, isi_lst, isi_non, truth_bl, len_tup, len_lst, len_fro, idx_tup, idx_lst, idx_fro, isStr, seqI_str, seqI_tup, seqI_lst, decide_true, decide_false, if_true, if_false, ↓reduceIte, eq_self, Bool.false_eq_true, Bool.true_or, Bool.or_true, Bool.false_or, Bool.or_false, Bool.true_and, Bool.and_true, Bool.false_and, Bool.and_false, Bool.not_true, Bool.not_false, reduceCtorEq, and_self, and_true, true_and, ite_self, size16, Nat.reduceAdd, Nat.reduceLeDiff, Nat.zero_le, o1, q, e]; rfl⟩
  | false => cases hi with
    | none =>
      have e : Piece.has ⟨lo, none⟩ m = true := by unfold Piece.has; rw [q]; rfl
      exact ⟨_, by simp only [Rf.execs, Rf.execS, evalE, evalEs, evalO, evalT, evalL, evalC, evalI, bd_k, of_some, startE, bindT, wipeT, List.map_cons, List.map_nil, List.length_cons, List.length_nil, List.replicate, List.cons_append, List.nil_append, List.getElem?_cons_zero, List.getElem?_cons_succ, List.set_cons_zero, List.set_cons_succ, Option.map_some, Option.map_none, Option.bind_some, Option.bind_none, cmp_eq_int, cmp_ne_int, cmp_eq_str, cmp_ne_str, cmp_eq_bl, cmp_ne_bl, cmp_lt_int, cmp_le_int, cmp_gt_int, cmp_ge_int, cmp_is_non, cmp_is_int, cmp_is_tup, cmp_isn_non, cmp_isn_int, cmp_isn_tup, cmp_is_bl, cmp_isn_bl, cmp_in_str, isi_bl, isi_int, isi_str, isi_tup, isi_lst, isi_non, truth_bl, len_tup, len_lst, len_fro, idx_tup, idx_lst, idx_fro, isStr, seqI_str, seqI_tup, seqI_lst, decide_true, decide_false, if_true, if_false, ↓reduceIte, eq_self, Bool.false_eq_true, Bool.true_or, Bool.or_true, Bool.false_or, Bool.or_false, Bool.true_and, Bool.and_true, Bool.false_and, Bool.and_false, Bool.not_true, Bool.not_false, reduceCtorEq, and_self, and_true, true_and, ite_self, size16, Nat.reduceAdd, Nat.reduceLeDiff, Nat.zero_le, o1, q, e, optD]; rfl⟩
    | some h =>
      have e : Piece.has ⟨lo, some h⟩ m = m.lt h := by unfold Piece.has; rw [q]; rfl
      have o2 := cfg_ok (is_older_ok F.old m h hm (h2 h rfl) n S)
      exact ⟨_, by simp only [Rf.execs, Rf.execS, evalE, evalEs, evalO, evalT, evalL, evalC, evalI, bd_k, of_some, startE, bindT, wipeT, List.map_cons, List.map_nil, List.length_cons, List.length_nil, List.replicate, List.cons_append, List.nil_append, List.getElem?_cons_zero, List.getElem?_cons_succ, List.set_cons_zero, List.set_cons_succ, Option.map_some, Option.map_none, Option.bind_some, Option.bind_none, cmp_eq_int, cmp_ne_int, cmp_eq_str, cmp_ne_str, cmp_eq_bl, cmp_ne_bl, cmp_lt_int, cmp_le_int, cmp_gt_int, cmp_ge_int, cmp_is_non, cmp_is_int, cmp_is_tup, cmp_isn_non, cmp_isn_int, cmp_isn_tup, cmp_is_bl, cmp_isn_bl, cmp_in_str, isi_bl, isi_int, isi_str, isi_tup, isi_lst, isi_non, truth_bl, len_tup, len_lst, len_fro, idx_tup, idx_lst, idx_fro, isStr, seqI_str, seqI_tup, seqI_lst, decide_true, decide_false, if_true, if_false, ↓reduceIte, eq_self, Bool.false_eq_true, Bool.true_or, Bool.or_true, Bool.false_or, Bool.or_false, Bool.true_and, Bool.and_true, Bool.false_and, Bool.and_false, Bool.not_true, Bool.not_false, reduceCtorEq, and_self, and_true, true_and, ite_self, size16, Nat.reduceAdd, Nat.reduceLeDiff, Nat.zero_le, o1, q, e, optD, make_is_non, o2]; rfl⟩
theorem lies_in_ok {G : Gam} (F : FIn G) (m : Make) (s : List Piece) (hm : m.sm) (hs : ∀ p ∈ s, p.sm) (hl : s.length ≤ 100000) (n : Nat) (S : Store) : callF G (n + 5) "lies_in" [m.d, spanD s] S = .ok (.bl (hasS s m), S) := by
  refine callF_pur0 F.f2 rfl (by decide) rfl ?_
  have l0 : evalL (G.cfg (n + 4)) c_lies_in_l0 [some m.d, some (spanD s), none] S = .ok (s.map (fun p => D.bl (p.has m)), S) :=
    eval_comp s Piece.d _ (by simp only [Rf.execs, Rf.execS, evalE, evalEs, evalO, evalT, evalL, evalC, evalI, bd_k, of_some, startE, bindT, wipeT, List.map_cons, List.map_nil, List.length_cons, List.length_nil, List.replicate, List.cons_append, List.nil_append, List.getElem?_cons_zero, List.getElem?_cons_succ, List.set_cons_zero, List.set_cons_succ, Option.map_some, Option.map_none, Option.bind_some, Option.bind_none, cmp_eq_int, cmp_ne_int, cmp_eq_str, cmp_ne_str, cmp_eq_bl, cmp_ne_bl, cmp_lt_int, cmp_le_int, cmp_gt_int, cmp_ge_int, cmp_is_non, cmp_is_int, cmp_is_tup, cmp_isn_non, cmp_isn_int, cmp_isn_tup, cmp_is_bl, cmp_isn_bl, cmp_in_str, isi_bl, isi_int, isi_str, isi_tup, isi_lst, isi_non, truth_bl, len_tup, len_lst, len_fro, idx_tup, idx_lst, idx_fro, isStr, seqI_str, seqI_tup, seqI_lst, decide_true, decide_false, if_true, if_false, ↓reduceIte, eq_self, Bool.false_eq_true, Bool.true_or, Bool.or_true, Bool.false_or, Bool.or_false, Bool.true_and, Bool.and_true, Bool.false_and, Bool.and_false, Bool.not_true, Bool.not_false, reduceCtorEq, and_self, and_true, true_and, ite_self, size16, Nat.reduceAdd, Nat.reduceLeDiff, Nat.zero_le, spanD]) (by rw [size16]; omega) fun p hp => ⟨_, rfl, by simp only [Rf.execs, Rf.execS, evalE, evalEs, evalO, evalT, evalL, evalC, evalI, bd_k, of_some, startE, bindT, wipeT, List.map_cons, List.map_nil, List.length_cons, List.length_nil, List.replicate, List.cons_append, List.nil_append, List.getElem?_cons_zero, List.getElem?_cons_succ, List.set_cons_zero, List.set_cons_succ, Option.map_some, Option.map_none, Option.bind_some, Option.bind_none, cmp_eq_int, cmp_ne_int, cmp_eq_str, cmp_ne_str, cmp_eq_bl, cmp_ne_bl, cmp_lt_int, cmp_le_int, cmp_gt_int, cmp_ge_int, cmp_is_non, cmp_is_int, cmp_is_tup, cmp_isn_non, cmp_isn_int, cmp_isn_tup, cmp_is_bl, cmp_isn_bl, cmp_in_str, isi_bl, isi_int, isi_str, isi_tup, isi_lst, isi_non, truth_bl, len_tup, len_lst, len_fro, idx_tup, idx_lst, idx_fro, isStr, seqI_str, seqI_tup, seqI_lst, decide_true, decide_false, if_true, if_false, ↓reduceIte, eq_self, Bool.false_eq_true, Bool.true_or, Bool.or_true, Bool.false_or, Bool.or_false, Bool.true_and, Bool.and_true, Bool.false_and, Bool.and_false, Bool.not_true, Bool.not_false, reduceCtorEq, and_self, and_true, true_and, ite_self, size16, Nat.reduceAdd, Nat.reduceLeDiff, Nat.zero_le, cfg_ok (in_piece_ok F m p hm (hs p hp) n S)]⟩
  exact ⟨_, by simp only [c_lies_in, Rf.execs, Rf.execS, evalE, evalEs, evalO, evalT, evalL, evalC, evalI, bd_k, of_some, startE, bindT, wipeT, List.map_cons, List.map_nil, List.length_cons, List.length_nil, List.replicate, List.cons_append, List.nil_append, List.getElem?_cons_zero, List.getElem?_cons_succ, List.set_cons_zero, List.set_cons_succ, Option.map_some, Option.map_none, Option.bind_some, Option.bind_none, cmp_eq_int, cmp_ne_int, cmp_eq_str, cmp_ne_str, cmp_eq_bl, cmp_ne_bl, cmp_lt_int, cmp_le_int, cmp_gt_int, cmp_ge_int, cmp_is_non, cmp_is_int, cmp_is_tup, cmp_isn_non, cmp_isn_int, cmp_isn_tup, cmp_is_bl, cmp_isn_bl, cmp_in_str, isi_bl, isi_int, isi_str, isi_tup, isi_lst, isi_non, truth_bl, len_tup, len_lst, len_fro, idx_tup, idx_lst, idx_fro, isStr, seqI_str, seqI_tup, seqI_lst, decide_true, decide_false, if_true, if_false, ↓reduceIte, eq_self, Bool.false_eq_true, Bool.true_or, Bool.or_true, Bool.false_or, Bool.or_false, Bool.true_and, Bool.and_true, Bool.false_and, Bool.and_false, Bool.not_true, Bool.not_false, reduceCtorEq, and_self, and_true, true_and, ite_self, size16, Nat.reduceAdd, Nat.reduceLeDiff, Nat.zero_le, l0, any_map]; rfl⟩
theorem lp_any {α : Type} (p : α → Bool) : ∀ l : List α, lp (σ := Unit) (ρ := Unit) (fun _ x => if p x = true then .inr () else .inl ()) l () = if l.any p = true then .inr () else .inl ()
  | [] => rfl
  | x :: l => by
    rw [lp]
    cases h : p x
    · rw [if_neg (by decide)]
      show lp _ l () = _
      rw [lp_any p l]; simp [h]
    · rw [if_pos rfl]; simp [h]
def oldest : Make := ⟨0, 0, 0, [.n 0]⟩
def allS : List Piece := [⟨oldest, none⟩]
theorem seqI_end (S : Store) (xs : List D) : seqI (S ++ [.lst xs]) (.ref S.length) = some (xs, fun S' => decide (S'[S.length]? = some (.lst xs))) := by
  have e : (S ++ [O.lst xs])[S.length]? = some (.lst xs) := by simp
  simp only [seqI, e]
end Rf


namespace Rf
open PySem L2 Cr

def insA (x : Make) : List Make → List Make
  | [] => [x]
  | y :: r => if y.lt x = true then y :: insA x r else x :: y :: r
def ascM (l : List Make) : List Make := l.foldr insA []
theorem insA_perm (x : Make) : ∀ l : List Make, (insA x l).Perm (x :: l)
  | [] => List.Perm.refl _
  | y :: t => by
    unfold insA
    split
    · exact ((insA_perm x t).cons y).trans (List.Perm.swap x y t)
    · exact List.Perm.refl _
theorem ascM_perm : ∀ l : List Make, (ascM l).Perm l
  | [] => List.Perm.refl _
  | x :: l => (insA_perm x (ascM l)).trans ((ascM_perm l).cons x)
theorem Make.le_lt {x y z : Make} (h : y.lt x = false) (k : z.lt y = false) : z.lt x = false := by
  cases e : z.lt x with
  | false => rfl
  | true =>
    by_cases q : x = y
    · subst q; rw [e] at k; exact k
    · rcases Make.total q with t | t
      · rw [Make.trans e t] at k; exact k
      · rw [t] at h; exact h
theorem insA_srt {x : Make} : ∀ {l : List Make}, l.Pairwise (fun a b => b.lt a = false) → (insA x l).Pairwise (fun a b => b.lt a = false)
  | [], _ => List.pairwise_singleton _ _
  | y :: t, h => by
    have h' := List.pairwise_cons.mp h
    unfold insA
    split
    · rename_i hy
      refine List.pairwise_cons.mpr ⟨fun z hz => ?_, insA_srt h'.2⟩
      rcases List.mem_cons.mp ((insA_perm x t).mem_iff.mp hz) with e | hz
      · rw [e]; exact Make.asym hy
      · exact h'.1 z hz
    · rename_i hy
      have hy' : y.lt x = false := by simpa using hy
      refine List.pairwise_cons.mpr ⟨fun z hz => ?_, h⟩
      rcases List.mem_cons.mp hz with e | hz
      · rw [e]; exact hy'
      · exact Make.le_lt hy' (h'.1 z hz)
theorem ascM_srt : ∀ l : List Make, (ascM l).Pairwise (fun a b => b.lt a = false)
  | [] => List.Pairwise.nil
  | x :: l => insA_srt (ascM_srt l)
def descM (l : List Make) : List Make := (ascM l).reverse
theorem descM_perm (l : List Make) : (descM l).Perm l := (List.reverse_perm _).trans (ascM_perm l)
theorem descM_srt (l : List Make) : (descM l).Pairwise (fun a b => a.lt b = false) := List.pairwise_reverse.mpr (ascM_srt l)
theorem descM_len (l : List Make) : (descM l).length = l.length := (descM_perm l).length_eq

structure KeyM (kf : Make → D) : Prop where
  lt : ∀ x y : Make, D.ltv (kf x) (kf y) = some (x.lt y)
  okd : ∀ x : Make, D.okd deep (kf x) = true
  tk : ∀ x : Make, tupK (kf x) = true
section
variable {kf : Make → D} (K : KeyM kf)
include K
theorem KeyM.ltB (x y : Make) : Rf.ltB (kf x) (kf y) = x.lt y := by
  unfold Rf.ltB
  rw [K.lt]
  cases x.lt y <;> simp
theorem KeyM.insK (x : Make) : ∀ l : List Make, Rf.insK (kf x, x.d) (l.map fun m => (kf m, m.d)) = (insA x l).map fun m => (kf m, m.d)
  | [] => rfl
  | y :: t => by
    rw [List.map_cons, Rf.insK, insA]
    show (if Rf.ltB (kf y) (kf x) = true then (kf y, y.d) :: Rf.insK (kf x, x.d) (t.map fun m => (kf m, m.d)) else _) = _
    rw [K.ltB, KeyM.insK x t]
    split <;> rfl
theorem KeyM.sortK : ∀ l : List Make, Rf.sortK (l.map fun m => (kf m, m.d)) = (ascM l).map fun m => (kf m, m.d)
  | [] => rfl
  | x :: t => by
    show Rf.insK (kf x, x.d) (Rf.sortK (t.map fun m => (kf m, m.d))) = (insA x (ascM t)).map _
    rw [KeyM.sortK t, K.insK]
theorem KeyM.okds : ∀ l : List Make, D.okds deep (l.map kf) = true
  | [] => rfl
  | x :: t => by rw [List.map_cons, D.okds, K.okd, KeyM.okds t]; rfl
theorem KeyM.okSort (l : List Make) : Rf.okSort (l.map kf) = true := by
  unfold Rf.okSort
  simp only [List.all_eq_true, List.mem_map, Bool.and_eq_true, Bool.not_eq_true', Bool.or_eq_true, Bool.and_eq_false_iff]
  rintro _ ⟨x, hx, rfl⟩
  refine ⟨by rw [K.ltB]; exact Make.irr x, ?_⟩
  rintro _ ⟨y, hy, rfl⟩
  refine ⟨by rw [K.lt]; rfl, ?_⟩
  rintro _ ⟨z, hz, rfl⟩
  rw [K.ltB, K.ltB, K.ltB]
  constructor
  · cases e1 : x.lt y with
    | false => exact .inl (.inl rfl)
    | true =>
      cases e2 : y.lt z with
      | false => exact .inl (.inr rfl)
      | true => exact .inr (Make.trans e1 e2)
  · cases e1 : x.lt y with
    | true => exact .inl (.inl rfl)
    | false =>
      cases e2 : y.lt z with
      | true => exact .inl (.inr rfl)
      | false => exact .inr (Make.le_lt e2 e1)
theorem KeyM.sortT (l : List Make) : Rf.sortT (l.map kf) (l.map Make.d) = some ((ascM l).map Make.d) := by
  have t : (l.map kf).all tupK = true := by
    rw [List.all_eq_true]
    intro x hx
    obtain ⟨y, _, rfl⟩ := List.mem_map.mp hx
    exact K.tk y
  unfold Rf.sortT sortD
  rw [if_pos t, if_pos ⟨K.okds l, K.okSort l⟩, zip_mm l, K.sortK, List.map_map]
  rfl
where zip_mm : ∀ l : List Make, (l.map kf).zip (l.map Make.d) = l.map fun m => (kf m, m.d)
  | [] => rfl
  | x :: t => by rw [List.map_cons, List.map_cons, List.zip_cons_cons, zip_mm t]; rfl
end
theorem keyM : KeyM Make.key := ⟨ltv_key, okd_key, fun _ => rfl⟩
structure FNew (G : Gam) : Prop where
  key : FKey G
  f1 : List.lookup (Str.ofString "newest_first") G.fns = some c_newest_first
theorem newest_first_ok {G : Gam} (F : FNew G) (l : List Make) (hl : ∀ m ∈ l, m.sm) (a : D) (n : Nat) (S : Store) (ha : litems S a = some (l.map Make.d)) :
    callF G (n + 3) "newest_first" [a] S = .ok (.ref S.length, S ++ [.lst ((descM l).map Make.d)]) := by
  have e1 := compL_map (f := fun x S2 => ((G.cfg (n + 2)).call (Str.ofString "make_key") [x] S2).bd fun k S3 => if S3 = S2 then Res.ok (some k, S3) else .bad) (S := S) (emb := Make.d) (g := Make.key) l fun m hm => by
    rw [cfg_ok (make_key_ok F.key m (hl m hm) n S)]
    simp only [Rf.execs, Rf.execS, evalE, evalEs, evalO, evalT, evalL, evalC, evalI, bd_k, of_some, startE, bindT, wipeT, List.map_cons, List.map_nil, List.length_cons, List.length_nil, List.replicate, List.cons_append, List.nil_append, List.getElem?_cons_zero, List.getElem?_cons_succ, List.set_cons_zero, List.set_cons_succ, Option.map_some, Option.map_none, Option.bind_some, Option.bind_none, cmp_eq_int, cmp_ne_int, cmp_eq_str, cmp_ne_str, cmp_eq_bl, cmp_ne_bl, cmp_lt_int, cmp_le_int, cmp_gt_int, cmp_ge_int, cmp_is_non, cmp_is_int, cmp_is_tup, cmp_isn_non, cmp_isn_int, cmp_isn_tup, cmp_is_bl, cmp_isn_bl, cmp_in_str, isi_bl, isi_int, isi_str, isi_tup, isi_lst, isi_non, truth_bl, len_tup, len_lst, len_fro, idx_tup, idx_lst, idx_fro, isStr, seqI_str, seqI_tup, seqI_lst, decide_true, decide_false, if_true, if_false, ↓reduceIte, eq_self, Bool.false_eq_true, Bool.true_or, Bool.or_true, Bool.false_or, Bool.or_false, Bool.true_and, Bool.and_true, Bool.false_and, Bool.and_false, Bool.not_true, Bool.not_false, reduceCtorEq, and_self, and_true, true_and, ite_self, if_true]
  have ex : ∃ r', execs (G.cfg (n + 2)) c_newest_first.body (startE 1 [a]) S = .ok ((.rt (.ref S.length), r'), S ++ [.lst ((descM l).map Make.d)]) := by
    have e2 : items S (.lst ((ascM l).map Make.d)) = some ((ascM l).map Make.d) := rfl
    have e3 : ((ascM l).map Make.d).reverse = (descM l).map Make.d := by rw [← List.map_reverse]; rfl
    exact ⟨_, by simp only [c_newest_first, Rf.execs, Rf.execS, evalE, evalEs, evalO, evalT, evalL, evalC, evalI, bd_k, of_some, startE, bindT, wipeT, List.map_cons, List.map_nil, List.length_cons, List.length_nil, List.replicate, List.cons_append, List.nil_append, List.getElem?_cons_zero, List.getElem?_cons_succ, List.set_cons_zero, List.set_cons_succ, Option.map_some, Option.map_none, Option.bind_some, Option.bind_none, cmp_eq_int, cmp_ne_int, cmp_eq_str, cmp_ne_str, cmp_eq_bl, cmp_ne_bl, cmp_lt_int, cmp_le_int, cmp_gt_int, cmp_ge_int, cmp_is_non, cmp_is_int, cmp_is_tup, cmp_isn_non, cmp_isn_int, cmp_isn_tup, cmp_is_bl, cmp_isn_bl, cmp_in_str, isi_bl, isi_int, isi_str, isi_tup, isi_lst, isi_non, truth_bl, len_tup, len_lst, len_fro, idx_tup, idx_lst, idx_fro, isStr, seqI_str, seqI_tup, seqI_lst, decide_true, decide_false, if_true, if_false, ↓reduceIte, eq_self, Bool.false_eq_true, Bool.true_or, Bool.or_true, Bool.false_or, Bool.or_false, Bool.true_and, Bool.and_true, Bool.false_and, Bool.and_false, Bool.not_true, Bool.not_false, reduceCtorEq, and_self, and_true, true_and, ite_self, Nat.reduceAdd, Nat.reduceSub, Nat.sub_self, ha, e1, keyM.sortT, e2, e3]; rfl⟩
  obtain ⟨r', ex⟩ := ex
  refine callF_eq F.f1 rfl (by decide) ex rfl ?_
  exact fin_keep (fd := c_newest_first) rfl (S := S) [.lst ((descM l).map Make.d)] (j := 0) (D.purs_map _ Make.pur _) rfl

end Rf


namespace Rf
open PySem L2 Cr

theorem fdiv_int (i j : Int) (h : 0 < j) (k : j < 1073741824) : binD .FloorDiv (.int i) (.int j) = some (.int (i / j)) := by
  show (if 0 < j && j < 1073741824 then some (D.int (i / j)) else none) = _
  rw [if_pos (by simp [h, k])]
theorem mul_intR {i j : Int} (h : inR j = true) : binD .Mult (.int i) (.int j) = some (.int (i * j)) := by
  show (if inR i || inR j then some (D.int (i * j)) else none) = _
  rw [h, Bool.or_true]; rfl
theorem law_cell_ok {G : Gam} (hf : List.lookup (Str.ofString "_law_cell") G.fns = some c__law_cell) {ns : List Int} (h63 : ns.length ≤ 63) (k : Nat) (hk : k ≤ 100000) : ∃ c : Int, ∀ n S, callF G (n + 1) "_law_cell" [.fro ns, .int (k : Int)] S = .ok (.int c, S) := by
  by_cases h : ns.length = 0
  · refine ⟨7919 * (k : Int), fun n S => callF_pur0 hf rfl (by decide) rfl ?_⟩
    have h0 : ((ns.length : Int) = 0) := by omega
    have m1 : binD .Mult (.int 7919) (.int (k : Int)) = some (.int (7919 * (k : Int))) := mul_int (by decide)
    exact ⟨_, by simp only [c__law_cell, Rf.execs, Rf.execS, evalE, evalEs, evalO, evalT, evalL, evalC, evalI, bd_k, of_some, startE, bindT, wipeT, List.map_cons, List.map_nil, List.length_cons, List.length_nil, List.replicate, List.cons_append, List.nil_append, List.getElem?_cons_zero, List.getElem?_cons_succ, List.set_cons_zero, List.set_cons_succ, Option.map_some, Option.map_none, Option.bind_some, Option.bind_none, cmp_eq_int, cmp_ne_int, cmp_eq_str, cmp_ne_str, cmp_eq_bl, cmp_ne_bl, cmp_lt_int, cmp_le_int, cmp_gt_int, cmp_ge_int, cmp_is_non, cmp_is_int, cmp_is_tup, cmp_isn_non, cmp_isn_int, cmp_isn_tup, cmp_is_bl, cmp_isn_bl, cmp_in_str, isi_bl, isi_int, isi_str, isi_tup, isi_lst, isi_non, truth_bl, len_tup, len_lst, len_fro, idx_tup, idx_lst, idx_fro, isStr, seqI_str, seqI_tup, seqI_lst, decide_true, decide_false, if_true, if_false, ↓reduceIte, eq_self, Bool.false_eq_true, Bool.true_or, Bool.or_true, Bool.false_or, Bool.or_false, Bool.true_and, Bool.and_true, Bool.false_and, Bool.and_false, Bool.not_true, Bool.not_false, reduceCtorEq, and_self, and_true, true_and, ite_self, size16, Nat.reduceAdd, Nat.reduceLeDiff, Nat.zero_le, h0, m1]; rfl⟩
  · have hp : (0 : Int) < (ns.length : Int) := by omega
    have h0 : ¬ ((ns.length : Int) = 0) := by omega
    have b0 : 0 ≤ (k : Int) % (ns.length : Int) := Int.emod_nonneg _ h0
    have b1 : (k : Int) % (ns.length : Int) < (ns.length : Int) := Int.emod_lt_of_pos _ hp
    have ix : atI (ns.map D.int) ((k : Int) % (ns.length : Int)) = some (.int (ns.getD ((k : Int) % (ns.length : Int)).toNat 0)) := by
      rw [atI_map, atI_getD 0 b0 b1]; rfl
    refine ⟨ns.getD ((k : Int) % (ns.length : Int)).toNat 0 + 7919 * ((k : Int) / (ns.length : Int)), fun n S => callF_pur0 hf rfl (by decide) rfl ?_⟩
    have m1 : ∀ j, binD .Mult (.int 7919) (.int j) = some (.int (7919 * j)) := fun j => mul_int (by decide)
    exact ⟨_, by simp only [c__law_cell, Rf.execs, Rf.execS, evalE, evalEs, evalO, evalT, evalL, evalC, evalI, bd_k, of_some, startE, bindT, wipeT, List.map_cons, List.map_nil, List.length_cons, List.length_nil, List.replicate, List.cons_append, List.nil_append, List.getElem?_cons_zero, List.getElem?_cons_succ, List.set_cons_zero, List.set_cons_succ, Option.map_some, Option.map_none, Option.bind_some, Option.bind_none, cmp_eq_int, cmp_ne_int, cmp_eq_str, cmp_ne_str, cmp_eq_bl, cmp_ne_bl, cmp_lt_int, cmp_le_int, cmp_gt_int, cmp_ge_int, cmp_is_non, cmp_is_int, cmp_is_tup, cmp_isn_non, cmp_isn_int, cmp_isn_tup, cmp_is_bl, cmp_isn_bl, cmp_in_str, isi_bl, isi_int, isi_str, isi_tup, isi_lst, isi_non, truth_bl, len_tup, len_lst, len_fro, idx_tup, idx_lst, idx_fro, isStr, seqI_str, seqI_tup, seqI_lst, decide_true, decide_false, if_true, if_false, ↓reduceIte, eq_self, Bool.false_eq_true, Bool.true_or, Bool.or_true, Bool.false_or, Bool.or_false, Bool.true_and, Bool.and_true, Bool.false_and, Bool.and_false, Bool.not_true, Bool.not_false, reduceCtorEq, and_self, and_true, true_and, ite_self, size16, Nat.reduceAdd, Nat.reduceLeDiff, Nat.zero_le, h0, mod_int _ _ hp, ix, fdiv_int _ _ hp (by omega), m1, add_int]; rfl⟩

def dsL (ds : List Nat) : List D := ds.map fun (k : Nat) => D.int (k : Int)
theorem dsL_len (ds : List Nat) : (dsL ds).length = ds.length := List.length_map _
theorem dsL_at (ds : List Nat) (j : Nat) (h : j < ds.length) : atI (dsL ds) (j : Int) = some (.int (ds[j] : Nat)) := by
  unfold atI
  rw [dsL_len, ixN_nat h]
  show (dsL ds)[j]? = _
  unfold dsL
  rw [List.getElem?_map, List.getElem?_eq_getElem h]; rfl
theorem dsL_app (ds : List Nat) (k : Nat) : dsL (ds ++ [k]) = dsL ds ++ [.int (k : Int)] := by unfold dsL; rw [List.map_append]; rfl
theorem dsL_pur (ds : List Nat) : D.purs (dsL ds) = true := D.purs_map _ (fun _ => rfl) ds
theorem law_draws_ex {G : Gam} (hf : List.lookup (Str.ofString "_law_draws") G.fns = some c__law_draws) (c : Int) (sz : List Nat) (hl : sz.length ≤ 1000) (hs : ∀ k ∈ sz, 0 < k ∧ k < 1000000) :
    ∃ ds : List Nat, ds.length = sz.length ∧ (∀ j (h1 : j < ds.length) (h2 : j < sz.length), ds[j] < sz[j]) ∧ ∀ n S, callF G (n + 1) "_law_draws" [.int c, .lst (dsL sz)] S = .ok (.lst (dsL ds), S) := by
  -- one digit and the rest
  obtain ⟨g, hg⟩ : ∃ g : Nat → Int → Int × Int, g = fun (i : Nat) (digs : Int) => (((if c % 2 = 0 then digs else (((c % 1000003 + 1) * (48271 + 31 * (i : Int)) % 2147483629 + 7919 * (i : Int) * (i : Int) + 11) * 69621 % 999983)) % ((sz.getD i 1 : Nat) : Int)), digs / ((sz.getD i 1 : Nat) : Int)) := ⟨_, rfl⟩
  obtain ⟨L, L0, Ls⟩ : ∃ L : Nat → List Nat × Int, L 0 = ([], c / 2) ∧ ∀ i, L (i + 1) = ((L i).1 ++ [(g i (L i).2).1.toNat], (g i (L i).2).2) :=
    ⟨fun n => Nat.rec ([], c / 2) (fun i l => (l.1 ++ [(g i l.2).1.toNat], (g i l.2).2)) n, rfl, fun _ => rfl⟩
  have szp : ∀ i, i < sz.length → 0 < ((sz.getD i 1 : Nat) : Int) ∧ ((sz.getD i 1 : Nat) : Int) < 1000000 := fun i hi => by
    have := hs _ (show sz.getD i 1 ∈ sz by rw [List.getD_eq_getElem?_getD, List.getElem?_eq_getElem hi]; exact List.getElem_mem hi)
    omega
  have Ll : ∀ i, (L i).1.length = i := fun i => by
    induction i with
    | zero => rw [L0]; rfl
    | succ i ih => rw [Ls, List.length_append, ih]; rfl
  have gd : ∀ i digs, i < sz.length → 0 ≤ (g i digs).1 ∧ (g i digs).1 < ((sz.getD i 1 : Nat) : Int) := fun i digs hi => by
    have := szp i hi
    rw [hg]
    exact ⟨Int.emod_nonneg _ (by omega), Int.emod_lt_of_pos _ this.1⟩
  have Lb : ∀ i, i ≤ sz.length → ∀ j (h1 : j < (L i).1.length) (h2 : j < sz.length), (L i).1[j] < sz[j] := fun i => by
    induction i with
    | zero => intro _ j h1; rw [Ll] at h1; exact absurd h1 (Nat.not_lt_zero _)
    | succ i ih =>
      intro hi j h1 h2
      have hli := Ll i
      have e : (L (i + 1)).1 = (L i).1 ++ [(g i (L i).2).1.toNat] := by rw [Ls]
      by_cases hj : j < (L i).1.length
      · have : (L (i + 1)).1[j] = (L i).1[j] := by simp only [e]; rw [List.getElem_append_left hj]
        rw [this]; exact ih (by omega) j hj h2
      · have hj' : j = i := by rw [Ll] at h1; omega
        subst hj'
        have : (L (j + 1)).1[j] = (g j (L j).2).1.toNat := by simp only [e]; rw [List.getElem_append_right (by omega)]; simp [hli]
        rw [this]
        obtain ⟨g0, g1⟩ := gd j (L j).2 h2
        have : sz.getD j 1 = sz[j] := by rw [List.getD_eq_getElem?_getD, List.getElem?_eq_getElem h2]; rfl
        rw [this] at g1
        omega
  refine ⟨(L sz.length).1, Ll _, Lb _ (Nat.le_refl _), fun n S => ?_⟩
  have d2 : binD .FloorDiv (.int c) (.int 2) = some (.int (c / 2)) := fdiv_int _ _ (by decide) (by decide)
  have ex : ∃ r', execs (G.cfg n) c__law_draws.body (startE 6 [.int c, .lst (dsL sz)]) S = .ok ((.rt (.ref S.length), r'), S ++ [.lst (dsL (L sz.length).1)]) := by
    refine ret_step (r1 := [some (.int c), some (.lst (dsL sz)), some (.ref S.length), none, none, none]) (S1 := S ++ [.lst []]) ?_ ?_
    · simp only [Rf.execs, Rf.execS, evalE, evalEs, evalO, evalT, evalL, evalC, evalI, bd_k, of_some, startE, bindT, wipeT, List.map_cons, List.map_nil, List.length_cons, List.length_nil, List.replicate, List.cons_append, List.nil_append, List.getElem?_cons_zero, List.getElem?_cons_succ, List.set_cons_zero, List.set_cons_succ, Option.map_some, Option.map_none, Option.bind_some, Option.bind_none, cmp_eq_int, cmp_ne_int, cmp_eq_str, cmp_ne_str, cmp_eq_bl, cmp_ne_bl, cmp_lt_int, cmp_le_int, cmp_gt_int, cmp_ge_int, cmp_is_non, cmp_is_int, cmp_is_tup, cmp_isn_non, cmp_isn_int, cmp_isn_tup, cmp_is_bl, cmp_isn_bl, cmp_in_str, isi_bl, isi_int, isi_str, isi_tup, isi_lst, isi_non, truth_bl, len_tup, len_lst, len_fro, idx_tup, idx_lst, idx_fro, isStr, seqI_str, seqI_tup, seqI_lst, decide_true, decide_false, if_true, if_false, ↓reduceIte, eq_self, Bool.false_eq_true, Bool.true_or, Bool.or_true, Bool.false_or, Bool.or_false, Bool.true_and, Bool.and_true, Bool.false_and, Bool.and_false, Bool.not_true, Bool.not_false, reduceCtorEq, and_self, and_true, true_and, ite_self, size16, Nat.reduceAdd, Nat.reduceLeDiff, Nat.zero_le]
    refine ret_step (r1 := [some (.int c), some (.lst (dsL sz)), some (.ref S.length), some (.int (c / 2)), none, none]) (S1 := S ++ [.lst []]) ?_ ?_
    · simp only [Rf.execs, Rf.execS, evalE, evalEs, evalO, evalT, evalL, evalC, evalI, bd_k, of_some, startE, bindT, wipeT, List.map_cons, List.map_nil, List.length_cons, List.length_nil, List.replicate, List.cons_append, List.nil_append, List.getElem?_cons_zero, List.getElem?_cons_succ, List.set_cons_zero, List.set_cons_succ, Option.map_some, Option.map_none, Option.bind_some, Option.bind_none, cmp_eq_int, cmp_ne_int, cmp_eq_str, cmp_ne_str, cmp_eq_bl, cmp_ne_bl, cmp_lt_int, cmp_le_int, cmp_gt_int, cmp_ge_int, cmp_is_non, cmp_is_int, cmp_is_tup, cmp_isn_non, cmp_isn_int, cmp_isn_tup, cmp_is_bl, cmp_isn_bl, cmp_in_str, isi_bl, isi_int, isi_str, isi_tup, isi_lst, isi_non, truth_bl, len_tup, len_lst, len_fro, idx_tup, idx_lst, idx_fro, isStr, seqI_str, seqI_tup, seqI_lst, decide_true, decide_false, if_true, if_false, ↓reduceIte, eq_self, Bool.false_eq_true, Bool.true_or, Bool.or_true, Bool.false_or, Bool.or_false, Bool.true_and, Bool.and_true, Bool.false_and, Bool.and_false, Bool.not_true, Bool.not_false, reduceCtorEq, and_self, and_true, true_and, ite_self, size16, Nat.reduceAdd, Nat.reduceLeDiff, Nat.zero_le, d2]
    obtain ⟨r', S', h, v4, v5, hr, hS⟩ := exec_for_ix (c := G.cfg n) (tg := .nm 4) (it := .range (.cons (.bi .len (.cons (.var 1) .nil)) .nil)) (b := c__law_draws_b0) (S := S ++ [.lst []]) (r := [some (.int c), some (.lst (dsL sz)), some (.ref S.length), some (.int (c / 2)), none, none])
      (List.range sz.length) (fun (j : Nat) => .int (j : Int)) (w := fun _ => true) (fun i r' S' => ∃ v4 v5, r' = [some (.int c), some (.lst (dsL sz)), some (.ref S.length), some (.int (L i).2), v4, v5] ∧ S' = S ++ [.lst (dsL (L i).1)])
      (by simp only [Rf.execs, Rf.execS, evalE, evalEs, evalO, evalT, evalL, evalC, evalI, bd_k, of_some, startE, bindT, wipeT, List.map_cons, List.map_nil, List.length_cons, List.length_nil, List.replicate, List.cons_append, List.nil_append, List.getElem?_cons_zero, List.getElem?_cons_succ, List.set_cons_zero, List.set_cons_succ, Option.map_some, Option.map_none, Option.bind_some, Option.bind_none, cmp_eq_int, cmp_ne_int, cmp_eq_str, cmp_ne_str, cmp_eq_bl, cmp_ne_bl, cmp_lt_int, cmp_le_int, cmp_gt_int, cmp_ge_int, cmp_is_non, cmp_is_int, cmp_is_tup, cmp_isn_non, cmp_isn_int, cmp_isn_tup, cmp_is_bl, cmp_isn_bl, cmp_in_str, isi_bl, isi_int, isi_str, isi_tup, isi_lst, isi_non, truth_bl, len_tup, len_lst, len_fro, idx_tup, idx_lst, idx_fro, isStr, seqI_str, seqI_tup, seqI_lst, decide_true, decide_false, if_true, if_false, ↓reduceIte, eq_self, Bool.false_eq_true, Bool.true_or, Bool.or_true, Bool.false_or, Bool.or_false, Bool.true_and, Bool.and_true, Bool.false_and, Bool.and_false, Bool.not_true, Bool.not_false, reduceCtorEq, and_self, and_true, true_and, ite_self, size16, Nat.reduceAdd, Nat.reduceLeDiff, Nat.zero_le, dsL_len, rangeI_one (n := sz.length) (by omega)]) (fun _ _ _ _ => rfl) (fun i hi r1 S1 hI => by
        obtain ⟨v4, v5, rfl, rfl⟩ := hI
        rw [List.length_range] at hi
        rw [List.getElem_range]
        have hz := szp i hi
        have hli := Ll i
        have m1 : binD .Mod (.int c) (.int 1000003) = some (.int (c % 1000003)) := mod_int _ _ (by decide)
        have m2 : binD .Mult (.int 31) (.int (i : Int)) = some (.int (31 * (i : Int))) := mul_int (by decide)
        have m3 : binD .Mult (.int (c % 1000003 + 1)) (.int (48271 + 31 * (i : Int))) = some (.int ((c % 1000003 + 1) * (48271 + 31 * (i : Int)))) := mul_intR (inR_of (by omega) (by omega))
        have m4 : ∀ a, binD .Mod (.int a) (.int 2147483629) = some (.int (a % 2147483629)) := fun a => mod_int _ _ (by decide)
        have m5 : binD .Mult (.int 7919) (.int (i : Int)) = some (.int (7919 * (i : Int))) := mul_int (by decide)
        have m6 : binD .Mult (.int (7919 * (i : Int))) (.int (i : Int)) = some (.int (7919 * (i : Int) * (i : Int))) := mul_intR (inR_of (by omega) (by omega))
        have m7 : ∀ a, binD .Mult (.int a) (.int 69621) = some (.int (a * 69621)) := fun a => mul_intR (by decide)
        have m8 : ∀ a, binD .Mod (.int a) (.int 999983) = some (.int (a % 999983)) := fun a => mod_int _ _ (by decide)
        have m9 : binD .Mod (.int c) (.int 2) = some (.int (c % 2)) := mod_int _ _ (by decide)
        have ix : atI (dsL sz) (i : Int) = some (.int ((sz.getD i 1 : Nat) : Int)) := by
          rw [dsL_at sz i hi, List.getD_eq_getElem?_getD, List.getElem?_eq_getElem hi]; rfl
        have ma : ∀ a, binD .Mod (.int a) (.int ((sz.getD i 1 : Nat) : Int)) = some (.int (a % ((sz.getD i 1 : Nat) : Int))) := fun a => mod_int _ _ hz.1
        have mb : ∀ a, binD .FloorDiv (.int a) (.int ((sz.getD i 1 : Nat) : Int)) = some (.int (a / ((sz.getD i 1 : Nat) : Int))) := fun a => fdiv_int _ _ hz.1 (by omega)
        have ap := fun y => app_end S (dsL (L i).1) y (by rw [size16, dsL_len, hli]; omega)
        have gn := (gd i (L i).2 hi).1
        have e1 : (L (i + 1)).2 = (L i).2 / ((sz.getD i 1 : Nat) : Int) := by rw [Ls, hg]
        have e2 : dsL (L (i + 1)).1 = dsL (L i).1 ++ [.int (g i (L i).2).1] := by
          rw [Ls, dsL_app]
          have : (((g i (L i).2).1.toNat : Nat) : Int) = (g i (L i).2).1 := Int.toNat_of_nonneg gn
          rw [this]
        refine ⟨_, rfl, ?_⟩
        rw [e1, e2]
        by_cases hc : c % 2 = 0
        · have e3 : (g i (L i).2).1 = (L i).2 % ((sz.getD i 1 : Nat) : Int) := by rw [hg]; simp only [hc, if_true]
          rw [e3]
          refine ⟨[some (.int c), some (.lst (dsL sz)), some (.ref S.length), some (.int ((L i).2 / ((sz.getD i 1 : Nat) : Int))), some (.int (i : Int)), some (.int (L i).2)], _, ?_, _, _, rfl, rfl⟩
          simp only [c__law_draws_b0, Rf.execs, Rf.execS, evalE, evalEs, evalO, evalT, evalL, evalC, evalI, bd_k, of_some, startE, bindT, wipeT, List.map_cons, List.map_nil, List.length_cons, List.length_nil, List.replicate, List.cons_append, List.nil_append, List.getElem?_cons_zero, List.getElem?_cons_succ, List.set_cons_zero, List.set_cons_succ, Option.map_some, Option.map_none, Option.bind_some, Option.bind_none, cmp_eq_int, cmp_ne_int, cmp_eq_str, cmp_ne_str, cmp_eq_bl, cmp_ne_bl, cmp_lt_int, cmp_le_int, cmp_gt_int, cmp_ge_int, cmp_is_non, cmp_is_int, cmp_is_tup, cmp_isn_non, cmp_isn_int, cmp_isn_tup, cmp_is_bl, cmp_isn_bl, cmp_in_str, isi_bl, isi_int, isi_str, isi_tup, isi_lst, isi_non, truth_bl, len_tup, len_lst, len_fro, idx_tup, idx_lst, idx_fro, isStr, seqI_str, seqI_tup, seqI_lst, decide_true, decide_false, if_true, if_false, ↓reduceIte, eq_self, Bool.false_eq_true, Bool.true_or, Bool.or_true, Bool.false_or, Bool.or_false, Bool.true_and, Bool.and_true, Bool.false_and, Bool.and_false, Bool.not_true, Bool.not_false, reduceCtorEq, and_self, and_true, true_and, ite_self, size16, Nat.reduceAdd, Nat.reduceLeDiff, Nat.zero_le, m1, m2, m3, m4, m5, m6, m7, m8, m9, add_int, hc, ix, ma, mb, isMut_end, ap]
        · have e3 : (g i (L i).2).1 = (((c % 1000003 + 1) * (48271 + 31 * (i : Int)) % 2147483629 + 7919 * (i : Int) * (i : Int) + 11) * 69621 % 999983) % ((sz.getD i 1 : Nat) : Int) := by rw [hg]; simp only [hc, if_false]
          rw [e3]
          refine ⟨[some (.int c), some (.lst (dsL sz)), some (.ref S.length), some (.int ((L i).2 / ((sz.getD i 1 : Nat) : Int))), some (.int (i : Int)), some (.int (((c % 1000003 + 1) * (48271 + 31 * (i : Int)) % 2147483629 + 7919 * (i : Int) * (i : Int) + 11) * 69621 % 999983))], _, ?_, _, _, rfl, rfl⟩
          simp only [c__law_draws_b0, Rf.execs, Rf.execS, evalE, evalEs, evalO, evalT, evalL, evalC, evalI, bd_k, of_some, startE, bindT, wipeT, List.map_cons, List.map_nil, List.length_cons, List.length_nil, List.replicate, List.cons_append, List.nil_append, List.getElem?_cons_zero, List.getElem?_cons_succ, List.set_cons_zero, List.set_cons_succ, Option.map_some, Option.map_none, Option.bind_some, Option.bind_none, cmp_eq_int, cmp_ne_int, cmp_eq_str, cmp_ne_str, cmp_eq_bl, cmp_ne_bl, cmp_lt_int, cmp_le_int, cmp_gt_int, cmp_ge_int, cmp_is_non, cmp_is_int, cmp_is_tup, cmp_isn_non, cmp_isn_int, cmp_isn_tup, cmp_is_bl, cmp_isn_bl, cmp_in_str, isi_bl, isi_int, isi_str, isi_tup, isi_lst, isi_non, truth_bl, len_tup, len_lst, len_fro, idx_tup, idx_lst, idx_fro, isStr, seqI_str, seqI_tup, seqI_lst, decide_true, decide_false, if_true, if_false, ↓reduceIte, eq_self, Bool.false_eq_true, Bool.true_or, Bool.or_true, Bool.false_or, Bool.or_false, Bool.true_and, Bool.and_true, Bool.false_and, Bool.and_false, Bool.not_true, Bool.not_false, reduceCtorEq, and_self, and_true, true_and, ite_self, size16, Nat.reduceAdd, Nat.reduceLeDiff, Nat.zero_le, m1, m2, m3, m4, m5, m6, m7, m8, m9, add_int, hc, ix, ma, mb, isMut_end, ap]) ⟨none, none, by rw [L0], by rw [L0]; rfl⟩
    subst hr
    rw [List.length_range] at hS
    subst hS
    refine ret_step h ?_
    exact ⟨_, by simp only [Rf.execs, Rf.execS, evalE, evalEs, evalO, evalT, evalL, evalC, evalI, bd_k, of_some, startE, bindT, wipeT, List.map_cons, List.map_nil, List.length_cons, List.length_nil, List.replicate, List.cons_append, List.nil_append, List.getElem?_cons_zero, List.getElem?_cons_succ, List.set_cons_zero, List.set_cons_succ, Option.map_some, Option.map_none, Option.bind_some, Option.bind_none, cmp_eq_int, cmp_ne_int, cmp_eq_str, cmp_ne_str, cmp_eq_bl, cmp_ne_bl, cmp_lt_int, cmp_le_int, cmp_gt_int, cmp_ge_int, cmp_is_non, cmp_is_int, cmp_is_tup, cmp_isn_non, cmp_isn_int, cmp_isn_tup, cmp_is_bl, cmp_isn_bl, cmp_in_str, isi_bl, isi_int, isi_str, isi_tup, isi_lst, isi_non, truth_bl, len_tup, len_lst, len_fro, idx_tup, idx_lst, idx_fro, isStr, seqI_str, seqI_tup, seqI_lst, decide_true, decide_false, if_true, if_false, ↓reduceIte, eq_self, Bool.false_eq_true, Bool.true_or, Bool.or_true, Bool.false_or, Bool.or_false, Bool.true_and, Bool.and_true, Bool.false_and, Bool.and_false, Bool.not_true, Bool.not_false, reduceCtorEq, and_self, and_true, true_and, ite_self, size16, Nat.reduceAdd, Nat.reduceLeDiff, Nat.zero_le]; rfl⟩
  obtain ⟨r', ex⟩ := ex
  exact callF_eq hf rfl (by decide) ex rfl (freeze_ref0 [] (dsL_pur _))
end Rf


namespace Rf
open PySem L2 Cr
def markS : List Mark := [.n 0, .n 1, .n 10, .s [97], .s [97, 98], .s [98], .s [122, 122]]
theorem zz_eq : Str.ofString "zz" = tx [122, 122] := by decide +kernel
theorem cut_toN (xs : List D) (k : Nat) : cutD xs none (some (k : Int)) = xs.take k := by
  rw [cut_to _ (by omega)]; rfl

def mkOf (a b c t u v : Nat) : Make := ⟨a + 8 * (if t = 0 ∧ 3 < u then 1 else 0), b, c, ([markS.getD u (.n 0), markS.getD v (.n 0)]).take ([0, 0, 1, 2].getD t 0)⟩
theorem markS_at (S : Store) (u : Nat) (h : u < 7) : idxD S (.lst [.int 0, .int 1, .int 10, .str (Str.ofString "a"), .str (Str.ofString "ab"), .str (Str.ofString "b"), .str (Str.ofString "zz")]) (.int (u : Int)) = some (markS.getD u (.n 0)).d := by
  rw [a_eq, ab_eq, b_eq, zz_eq]
  match u, h with
  | 0, _ => rfl
  | 1, _ => rfl
  | 2, _ => rfl
  | 3, _ => rfl
  | 4, _ => rfl
  | 5, _ => rfl
  | 6, _ => rfl
theorem six_at (S : Store) (a b c t u v : Nat) : idxD S (.lst (dsL [a, b, c, t, u, v])) (.int 0) = some (.int (a : Int)) ∧ idxD S (.lst (dsL [a, b, c, t, u, v])) (.int 1) = some (.int (b : Int)) ∧ idxD S (.lst (dsL [a, b, c, t, u, v])) (.int 2) = some (.int (c : Int)) ∧
    idxD S (.lst (dsL [a, b, c, t, u, v])) (.int 3) = some (.int (t : Int)) ∧ idxD S (.lst (dsL [a, b, c, t, u, v])) (.int 4) = some (.int (u : Int)) ∧ idxD S (.lst (dsL [a, b, c, t, u, v])) (.int 5) = some (.int (v : Int)) := ⟨rfl, rfl, rfl, rfl, rfl, rfl⟩
theorem many_at (S : Store) (t : Nat) (h : t < 4) : idxD S (.lst [.int 0, .int 0, .int 1, .int 2]) (.int (t : Int)) = some (.int (([0, 0, 1, 2].getD t 0 : Nat) : Int)) := by
  match t, h with
  | 0, _ => rfl
  | 1, _ => rfl
  | 2, _ => rfl
  | 3, _ => rfl
theorem law_mk_ok {G : Gam} (hf : List.lookup (Str.ofString "_law_make") G.fns = some c__law_make_v2) {a b c t u v : Nat} (ht : t < 4) (hu : u < 7) (hv : v < 7) (n : Nat) (S : Store) :
    callF G (n + 1) "_law_make" [.lst (dsL [a, b, c, t, u, v])] S = .ok ((mkOf a b c t u v).d, S) := by
  refine callF_pur0 hf rfl (by decide) (Make.pur _) ?_
  obtain ⟨i0, i1, i2, i3, i4, i5⟩ := six_at S a b c t u v
  generalize hD : D.lst (dsL [a, b, c, t, u, v]) = ds at i0 i1 i2 i3 i4 i5 ⊢
  have e1 : (decide ((t : Int) = 0)) = decide (t = 0) := by apply decide_eq_decide.mpr; omega
  have e2 : (decide ((3 : Int) < (u : Int))) = decide (3 < u) := by apply decide_eq_decide.mpr; omega
  have m8 : ∀ k, binD .Mult (.int 8) (.int k) = some (.int (8 * k)) := fun k => mul_int (by decide)
  have rt : ∀ x y : D, ritems S (.lst [x, y]) = some [x, y] := fun x y => rfl
  have tp : ∀ x : List D, biD .tuple S [.lst x] = some (.tup x) := fun x => rfl
  have bi : ∀ k : Bool, biD .int S [.bl k] = some (.int (if k then 1 else 0)) := fun k => rfl
  have fin : (mkOf a b c t u v).d = .tup [.int ((a : Int) + 8 * (if t = 0 ∧ 3 < u then 1 else 0)), .int (b : Int), .int (c : Int), .tup (([(markS.getD u (.n 0)).d, (markS.getD v (.n 0)).d]).take ([0, 0, 1, 2].getD t 0))] := by
    have : (([markS.getD u (.n 0), markS.getD v (.n 0)]).take ([0, 0, 1, 2].getD t 0)).map Mark.d = ([(markS.getD u (.n 0)).d, (markS.getD v (.n 0)).d]).take ([0, 0, 1, 2].getD t 0) := by rw [List.map_take]; rfl
    unfold mkOf Make.d
    dsimp only
    rw [this]
    congr 3
    by_cases q : t = 0 ∧ 3 < u
    · rw [if_pos q, if_pos q]; rfl
    · rw [if_neg q, if_neg q]; rfl
  rw [fin]
  have k1 := markS_at S u hu
  have k2 := markS_at S v hv
  have k3 := many_at S t ht
  refine ret_step (r1 := [some ds, some (.lst [.int 0, .int 1, .int 10, .str (Str.ofString "a"), .str (Str.ofString "ab"), .str (Str.ofString "b"), .str (Str.ofString "zz")]), none, none]) (S1 := S) ?_ ?_
  · simp only [Rf.execs, Rf.execS, evalE, evalEs, evalO, evalT, evalL, evalC, evalI, bd_k, of_some, startE, bindT, wipeT, List.map_cons, List.map_nil, List.length_cons, List.length_nil, List.replicate, List.cons_append, List.nil_append, List.getElem?_cons_zero, List.getElem?_cons_succ, List.set_cons_zero, List.set_cons_succ, Option.map_some, Option.map_none, Option.bind_some, Option.bind_none, cmp_eq_int, cmp_ne_int, cmp_eq_str, cmp_ne_str, cmp_eq_bl, cmp_ne_bl, cmp_lt_int, cmp_le_int, cmp_gt_int, cmp_ge_int, cmp_is_non, cmp_is_int, cmp_is_tup, cmp_isn_non, cmp_isn_int, cmp_isn_tup, cmp_is_bl, cmp_isn_bl, cmp_in_str, isi_bl, isi_int, isi_str, isi_tup, isi_lst, isi_non, truth_bl, len_tup, len_lst, len_fro, idx_tup, idx_lst, idx_fro, isStr, seqI_str, seqI_tup, seqI_lst, decide_true, decide_false, if_true, if_false, ↓reduceIte, eq_self, Bool.false_eq_true, Bool.true_or, Bool.or_true, Bool.false_or, Bool.or_false, Bool.true_and, Bool.and_true, Bool.false_and, Bool.and_false, Bool.not_true, Bool.not_false, reduceCtorEq, and_self, and_true, true_and, ite_self, size16, Nat.reduceAdd, Nat.reduceLeDiff, Nat.zero_le]; rfl
  generalize hM : D.lst [.int 0, .int 1, .int 10, .str (Str.ofString "a"), .str (Str.ofString "ab"), .str (Str.ofString "b"), .str (Str.ofString "zz")] = M at k1 k2 ⊢
  generalize hmm : [0, 0, 1, 2].getD t 0 = mm at k3 ⊢
  refine ret_step (r1 := [some ds, some M, some (.int (mm : Int)), none]) (S1 := S) ?_ ?_
  · have k3' : atI [D.int 0, .int 0, .int 1, .int 2] (t : Int) = some (.int (mm : Int)) := k3
    simp only [Rf.execs, Rf.execS, evalE, evalEs, evalO, evalT, evalL, evalC, evalI, bd_k, of_some, startE, bindT, wipeT, List.map_cons, List.map_nil, List.length_cons, List.length_nil, List.replicate, List.cons_append, List.nil_append, List.getElem?_cons_zero, List.getElem?_cons_succ, List.set_cons_zero, List.set_cons_succ, Option.map_some, Option.map_none, Option.bind_some, Option.bind_none, cmp_eq_int, cmp_ne_int, cmp_eq_str, cmp_ne_str, cmp_eq_bl, cmp_ne_bl, cmp_lt_int, cmp_le_int, cmp_gt_int, cmp_ge_int, cmp_is_non, cmp_is_int, cmp_is_tup, cmp_isn_non, cmp_isn_int, cmp_isn_tup, cmp_is_bl, cmp_isn_bl, cmp_in_str, isi_bl, isi_int, isi_str, isi_tup, isi_lst, isi_non, truth_bl, len_tup, len_lst, len_fro, idx_tup, idx_lst, idx_fro, isStr, seqI_str, seqI_tup, seqI_lst, decide_true, decide_false, if_true, if_false, ↓reduceIte, eq_self, Bool.false_eq_true, Bool.true_or, Bool.or_true, Bool.false_or, Bool.or_false, Bool.true_and, Bool.and_true, Bool.false_and, Bool.and_false, Bool.not_true, Bool.not_false, reduceCtorEq, and_self, and_true, true_and, ite_self, size16, Nat.reduceAdd, Nat.reduceLeDiff, Nat.zero_le, i3, k3']
  refine ret_step (r1 := [some ds, some M, some (.int (mm : Int)), some (.int ((a : Int) + 8 * (if t = 0 ∧ 3 < u then 1 else 0)))]) (S1 := S) ?_ ?_
  · by_cases q1 : t = 0
    · by_cases q2 : 3 < u
      · have h1 : decide ((t : Int) = 0) = true := by rw [e1]; simp [q1]
        have h2 : decide ((3 : Int) < (u : Int)) = true := by rw [e2]; simp [q2]
        simp only [Rf.execs, Rf.execS, evalE, evalEs, evalO, evalT, evalL, evalC, evalI, bd_k, of_some, startE, bindT, wipeT, List.map_cons, List.map_nil, List.length_cons, List.length_nil, List.replicate, List.cons_append, List.nil_append, List.getElem?_cons_zero, List.getElem?_cons_succ, List.set_cons_zero, List.set_cons_succ, Option.map_some, Option.map_none, Option.bind_some, Option.bind_none, cmp_eq_int, cmp_ne_int, cmp_eq_str, cmp_ne_str, cmp_eq_bl, cmp_ne_bl, cmp_lt_int, cmp_le_int, cmp_gt_int, cmp_ge_int, cmp_is_non, cmp_is_int, cmp_is_tup, cmp_isn_non, cmp_isn_int, cmp_isn_tup, cmp_is_bl, cmp_isn_bl, cmp_in_str, isi_bl, isi_int, isi_str, isi_tup, isi_lst, isi_non, truth_bl, len_tup, len_lst, len_fro, idx_tup, idx_lst, idx_fro, isStr, seqI_str, seqI_tup, seqI_lst, decide_true, decide_false, if_true, if_false, ↓reduceIte, eq_self, Bool.false_eq_true, Bool.true_or, Bool.or_true, Bool.false_or, Bool.or_false, Bool.true_and, Bool.and_true, Bool.false_and, Bool.and_false, Bool.not_true, Bool.not_false, reduceCtorEq, and_self, and_true, true_and, ite_self, size16, Nat.reduceAdd, Nat.reduceLeDiff, Nat.zero_le, i0, i3, i4, h1, h2, bi, m8, add_int, q1, q2]; rfl
      · have h1 : decide ((t : Int) = 0) = true := by rw [e1]; simp [q1]
        have h2 : decide ((3 : Int) < (u : Int)) = false := by rw [e2]; simp [q2]
        simp only [Rf.execs, Rf.execS, evalE, evalEs, evalO, evalT, evalL, evalC, evalI, bd_k, of_some, startE, bindT, wipeT, List.map_cons, List.map_nil, List.length_cons, List.length_nil, List.replicate, List.cons_append, List.nil_append, List.getElem?_cons_zero, List.getElem?_cons_succ, List.set_cons_zero, List.set_cons_succ, Option.map_some, Option.map_none, Option.bind_some, Option.bind_none, cmp_eq_int, cmp_ne_int, cmp_eq_str, cmp_ne_str, cmp_eq_bl, cmp_ne_bl, cmp_lt_int, cmp_le_int, cmp_gt_int, cmp_ge_int, cmp_is_non, cmp_is_int, cmp_is_tup, cmp_isn_non, cmp_isn_int, cmp_isn_tup, cmp_is_bl, cmp_isn_bl, cmp_in_str, isi_bl, isi_int, isi_str, isi_tup, isi_lst, isi_non, truth_bl, len_tup, len_lst, len_fro, idx_tup, idx_lst, idx_fro, isStr, seqI_str, seqI_tup, seqI_lst, decide_true, decide_false, if_true, if_false, ↓reduceIte, eq_self, Bool.false_eq_true, Bool.true_or, Bool.or_true, Bool.false_or, Bool.or_false, Bool.true_and, Bool.and_true, Bool.false_and, Bool.and_false, Bool.not_true, Bool.not_false, reduceCtorEq, and_self, and_true, true_and, ite_self, size16, Nat.reduceAdd, Nat.reduceLeDiff, Nat.zero_le, i0, i3, i4, h1, h2, bi, m8, add_int, q1, q2]; rfl
    · have h1 : decide ((t : Int) = 0) = false := by rw [e1]; simp [q1]
      simp only [Rf.execs, Rf.execS, evalE, evalEs, evalO, evalT, evalL, evalC, evalI, bd_k, of_some, startE, bindT, wipeT, List.map_cons, List.map_nil, List.length_cons, List.length_nil, List.replicate, List.cons_append, List.nil_append, List.getElem?_cons_zero, List.getElem?_cons_succ, List.set_cons_zero, List.set_cons_succ, Option.map_some, Option.map_none, Option.bind_some, Option.bind_none, cmp_eq_int, cmp_ne_int, cmp_eq_str, cmp_ne_str, cmp_eq_bl, cmp_ne_bl, cmp_lt_int, cmp_le_int, cmp_gt_int, cmp_ge_int, cmp_is_non, cmp_is_int, cmp_is_tup, cmp_isn_non, cmp_isn_int, cmp_isn_tup, cmp_is_bl, cmp_isn_bl, cmp_in_str, isi_bl, isi_int, isi_str, isi_tup, isi_lst, isi_non, truth_bl, len_tup, len_lst, len_fro, idx_tup, idx_lst, idx_fro, isStr, seqI_str, seqI_tup, seqI_lst, decide_true, decide_false, if_true, if_false, ↓reduceIte, eq_self, Bool.false_eq_true, Bool.true_or, Bool.or_true, Bool.false_or, Bool.or_false, Bool.true_and, Bool.and_true, Bool.false_and, Bool.and_false, Bool.not_true, Bool.not_false, reduceCtorEq, and_self, and_true, true_and, ite_self, size16, Nat.reduceAdd, Nat.reduceLeDiff, Nat.zero_le, i0, i3, i4, h1, bi, m8, add_int, q1]; rfl
  have ct := cut_toN [(markS.getD u (.n 0)).d, (markS.getD v (.n 0)).d] mm
  exact ⟨_, by simp only [Rf.execs, Rf.execS, evalE, evalEs, evalO, evalT, evalL, evalC, evalI, bd_k, of_some, startE, bindT, wipeT, List.map_cons, List.map_nil, List.length_cons, List.length_nil, List.replicate, List.cons_append, List.nil_append, List.getElem?_cons_zero, List.getElem?_cons_succ, List.set_cons_zero, List.set_cons_succ, Option.map_some, Option.map_none, Option.bind_some, Option.bind_none, cmp_eq_int, cmp_ne_int, cmp_eq_str, cmp_ne_str, cmp_eq_bl, cmp_ne_bl, cmp_lt_int, cmp_le_int, cmp_gt_int, cmp_ge_int, cmp_is_non, cmp_is_int, cmp_is_tup, cmp_isn_non, cmp_isn_int, cmp_isn_tup, cmp_is_bl, cmp_isn_bl, cmp_in_str, isi_bl, isi_int, isi_str, isi_tup, isi_lst, isi_non, truth_bl, len_tup, len_lst, len_fro, idx_tup, idx_lst, idx_fro, isStr, seqI_str, seqI_tup, seqI_lst, decide_true, decide_false, if_true, if_false, ↓reduceIte, eq_self, Bool.false_eq_true, Bool.true_or, Bool.or_true, Bool.false_or, Bool.or_false, Bool.true_and, Bool.and_true, Bool.false_and, Bool.and_false, Bool.not_true, Bool.not_false, reduceCtorEq, and_self, and_true, true_and, ite_self, size16, Nat.reduceAdd, Nat.reduceLeDiff, Nat.zero_le, i1, i2, i4, i5, k1, k2, rt, ct, tp]; rfl⟩
theorem mkOf_len (a b c t u v : Nat) : (mkOf a b c t u v).ms.length ≤ 2 := by
  show (List.take _ _).length ≤ 2
  rw [List.length_take]; simp; omega
theorem mkOf_sm (a b c t u v : Nat) : (mkOf a b c t u v).sm := Nat.le_trans (mkOf_len a b c t u v) (by decide)
end Rf


namespace Rf
open PySem L2 Cr
def greatK (m : Make) : Make := if 0 < m.a then ⟨m.a + 1, 0, 0, [.n 0]⟩ else if 0 < m.b then ⟨0, m.b + 1, 0, [.n 0]⟩ else ⟨0, 0, m.c + 1, [.n 0]⟩
def midK (m : Make) : Make := ⟨m.a, m.b + 1, 0, [.n 0]⟩
theorem greatK_sm {m : Make} : (greatK m).sm := by
  unfold Make.sm greatK; split
  · simp
  · split <;> simp
theorem midK_sm {m : Make} : (midK m).sm := by unfold Make.sm midK; simp
theorem next_sk {m : Make} (h : m.ms.length ≤ 900) : m.next.sm := by
  unfold Make.sm Make.next
  split
  · simp
  · simp; omega
theorem oldest_sk : oldest.sm := by unfold Make.sm oldest; simp
theorem greatK_ok {G : Gam} (hf : List.lookup (Str.ofString "_law_great") G.fns = some c__law_great) (m : Make) (n : Nat) (S : Store) : callF G (n + 1) "_law_great" [m.d] S = .ok ((greatK m).d, S) := by
  refine callF_pur0 hf rfl (by decide) (Make.pur _) ?_
  have i0 : ∀ S, idxD S m.d (.int 0) = some (.int m.a) := fun S => rfl
  have i1 : ∀ S, idxD S m.d (.int 1) = some (.int m.b) := fun S => rfl
  have i2 : ∀ S, idxD S m.d (.int 2) = some (.int m.c) := fun S => rfl
  unfold greatK
  by_cases h1 : 0 < m.a
  · have h1' : (0 : Int) < (m.a : Int) := by omega
    rw [if_pos h1]
    exact ⟨_, by simp only [c__law_great, Rf.execs, Rf.execS, evalE, evalEs, evalO, evalT, evalL, evalC, evalI, bd_k, of_some, startE, bindT, wipeT, List.map_cons, List.map_nil, List.length_cons, List.length_nil, List.replicate, List.cons_append, List.nil_append, List.getElem?_cons_zero, List.getElem?_cons_succ, List.set_cons_zero, List.set_cons_succ, Option.map_some, Option.map_none, Option.bind_some, Option.bind_none, cmp_eq_int, cmp_ne_int, cmp_eq_str, cmp_ne_str, cmp_eq_bl, cmp_ne_bl, cmp_lt_int, cmp_le_int, cmp_gt_int, cmp_ge_int, cmp_is_non, cmp_is_int, cmp_is_tup, cmp_isn_non, cmp_isn_int, cmp_isn_tup, cmp_is_bl, cmp_isn_bl, cmp_in_str, isi_bl, isi_int, isi_str, isi_tup, isi_lst, isi_non, truth_bl, len_tup, len_lst, len_fro, idx_tup, idx_lst, idx_fro, isStr, seqI_str, seqI_tup, seqI_lst, decide_true, decide_false, if_true, if_false, ↓reduceIte, eq_self, Bool.false_eq_true, Bool.true_or, Bool.or_true, Bool.false_or, Bool.or_false, Bool.true_and, Bool.and_true, Bool.false_and, Bool.and_false, Bool.not_true, Bool.not_false, reduceCtorEq, and_self, and_true, true_and, ite_self, size16, Nat.reduceAdd, Nat.reduceLeDiff, Nat.zero_le, i0, h1', add_int]; rfl⟩
  · have h1' : ¬ (0 : Int) < (m.a : Int) := by omega
    rw [if_neg h1]
    by_cases h2 : 0 < m.b
    · have h2' : (0 : Int) < (m.b : Int) := by omega
      rw [if_pos h2]
      exact ⟨_, by simp only [c__law_great, Rf.execs, Rf.execS, evalE, evalEs, evalO, evalT, evalL, evalC, evalI, bd_k, of_some, startE, bindT, wipeT, List.map_cons, List.map_nil, List.length_cons, List.length_nil, List.replicate, List.cons_append, List.nil_append, List.getElem?_cons_zero, List.getElem?_cons_succ, List.set_cons_zero, List.set_cons_succ, Option.map_some, Option.map_none, Option.bind_some, Option.bind_none, cmp_eq_int, cmp_ne_int, cmp_eq_str, cmp_ne_str, cmp_eq_bl, cmp_ne_bl, cmp_lt_int, cmp_le_int, cmp_gt_int, cmp_ge_int, cmp_is_non, cmp_is_int, cmp_is_tup, cmp_isn_non, cmp_isn_int, cmp_isn_tup, cmp_is_bl, cmp_isn_bl, cmp_in_str, isi_bl, isi_int, isi_str, isi_tup, isi_lst, isi_non, truth_bl, len_tup, len_lst, len_fro, idx_tup, idx_lst, idx_fro, isStr, seqI_str, seqI_tup, seqI_lst, decide_true, decide_false, if_true, if_false, ↓reduceIte, eq_self, Bool.false_eq_true, Bool.true_or, Bool.or_true, Bool.false_or, Bool.or_false, Bool.true_and, Bool.and_true, Bool.false_and, Bool.and_false, Bool.not_true, Bool.not_false, reduceCtorEq, and_self, and_true, true_and, ite_self, size16, Nat.reduceAdd, Nat.reduceLeDiff, Nat.zero_le, i0, i1, h1', h2', add_int]; rfl⟩
    · have h2' : ¬ (0 : Int) < (m.b : Int) := by omega
      rw [if_neg h2]
      exact ⟨_, by simp only [c__law_great, Rf.execs, Rf.execS, evalE, evalEs, evalO, evalT, evalL, evalC, evalI, bd_k, of_some, startE, bindT, wipeT, List.map_cons, List.map_nil, List.length_cons, List.length_nil, List.replicate, List.cons_append, List.nil_append, List.getElem?_cons_zero, List.getElem?_cons_succ, List.set_cons_zero, List.set_cons_succ, Option.map_some, Option.map_none, Option.bind_some, Option.bind_none, cmp_eq_int, cmp_ne_int, cmp_eq_str, cmp_ne_str, cmp_eq_bl, cmp_ne_bl, cmp_lt_int, cmp_le_int, cmp_gt_int, cmp_ge_int, cmp_is_non, cmp_is_int, cmp_is_tup, cmp_isn_non, cmp_isn_int, cmp_isn_tup, cmp_is_bl, cmp_isn_bl, cmp_in_str, isi_bl, isi_int, isi_str, isi_tup, isi_lst, isi_non, truth_bl, len_tup, len_lst, len_fro, idx_tup, idx_lst, idx_fro, isStr, seqI_str, seqI_tup, seqI_lst, decide_true, decide_false, if_true, if_false, ↓reduceIte, eq_self, Bool.false_eq_true, Bool.true_or, Bool.or_true, Bool.false_or, Bool.or_false, Bool.true_and, Bool.and_true, Bool.false_and, Bool.and_false, Bool.not_true, Bool.not_false, reduceCtorEq, and_self, and_true, true_and, ite_self, size16, Nat.reduceAdd, Nat.reduceLeDiff, Nat.zero_le, i0, i1, i2, h1', h2', add_int]; rfl⟩
structure FSh (G : Gam) : Prop where
  cell : List.lookup (Str.ofString "_law_cell") G.fns = some c__law_cell
  drs : List.lookup (Str.ofString "_law_draws") G.fns = some c__law_draws
  mak : List.lookup (Str.ofString "_law_make") G.fns = some c__law_make_v2
  nxt : List.lookup (Str.ofString "_law_next") G.fns = some c__law_next
  grt : List.lookup (Str.ofString "_law_great") G.fns = some c__law_great
  spn : List.lookup (Str.ofString "_law_need_span") G.fns = some c__law_need_span
  ttl : List.lookup (Str.ofString "_law_title") G.fns = some c__law_title
  nds : List.lookup (Str.ofString "_law_needs") G.fns = some c__law_needs
  ent : List.lookup (Str.ofString "_law_entry") G.fns = some c__law_entry
  shf : List.lookup (Str.ofString "_law_shelf") G.fns = some c__law_shelf
def needS (way : Nat) (m : Make) : List Piece :=
  if way = 0 then [⟨m, none⟩] else if way = 1 then [⟨m, some (greatK m)⟩] else if way = 2 then [⟨m, some (midK m)⟩] else if way = 3 then [⟨m, some m.next⟩] else if way = 4 then [⟨oldest, none⟩]
  else if way = 5 ∧ m ≠ oldest then [⟨oldest, some m⟩, ⟨m.next, none⟩] else [⟨oldest, some m.next⟩]
theorem needS_sm {way : Nat} {m : Make} (h : m.ms.length ≤ 900) : ∀ p ∈ needS way m, p.sm := by
  have hm : m.sm := Nat.le_trans h (by decide)
  have hn := next_sk h
  unfold needS
  intro p hp
  (repeat' split at hp) <;> simp only [List.mem_cons, List.not_mem_nil, or_false] at hp
  · subst hp; exact ⟨hm, fun o e => by cases e⟩
  · subst hp; exact ⟨hm, fun o e => by cases e; exact greatK_sm⟩
  · subst hp; exact ⟨hm, fun o e => by cases e; exact midK_sm⟩
  · subst hp; exact ⟨hm, fun o e => by cases e; exact hn⟩
  · subst hp; exact ⟨oldest_sk, fun o e => by cases e⟩
  · rcases hp with rfl | rfl
    · exact ⟨oldest_sk, fun o e => by cases e; exact hm⟩
    · exact ⟨hn, fun o e => by cases e⟩
  · subst hp; exact ⟨oldest_sk, fun o e => by cases e; exact hn⟩
theorem needS_len (way : Nat) (m : Make) : (needS way m).length ≤ 2 := by
  unfold needS
  (repeat' split) <;> simp
theorem oldest_d : oldest.d = .tup [.int 0, .int 0, .int 0, .tup [.int 0]] := rfl
theorem law_span_ok {G : Gam} (F : FSh G) (way : Nat) (m : Make) (h : m.ms.length ≤ 900) (n : Nat) (S : Store) : callF G (n + 2) "_law_need_span" [.int (way : Int), m.d] S = .ok (spanD (needS way m), S) := by
  refine callF_pur0 F.spn rfl (by decide) (spanD_pur _) ?_
  have g1 := cfg_ok (greatK_ok F.grt m n S)
  have g2 := cfg_ok (law_next_ok F.nxt m (Nat.le_trans h (by decide)) n S)
  have i0 : ∀ S, idxD S m.d (.int 0) = some (.int m.a) := fun S => rfl
  have i1 : ∀ S, idxD S m.d (.int 1) = some (.int m.b) := fun S => rfl
  have ne := Make.ne_ok S m oldest
  rw [oldest_d] at ne
  have et : ∀ k : Nat, way = k → decide ((way : Int) = (k : Int)) = true := fun k h => decide_eq_true (by omega)
  have ef : ∀ k : Nat, ¬ way = k → decide ((way : Int) = (k : Int)) = false := fun k h => decide_eq_false (by omega)
  unfold needS
  by_cases h0 : way = 0
  · rw [if_pos h0]
    have t : decide ((way : Int) = 0) = true := et 0 h0
    exact ⟨_, by simp only [c__law_need_span, Rf.execs, Rf.execS, evalE, evalEs, evalO, evalT, evalL, evalC, evalI, bd_k, of_some, startE, bindT, wipeT, List.map_cons, List.map_nil, List.length_cons, List.length_nil, List.replicate, List.cons_append, List.nil_append, List.getElem?_cons_zero, List.getElem?_cons_succ, List.set_cons_zero, List.set_cons_succ, Option.map_some, Option.map_none, Option.bind_some, Option.bind_none, cmp_eq_int, cmp_ne_int, cmp_eq_str, cmp_ne_str, cmp_eq_bl, cmp_ne_bl, cmp_lt_int, cmp_le_int, cmp_gt_int, cmp_ge_int, cmp_is_non, cmp_is_int, cmp_is_tup, cmp_isn_non, cmp_isn_int, cmp_isn_tup, cmp_is_bl, cmp_isn_bl, cmp_in_str, isi_bl, isi_int, isi_str, isi_tup, isi_lst, isi_non, truth_bl, len_tup, len_lst, len_fro, idx_tup, idx_lst, idx_fro, isStr, seqI_str, seqI_tup, seqI_lst, decide_true, decide_false, if_true, if_false, ↓reduceIte, eq_self, Bool.false_eq_true, Bool.true_or, Bool.or_true, Bool.false_or, Bool.or_false, Bool.true_and, Bool.and_true, Bool.false_and, Bool.and_false, Bool.not_true, Bool.not_false, reduceCtorEq, and_self, and_true, true_and, ite_self, size16, Nat.reduceAdd, Nat.reduceLeDiff, Nat.zero_le, t]; rfl⟩
  rw [if_neg h0]
  have d0 : decide ((way : Int) = 0) = false := ef 0 h0
  by_cases h1 : way = 1
  · rw [if_pos h1]
    have t : decide ((way : Int) = 1) = true := et 1 h1
    exact ⟨_, by simp only [c__law_need_span, Rf.execs, Rf.execS, evalE, evalEs, evalO, evalT, evalL, evalC, evalI, bd_k, of_some, startE, bindT, wipeT, List.map_cons, List.map_nil, List.length_cons, List.length_nil, List.replicate, List.cons_append, List.nil_append, List.getElem?_cons_zero, List.getElem?_cons_succ, List.set_cons_zero, List.set_cons_succ, Option.map_some, Option.map_none, Option.bind_some, Option.bind_none, cmp_eq_int, cmp_ne_int, cmp_eq_str, cmp_ne_str, cmp_eq_bl, cmp_ne_bl, cmp_lt_int, cmp_le_int, cmp_gt_int, cmp_ge_int, cmp_is_non, cmp_is_int, cmp_is_tup, cmp_isn_non, cmp_isn_int, cmp_isn_tup, cmp_is_bl, cmp_isn_bl, cmp_in_str, isi_bl, isi_int, isi_str, isi_tup, isi_lst, isi_non, truth_bl, len_tup, len_lst, len_fro, idx_tup, idx_lst, idx_fro, isStr, seqI_str, seqI_tup, seqI_lst, decide_true, decide_false, if_true, if_false, ↓reduceIte, eq_self, Bool.false_eq_true, Bool.true_or, Bool.or_true, Bool.false_or, Bool.or_false, Bool.true_and, Bool.and_true, Bool.false_and, Bool.and_false, Bool.not_true, Bool.not_false, reduceCtorEq, and_self, and_true, true_and, ite_self, size16, Nat.reduceAdd, Nat.reduceLeDiff, Nat.zero_le, d0, t, g1]; rfl⟩
  rw [if_neg h1]
  have d1 : decide ((way : Int) = 1) = false := ef 1 h1
  by_cases h2 : way = 2
  · rw [if_pos h2]
    have t : decide ((way : Int) = 2) = true := et 2 h2
    exact ⟨_, by simp only [c__law_need_span, Rf.execs, Rf.execS, evalE, evalEs, evalO, evalT, evalL, evalC, evalI, bd_k, of_some, startE, bindT, wipeT, List.map_cons, List.map_nil, List.length_cons, List.length_nil, List.replicate, List.cons_append, List.nil_append, List.getElem?_cons_zero, List.getElem?_cons_succ, List.set_cons_zero, List.set_cons_succ, Option.map_some, Option.map_none, Option.bind_some, Option.bind_none, cmp_eq_int, cmp_ne_int, cmp_eq_str, cmp_ne_str, cmp_eq_bl, cmp_ne_bl, cmp_lt_int, cmp_le_int, cmp_gt_int, cmp_ge_int, cmp_is_non, cmp_is_int, cmp_is_tup, cmp_isn_non, cmp_isn_int, cmp_isn_tup, cmp_is_bl, cmp_isn_bl, cmp_in_str, isi_bl, isi_int, isi_str, isi_tup, isi_lst, isi_non, truth_bl, len_tup, len_lst, len_fro, idx_tup, idx_lst, idx_fro, isStr, seqI_str, seqI_tup, seqI_lst, decide_true, decide_false, if_true, if_false, ↓reduceIte, eq_self, Bool.false_eq_true, Bool.true_or, Bool.or_true, Bool.false_or, Bool.or_false, Bool.true_and, Bool.and_true, Bool.false_and, Bool.and_false, Bool.not_true, Bool.not_false, reduceCtorEq, and_self, and_true, true_and, ite_self, size16, Nat.reduceAdd, Nat.reduceLeDiff, Nat.zero_le, d0, d1, t, i0, i1, add_int]; rfl⟩
  rw [if_neg h2]
  have d2 : decide ((way : Int) = 2) = false := ef 2 h2
  by_cases h3 : way = 3
  · rw [if_pos h3]
    have t : decide ((way : Int) = 3) = true := et 3 h3
    exact ⟨_, by simp only [c__law_need_span, Rf.execs, Rf.execS, evalE, evalEs, evalO, evalT, evalL, evalC, evalI, bd_k, of_some, startE, bindT, wipeT, List.map_cons, List.map_nil, List.length_cons, List.length_nil, List.replicate, List.cons_append, List.nil_append, List.getElem?_cons_zero, List.getElem?_cons_succ, List.set_cons_zero, List.set_cons_succ, Option.map_some, Option.map_none, Option.bind_some, Option.bind_none, cmp_eq_int, cmp_ne_int, cmp_eq_str, cmp_ne_str, cmp_eq_bl, cmp_ne_bl, cmp_lt_int, cmp_le_int, cmp_gt_int, cmp_ge_int, cmp_is_non, cmp_is_int, cmp_is_tup, cmp_isn_non, cmp_isn_int, cmp_isn_tup, cmp_is_bl, cmp_isn_bl, cmp_in_str, isi_bl, isi_int, isi_str, isi_tup, isi_lst, isi_non, truth_bl, len_tup, len_lst, len_fro, idx_tup, idx_lst, idx_fro, isStr, seqI_str, seqI_tup, seqI_lst, decide_true, decide_false, if_true, if_false, ↓reduceIte, eq_self, Bool.false_eq_true, Bool.true_or, Bool.or_true, Bool.false_or, Bool.or_false, Bool.true_and, Bool.and_true, Bool.false_and, Bool.and_false, Bool.not_true, Bool.not_false, reduceCtorEq, and_self, and_true, true_and, ite_self, size16, Nat.reduceAdd, Nat.reduceLeDiff, Nat.zero_le, d0, d1, d2, t, g2]; rfl⟩
  rw [if_neg h3]
  have d3 : decide ((way : Int) = 3) = false := ef 3 h3
  by_cases h4 : way = 4
  · rw [if_pos h4]
    have t : decide ((way : Int) = 4) = true := et 4 h4
    exact ⟨_, by simp only [c__law_need_span, Rf.execs, Rf.execS, evalE, evalEs, evalO, evalT, evalL, evalC, evalI, bd_k, of_some, startE, bindT, wipeT, List.map_cons, List.map_nil, List.length_cons, List.length_nil, List.replicate, List.cons_append, List.nil_append, List.getElem?_cons_zero, List.getElem?_cons_succ, List.set_cons_zero, List.set_cons_succ, Option.map_some, Option.map_none, Option.bind_some, Option.bind_none, cmp_eq_int, cmp_ne_int, cmp_eq_str, cmp_ne_str, cmp_eq_bl, cmp_ne_bl, cmp_lt_int, cmp_le_int, cmp_gt_int, cmp_ge_int, cmp_is_non, cmp_is_int, cmp_is_tup, cmp_isn_non, cmp_isn_int, cmp_isn_tup, cmp_is_bl, cmp_isn_bl, cmp_in_str, isi_bl, isi_int, isi_str, isi_tup, isi_lst, isi_non, truth_bl, len_tup, len_lst, len_fro, idx_tup, idx_lst, idx_fro, isStr, seqI_str, seqI_tup, seqI_lst, decide_true, decide_false, if_true, if_false, ↓reduceIte, eq_self, Bool.false_eq_true, Bool.true_or, Bool.or_true, Bool.false_or, Bool.or_false, Bool.true_and, Bool.and_true, Bool.false_and, Bool.and_false, Bool.not_true, Bool.not_false, reduceCtorEq, and_self, and_true, true_and, ite_self, size16, Nat.reduceAdd, Nat.reduceLeDiff, Nat.zero_le, d0, d1, d2, d3, t]; rfl⟩
  rw [if_neg h4]
  have d4 : decide ((way : Int) = 4) = false := ef 4 h4
  by_cases h5 : way = 5 ∧ m ≠ oldest
  · rw [if_pos h5]
    have d5 : decide ((way : Int) = 5) = true := et 5 h5.1
    have d6 : (!decide (m = oldest)) = true := by simp [h5.2]
    exact ⟨_, by simp only [c__law_need_span, Rf.execs, Rf.execS, evalE, evalEs, evalO, evalT, evalL, evalC, evalI, bd_k, of_some, startE, bindT, wipeT, List.map_cons, List.map_nil, List.length_cons, List.length_nil, List.replicate, List.cons_append, List.nil_append, List.getElem?_cons_zero, List.getElem?_cons_succ, List.set_cons_zero, List.set_cons_succ, Option.map_some, Option.map_none, Option.bind_some, Option.bind_none, cmp_eq_int, cmp_ne_int, cmp_eq_str, cmp_ne_str, cmp_eq_bl, cmp_ne_bl, cmp_lt_int, cmp_le_int, cmp_gt_int, cmp_ge_int, cmp_is_non, cmp_is_int, cmp_is_tup, cmp_isn_non, cmp_isn_int, cmp_isn_tup, cmp_is_bl, cmp_isn_bl, cmp_in_str, isi_bl, isi_int, isi_str, isi_tup, isi_lst, isi_non, truth_bl, len_tup, len_lst, len_fro, idx_tup, idx_lst, idx_fro, isStr, seqI_str, seqI_tup, seqI_lst, decide_true, decide_false, if_true, if_false, ↓reduceIte, eq_self, Bool.false_eq_true, Bool.true_or, Bool.or_true, Bool.false_or, Bool.or_false, Bool.true_and, Bool.and_true, Bool.false_and, Bool.and_false, Bool.not_true, Bool.not_false, reduceCtorEq, and_self, and_true, true_and, ite_self, size16, Nat.reduceAdd, Nat.reduceLeDiff, Nat.zero_le, d0, d1, d2, d3, d4, d5, ne, d6, g2]; rfl⟩
  rw [if_neg h5]
  by_cases h6 : way = 5
  · have d5 : decide ((way : Int) = 5) = true := et 5 h6
    have d6 : (!decide (m = oldest)) = false := by
      have : m = oldest := Classical.byContradiction fun q => h5 ⟨h6, q⟩
      simp [this]
    exact ⟨_, by simp only [c__law_need_span, Rf.execs, Rf.execS, evalE, evalEs, evalO, evalT, evalL, evalC, evalI, bd_k, of_some, startE, bindT, wipeT, List.map_cons, List.map_nil, List.length_cons, List.length_nil, List.replicate, List.cons_append, List.nil_append, List.getElem?_cons_zero, List.getElem?_cons_succ, List.set_cons_zero, List.set_cons_succ, Option.map_some, Option.map_none, Option.bind_some, Option.bind_none, cmp_eq_int, cmp_ne_int, cmp_eq_str, cmp_ne_str, cmp_eq_bl, cmp_ne_bl, cmp_lt_int, cmp_le_int, cmp_gt_int, cmp_ge_int, cmp_is_non, cmp_is_int, cmp_is_tup, cmp_isn_non, cmp_isn_int, cmp_isn_tup, cmp_is_bl, cmp_isn_bl, cmp_in_str, isi_bl, isi_int, isi_str, isi_tup, isi_lst, isi_non, truth_bl, len_tup, len_lst, len_fro, idx_tup, idx_lst, idx_fro, isStr, seqI_str, seqI_tup, seqI_lst, decide_true, decide_false, if_true, if_false, ↓reduceIte, eq_self, Bool.false_eq_true, Bool.true_or, Bool.or_true, Bool.false_or, Bool.or_false, Bool.true_and, Bool.and_true, Bool.false_and, Bool.and_false, Bool.not_true, Bool.not_false, reduceCtorEq, and_self, and_true, true_and, ite_self, size16, Nat.reduceAdd, Nat.reduceLeDiff, Nat.zero_le, d0, d1, d2, d3, d4, d5, ne, d6, g2]; rfl⟩
  · have d5 : decide ((way : Int) = 5) = false := ef 5 h6
    exact ⟨_, by simp only [c__law_need_span, Rf.execs, Rf.execS, evalE, evalEs, evalO, evalT, evalL, evalC, evalI, bd_k, of_some, startE, bindT, wipeT, List.map_cons, List.map_nil, List.length_cons, List.length_nil, List.replicate, List.cons_append, List.nil_append, List.getElem?_cons_zero, List.getElem?_cons_succ, List.set_cons_zero, List.set_cons_succ, Option.map_some, Option.map_none, Option.bind_some, Option.bind_none, cmp_eq_int, cmp_ne_int, cmp_eq_str, cmp_ne_str, cmp_eq_bl, cmp_ne_bl, cmp_lt_int, cmp_le_int, cmp_gt_int, cmp_ge_int, cmp_is_non, cmp_is_int, cmp_is_tup, cmp_isn_non, cmp_isn_int, cmp_isn_tup, cmp_is_bl, cmp_isn_bl, cmp_in_str, isi_bl, isi_int, isi_str, isi_tup, isi_lst, isi_non, truth_bl, len_tup, len_lst, len_fro, idx_tup, idx_lst, idx_fro, isStr, seqI_str, seqI_tup, seqI_lst, decide_true, decide_false, if_true, if_false, ↓reduceIte, eq_self, Bool.false_eq_true, Bool.true_or, Bool.or_true, Bool.false_or, Bool.or_false, Bool.true_and, Bool.and_true, Bool.false_and, Bool.and_false, Bool.not_true, Bool.not_false, reduceCtorEq, and_self, and_true, true_and, ite_self, size16, Nat.reduceAdd, Nat.reduceLeDiff, Nat.zero_le, d0, d1, d2, d3, d4, d5, g2]; rfl⟩

def titleL : List Str := ["a", "ab", "abc", "b", "part", "need", "zz", "abcdefgh"]
theorem law_title_ok {G : Gam} (F : FSh G) (k : Nat) (h : k < 8) (n : Nat) (S : Store) : callF G (n + 1) "_law_title" [.int (k : Int)] S = .ok (.str (titleL.getD k ""), S) := by
  refine callF_pur0 F.ttl rfl (by decide) rfl ?_
  have e : atI [D.str (Str.ofString "a"), .str (Str.ofString "ab"), .str (Str.ofString "abc"), .str (Str.ofString "b"), .str (Str.ofString "part"), .str (Str.ofString "need"), .str (Str.ofString "zz"), .str (Str.ofString "abcdefgh")] (k : Int) = some (.str (titleL.getD k "")) := by
    match k, h with
    | 0, _ => rfl
    | 1, _ => rfl
    | 2, _ => rfl
    | 3, _ => rfl
    | 4, _ => rfl
    | 5, _ => rfl
    | 6, _ => rfl
    | 7, _ => rfl
  exact ⟨_, by simp only [c__law_title, Rf.execs, Rf.execS, evalE, evalEs, evalO, evalT, evalL, evalC, evalI, bd_k, of_some, startE, bindT, wipeT, List.map_cons, List.map_nil, List.length_cons, List.length_nil, List.replicate, List.cons_append, List.nil_append, List.getElem?_cons_zero, List.getElem?_cons_succ, List.set_cons_zero, List.set_cons_succ, Option.map_some, Option.map_none, Option.bind_some, Option.bind_none, cmp_eq_int, cmp_ne_int, cmp_eq_str, cmp_ne_str, cmp_eq_bl, cmp_ne_bl, cmp_lt_int, cmp_le_int, cmp_gt_int, cmp_ge_int, cmp_is_non, cmp_is_int, cmp_is_tup, cmp_isn_non, cmp_isn_int, cmp_isn_tup, cmp_is_bl, cmp_isn_bl, cmp_in_str, isi_bl, isi_int, isi_str, isi_tup, isi_lst, isi_non, truth_bl, len_tup, len_lst, len_fro, idx_tup, idx_lst, idx_fro, isStr, seqI_str, seqI_tup, seqI_lst, decide_true, decide_false, if_true, if_false, ↓reduceIte, eq_self, Bool.false_eq_true, Bool.true_or, Bool.or_true, Bool.false_or, Bool.or_false, Bool.true_and, Bool.and_true, Bool.false_and, Bool.and_false, Bool.not_true, Bool.not_false, reduceCtorEq, and_self, and_true, true_and, ite_self, size16, Nat.reduceAdd, Nat.reduceLeDiff, Nat.zero_le, e]; rfl⟩

structure Nd where
  x : Str
  s : List Piece
structure En where
  x : Str
  m : Make
  ns : List Nd
def Nd.d (q : Nd) : D := .tup [.str q.x, spanD q.s]
def En.d (e : En) : D := .tup [.str e.x, e.m.d, .tup (e.ns.map Nd.d)]
def En.hd (e : En) : D := .tup [.str e.x, e.m.d]
theorem Nd.pur (q : Nd) : D.pur q.d = true := by
  unfold Nd.d
  rw [D.pur, D.purs, D.purs, D.purs, D.pur, spanD_pur]; rfl
theorem En.pur (e : En) : D.pur e.d = true := by
  unfold En.d
  rw [D.pur, D.purs, D.purs, D.purs, D.purs, D.pur, D.pur, e.m.pur, D.purs_map _ Nd.pur]; rfl
structure Nd.Ok (q : Nd) : Prop where
  sm : ∀ p ∈ q.s, p.sm
  ln : q.s.length ≤ 2
structure En.Ok (e : En) : Prop where
  sm : e.m.sm
  nd : ∀ q ∈ e.ns, q.Ok
theorem notin_gen {α : Type} (S : Store) (f : α → D) (a : D) (l : List α) (p : α → Bool) (ha : rs S a = a) (h1 : D.okd deep a = true) (h2 : ∀ x ∈ l, D.okd deep (f x) = true) (h3 : ∀ x ∈ l, D.eqv (f x) a = p x) : cmpD S .NotIn a (.lst (l.map f)) = some (!l.any p) := by
  have ok : ∀ l : List α, (∀ x ∈ l, D.okd deep (f x) = true) → D.okds deep (l.map f) = true := fun l => by
    induction l with
    | nil => intro _; rfl
    | cons x l ih => intro h; rw [List.map_cons, D.okds, h x (by simp), ih fun y hy => h y (by simp [hy])]; rfl
  have an : ∀ l : List α, (∀ x ∈ l, D.eqv (f x) a = p x) → (l.map f).any (fun y => D.eqv y a) = l.any p := fun l => by
    induction l with
    | nil => intro _; rfl
    | cons x l ih => intro h; rw [List.map_cons, List.any_cons, List.any_cons, h x (by simp), ih fun y hy => h y (by simp [hy])]
  show ((inSeq S a (.lst (l.map f))).map (!·)) = _
  unfold inSeq
  show (Option.map (!·) (if D.okd deep (rs S a) && D.okds deep (l.map f) then some ((l.map f).any fun y => D.eqv y (rs S a)) else none)) = _
  rw [ha, h1, ok l h2, an l h3]; rfl
theorem notin_str {α : Type} (S : Store) (f : α → Str) (x : Str) (l : List α) : cmpD S .NotIn (.str x) (.lst (l.map fun a => .str (f a))) = some (!l.any fun a => decide (f a = x)) :=
  notin_gen S (fun a => .str (f a)) (.str x) l _ rfl rfl (fun _ _ => rfl) fun a _ => rfl
theorem En.hd_okd (e : En) : D.okd deep e.hd = true := by
  show D.okd (39 + 1) _ = true
  unfold En.hd
  rw [D.okd, D.okds, D.okds, show D.okd 39 (.str e.x) = true from rfl, show D.okd 39 e.m.d = true from Make.okd 36 e.m]; rfl
theorem En.hd_eqv (e o : En) : D.eqv e.hd o.hd = decide (e.x = o.x ∧ e.m = o.m) := by
  unfold En.hd
  rw [D.eqv, D.eqvs, D.eqvs, D.eqvs, Make.eqv, D.eqv]
  have : (e.x == o.x) = decide (e.x = o.x) := rfl
  rw [this]
  simp
theorem notin_hd (S : Store) (e : En) (l : List En) : cmpD S .NotIn e.hd (.lst (l.map En.hd)) = some (!l.any fun o => decide (o.x = e.x ∧ o.m = e.m)) :=
  notin_gen S En.hd e.hd l _ rfl e.hd_okd (fun o _ => o.hd_okd) fun o _ => En.hd_eqv o e
theorem en_slc2 (e : En) : slcD e.d none (some 2) = some e.hd := rfl
theorem dsL_cut (ds : List Nat) (i j : Nat) (hi : i ≤ ds.length) (hj : j ≤ ds.length) : cutD (dsL ds) (some (i : Int)) (some (j : Int)) = dsL ((ds.drop i).take (j - i)) := by
  unfold cutD
  rw [dsL_len, HT.sIx_nat, HT.sIx_nat, Nat.min_eq_left hi, Nat.min_eq_left hj]
  unfold dsL
  rw [List.map_take, List.map_drop]
theorem compL_mapV {w : Store → Bool} {f : D → Store → Res (Option D × Store)} {S : Store} (hw : w S = true) {α : Type} {emb : α → D} {g : α → D} : ∀ (xs : List α), (∀ x ∈ xs, f (emb x) S = .ok (some (g x), S)) → compL w f (xs.map emb) S = .ok (xs.map g, S)
  | [], _ => by rw [List.map_nil, compL, if_pos hw]; rfl
  | x :: xs, h => by
    rw [List.map_cons, compL, if_pos hw, h x (by simp)]
    show (compL w f (xs.map emb) S).bd _ = _
    rw [compL_mapV hw xs (fun y hy => h y (by simp [hy]))]
    rfl
theorem eval_compV {c : Cfg} {tg : CT} {it : CI} {elt : CE} {r : Env} {S : Store} {α : Type} (xs : List α) (emb : α → D) (g : α → D) {w : Store → Bool}
    (hi : evalI c it r S = .ok ((xs.map emb, w), S)) (hw : w S = true) (hl : xs.length ≤ sizeLine)
    (step : ∀ x ∈ xs, ∃ r1, bindT tg (emb x) (wipeT tg r) = some r1 ∧ evalE c elt r1 S = .ok (g x, S)) :
    evalL c (.comp tg it .non elt) r S = .ok (xs.map g, S) := by
  rw [evalL, hi, bd_k, if_pos (by rw [List.length_map]; exact hl)]
  refine compL_mapV hw xs fun x hx => ?_
  obtain ⟨r1, e1, e2⟩ := step x hx
  rw [e1]
  show (evalC c .non r1 S).bd _ = _
  rw [evalC, bd_k, if_pos rfl, e2]; rfl


structure DigN (ds : List Nat) (c : Nat) : Prop where
  len : ds.length = 8 * c
  t : ∀ j, j < c → ds.getD (8 * j) 0 < 8
  m : ∀ j, j < c → ds.getD (8 * j + 5) 0 < 4 ∧ ds.getD (8 * j + 6) 0 < 7 ∧ ds.getD (8 * j + 7) 0 < 7
theorem getD_at (ds : List Nat) (j : Nat) (h : j < ds.length) : atI (dsL ds) (j : Int) = some (.int ((ds.getD j 0 : Nat) : Int)) := by
  rw [dsL_at ds j h, List.getD_eq_getElem?_getD, List.getElem?_eq_getElem h]; rfl
theorem six_of (ds : List Nat) (i : Nat) (h : i + 6 ≤ ds.length) : (ds.drop i).take 6 = [ds.getD i 0, ds.getD (i + 1) 0, ds.getD (i + 2) 0, ds.getD (i + 3) 0, ds.getD (i + 4) 0, ds.getD (i + 5) 0] := by
  apply List.ext_getElem?
  intro k
  rw [List.getElem?_take]
  have gd : ∀ k, i + k < ds.length → (ds.drop i)[k]? = some (ds.getD (i + k) 0) := fun k hk => by
    rw [List.getElem?_drop, List.getElem?_eq_getElem hk, List.getD_eq_getElem?_getD, List.getElem?_eq_getElem hk]; rfl
  match k with
  | 0 => rw [if_pos (by decide), gd 0 (by omega)]; rfl
  | 1 => rw [if_pos (by decide), gd 1 (by omega)]; rfl
  | 2 => rw [if_pos (by decide), gd 2 (by omega)]; rfl
  | 3 => rw [if_pos (by decide), gd 3 (by omega)]; rfl
  | 4 => rw [if_pos (by decide), gd 4 (by omega)]; rfl
  | 5 => rw [if_pos (by decide), gd 5 (by omega)]; rfl
  | k + 6 => rw [if_neg (by omega)]; rfl
def ndOf (ds : List Nat) (j : Nat) : Nd := ⟨titleL.getD (ds.getD (8 * j) 0) "", needS (ds.getD (8 * j + 1) 0) (mkOf (ds.getD (8 * j + 2) 0) (ds.getD (8 * j + 3) 0) (ds.getD (8 * j + 4) 0) (ds.getD (8 * j + 5) 0) (ds.getD (8 * j + 6) 0) (ds.getD (8 * j + 7) 0))⟩
def stepN' (x : Str) (l : List Nd) (q : Nd) : List Nd := if q.x ≠ x ∧ l.any (fun o => decide (o.x = q.x)) = false then l ++ [q] else l
def needsOf (x : Str) (ds : List Nat) (c : Nat) : List Nd := ((List.range c).map (ndOf ds)).foldl (stepN' x) []
theorem title_mem {k : Nat} (h : k < 8) : titleL.getD k "" ∈ titleL := by
  rw [List.getD_eq_getElem?_getD, List.getElem?_eq_getElem (show k < titleL.length from h)]; exact List.getElem_mem _
structure NdsOk (x : Str) (l : List Nd) : Prop where
  ok : ∀ q ∈ l, q.Ok ∧ q.x ≠ x ∧ q.x ∈ titleL
  nd : (l.map Nd.x).Nodup
theorem ndOf_ok {ds : List Nat} {c : Nat} (D : DigN ds c) {j : Nat} (h : j < c) : (ndOf ds j).Ok ∧ (ndOf ds j).x ∈ titleL :=
  ⟨⟨needS_sm (Nat.le_trans (mkOf_len _ _ _ _ _ _) (by decide)), needS_len _ _⟩, title_mem (D.t j h)⟩
theorem stepN_ok {x : Str} {l : List Nd} {q : Nd} (h : NdsOk x l) (k : q.Ok ∧ q.x ∈ titleL) : NdsOk x (stepN' x l q) := by
  unfold stepN'
  split
  · rename_i hc
    refine ⟨fun o ho => ?_, ?_⟩
    · rcases List.mem_append.mp ho with ho | ho
      · exact h.ok o ho
      · rw [List.mem_singleton.mp ho]; exact ⟨k.1, hc.1, k.2⟩
    · rw [List.map_append, List.nodup_append]
      refine ⟨h.nd, by simp, fun a ha b hb e => ?_⟩
      obtain ⟨o, ho, rfl⟩ := List.mem_map.mp ha
      have hb' : b = q.x := by simpa using hb
      have := List.any_eq_false.mp hc.2 o ho
      exact this (decide_eq_true (e.trans hb'))
  · exact h
theorem stepN_len (x : Str) (l : List Nd) (q : Nd) : (stepN' x l q).length ≤ l.length + 1 := by
  unfold stepN'; split <;> simp
theorem needs_fold_ok {x : Str} : ∀ (qs l : List Nd), NdsOk x l → (∀ q ∈ qs, q.Ok ∧ q.x ∈ titleL) → NdsOk x (qs.foldl (stepN' x) l) ∧ (qs.foldl (stepN' x) l).length ≤ l.length + qs.length
  | [], l, h, _ => ⟨h, Nat.le_refl _⟩
  | q :: qs, l, h, k => by
    obtain ⟨a, b⟩ := needs_fold_ok qs (stepN' x l q) (stepN_ok h (k q (by simp))) fun o ho => k o (by simp [ho])
    have := stepN_len x l q
    exact ⟨a, by simp only [List.foldl_cons, List.length_cons]; omega⟩
theorem needsOf_ok {x : Str} {ds : List Nat} {c : Nat} (D : DigN ds c) : NdsOk x (needsOf x ds c) ∧ (needsOf x ds c).length ≤ c := by
  obtain ⟨a, b⟩ := needs_fold_ok (x := x) ((List.range c).map (ndOf ds)) [] ⟨fun q h => (by cases h), (by simp)⟩ fun q hq => by
    obtain ⟨j, hj, rfl⟩ := List.mem_map.mp hq
    exact ndOf_ok D (List.mem_range.mp hj)
  refine ⟨a, ?_⟩
  rw [List.length_map, List.length_range, List.length_nil, Nat.zero_add] at b
  exact b
theorem nd_at0 (S : Store) (q : Nd) : idxD S q.d (.int 0) = some (.str q.x) := rfl
theorem law_needs_ok {G : Gam} (F : FSh G) (x : Str) {ds : List Nat} {c : Nat} (D : DigN ds c) (hc : c ≤ 100) (n : Nat) (S : Store) :
    callF G (n + 3) "_law_needs" [.str x, .lst (dsL ds)] S = .ok (.tup ((needsOf x ds c).map Nd.d), S) := by
  have hlen := D.len
  have ex : ∃ r' T, execs (G.cfg (n + 2)) c__law_needs.body (startE 6 [.str x, .lst (dsL ds)]) S = .ok ((.rt (.tup ((needsOf x ds c).map Nd.d)), r'), S ++ T) := by
    refine rat_step (r1 := [some (.str x), some (.lst (dsL ds)), some (.ref S.length), none, none, none]) (S1 := S ++ [.lst []]) ?_ ?_
    · simp only [Rf.execs, Rf.execS, evalE, evalEs, evalO, evalT, evalL, evalC, evalI, bd_k, of_some, startE, bindT, wipeT, List.map_cons, List.map_nil, List.length_cons, List.length_nil, List.replicate, List.cons_append, List.nil_append, List.getElem?_cons_zero, List.getElem?_cons_succ, List.set_cons_zero, List.set_cons_succ, Option.map_some, Option.map_none, Option.bind_some, Option.bind_none, cmp_eq_int, cmp_ne_int, cmp_eq_str, cmp_ne_str, cmp_eq_bl, cmp_ne_bl, cmp_lt_int, cmp_le_int, cmp_gt_int, cmp_ge_int, cmp_is_non, cmp_is_int, cmp_is_tup, cmp_isn_non, cmp_isn_int, cmp_isn_tup, cmp_is_bl, cmp_isn_bl, cmp_in_str, isi_bl, isi_int, isi_str, isi_tup, isi_lst, isi_non, truth_bl, len_tup, len_lst, len_fro, idx_tup, idx_lst, idx_fro, isStr, seqI_str, seqI_tup, seqI_lst, decide_true, decide_false, if_true, if_false, ↓reduceIte, eq_self, Bool.false_eq_true, Bool.true_or, Bool.or_true, Bool.false_or, Bool.or_false, Bool.true_and, Bool.and_true, Bool.false_and, Bool.and_false, Bool.not_true, Bool.not_false, reduceCtorEq, and_self, and_true, true_and, ite_self, size16, Nat.reduceAdd, Nat.reduceLeDiff, Nat.zero_le]
    have d8 : binD .FloorDiv (.int ((dsL ds).length : Int)) (.int 8) = some (.int (c : Int)) := by
      rw [fdiv_int _ _ (by decide) (by decide), dsL_len, hlen]
      congr 2
      omega
    obtain ⟨L, hL⟩ : ∃ L : Nat → List Nd, L = fun i => ((List.range i).map (ndOf ds)).foldl (stepN' x) [] := ⟨_, rfl⟩
    have Ls : ∀ i, L (i + 1) = stepN' x (L i) (ndOf ds i) := fun i => by
      rw [hL]
      simp only [List.range_succ, List.map_append, List.map_cons, List.map_nil, List.foldl_append, List.foldl_cons, List.foldl_nil]
    have Ll : ∀ i, (L i).length ≤ i := fun i => by
      induction i with
      | zero => rw [hL]; exact Nat.le_refl _
      | succ i ih =>
        rw [Ls]
        have := stepN_len x (L i) (ndOf ds i)
        omega
    obtain ⟨r', S', h, v3, v4, hr, hS⟩ := exec_for_ix (c := G.cfg (n + 2)) (tg := .nm 3) (it := .range (.cons (.bin .FloorDiv (.bi .len (.cons (.var 1) .nil)) (.int 8)) .nil)) (b := c__law_needs_b0) (S := S ++ [.lst []]) (r := [some (.str x), some (.lst (dsL ds)), some (.ref S.length), none, none, none])
      (List.range c) (fun (j : Nat) => .int (j : Int)) (w := fun _ => true) (fun i r' S' => ∃ v3 v4, r' = [some (.str x), some (.lst (dsL ds)), some (.ref S.length), v3, v4, none] ∧ S' = S ++ [.lst ((L i).map Nd.d)])
      (by simp only [Rf.execs, Rf.execS, evalE, evalEs, evalO, evalT, evalL, evalC, evalI, bd_k, of_some, startE, bindT, wipeT, List.map_cons, List.map_nil, List.length_cons, List.length_nil, List.replicate, List.cons_append, List.nil_append, List.getElem?_cons_zero, List.getElem?_cons_succ, List.set_cons_zero, List.set_cons_succ, Option.map_some, Option.map_none, Option.bind_some, Option.bind_none, cmp_eq_int, cmp_ne_int, cmp_eq_str, cmp_ne_str, cmp_eq_bl, cmp_ne_bl, cmp_lt_int, cmp_le_int, cmp_gt_int, cmp_ge_int, cmp_is_non, cmp_is_int, cmp_is_tup, cmp_isn_non, cmp_isn_int, cmp_isn_tup, cmp_is_bl, cmp_isn_bl, cmp_in_str, isi_bl, isi_int, isi_str, isi_tup, isi_lst, isi_non, truth_bl, len_tup, len_lst, len_fro, idx_tup, idx_lst, idx_fro, isStr, seqI_str, seqI_tup, seqI_lst, decide_true, decide_false, if_true, if_false, ↓reduceIte, eq_self, Bool.false_eq_true, Bool.true_or, Bool.or_true, Bool.false_or, Bool.or_false, Bool.true_and, Bool.and_true, Bool.false_and, Bool.and_false, Bool.not_true, Bool.not_false, reduceCtorEq, and_self, and_true, true_and, ite_self, size16, Nat.reduceAdd, Nat.reduceLeDiff, Nat.zero_le, d8, rangeI_one (n := c) (by omega)]) (fun _ _ _ _ => rfl) (fun i hi r1 S1 hI => by
        obtain ⟨v3, v4, rfl, rfl⟩ := hI
        rw [List.length_range] at hi
        rw [List.getElem_range]
        have hLi := Ll i
        have m8 : binD .Mult (.int 8) (.int (i : Int)) = some (.int (8 * (i : Int))) := mul_int (by decide)
        have i0 : atI (dsL ds) (8 * (i : Int)) = some (.int ((ds.getD (8 * i) 0 : Nat) : Int)) := by
          have := getD_at ds (8 * i) (by omega)
          rw [show (8 * (i : Int)) = ((8 * i : Nat) : Int) by omega]; exact this
        have i1 : atI (dsL ds) (8 * (i : Int) + 1) = some (.int ((ds.getD (8 * i + 1) 0 : Nat) : Int)) := by
          have := getD_at ds (8 * i + 1) (by omega)
          rw [show (8 * (i : Int) + 1) = ((8 * i + 1 : Nat) : Int) by omega]; exact this
        have rt : ∀ S, ritems S (.lst (dsL ds)) = some (dsL ds) := fun S => rfl
        have cu : cutD (dsL ds) (some (8 * (i : Int) + 2)) (some (8 * (i : Int) + 8)) = dsL [ds.getD (8 * i + 2) 0, ds.getD (8 * i + 3) 0, ds.getD (8 * i + 4) 0, ds.getD (8 * i + 5) 0, ds.getD (8 * i + 6) 0, ds.getD (8 * i + 7) 0] := by
          rw [show (8 * (i : Int) + 2) = ((8 * i + 2 : Nat) : Int) by omega, show (8 * (i : Int) + 8) = ((8 * i + 8 : Nat) : Int) by omega, dsL_cut _ _ _ (by omega) (by omega), show 8 * i + 8 - (8 * i + 2) = 6 by omega, six_of ds (8 * i + 2) (by omega)]
        have tt := cfg_ok (law_title_ok F (ds.getD (8 * i) 0) (D.t i hi) (n + 1) (S ++ [.lst ((L i).map Nd.d)]))
        have mm := fun S => cfg_ok (law_mk_ok F.mak (a := ds.getD (8 * i + 2) 0) (b := ds.getD (8 * i + 3) 0) (c := ds.getD (8 * i + 4) 0) (D.m i hi).1 (D.m i hi).2.1 (D.m i hi).2.2 (n + 1) S)
        have sp := fun S => cfg_ok (law_span_ok F (ds.getD (8 * i + 1) 0) (mkOf (ds.getD (8 * i + 2) 0) (ds.getD (8 * i + 3) 0) (ds.getD (8 * i + 4) 0) (ds.getD (8 * i + 5) 0) (ds.getD (8 * i + 6) 0) (ds.getD (8 * i + 7) 0)) (Nat.le_trans (mkOf_len _ _ _ _ _ _) (by decide)) n S)
        have ap := fun y => app_end S ((L i).map Nd.d) y (by rw [size16, List.length_map]; omega)
        rw [Ls i]
        have qx : (ndOf ds i).x = titleL.getD (ds.getD (8 * i) 0) "" := rfl
        have qd : (ndOf ds i).d = .tup [.str (titleL.getD (ds.getD (8 * i) 0) ""), spanD (needS (ds.getD (8 * i + 1) 0) (mkOf (ds.getD (8 * i + 2) 0) (ds.getD (8 * i + 3) 0) (ds.getD (8 * i + 4) 0) (ds.getD (8 * i + 5) 0) (ds.getD (8 * i + 6) 0) (ds.getD (8 * i + 7) 0)))] := rfl
        generalize ht : titleL.getD (ds.getD (8 * i) 0) "" = t at *
        have l0 : evalL (G.cfg (n + 2)) c__law_needs_l0 [some (.str x), some (.lst (dsL ds)), some (.ref S.length), some (.int (i : Int)), some (.str t), none] (S ++ [.lst ((L i).map Nd.d)]) = .ok ((L i).map fun q => .str q.x, S ++ [.lst ((L i).map Nd.d)]) :=
          eval_compV (L i) Nd.d (fun q => .str q.x) (w := fun S' => decide (S'[S.length]? = some (.lst ((L i).map Nd.d)))) (by simp only [Rf.execs, Rf.execS, evalE, evalEs, evalO, evalT, evalL, evalC, evalI, bd_k, of_some, startE, bindT, wipeT, List.map_cons, List.map_nil, List.length_cons, List.length_nil, List.replicate, List.cons_append, List.nil_append, List.getElem?_cons_zero, List.getElem?_cons_succ, List.set_cons_zero, List.set_cons_succ, Option.map_some, Option.map_none, Option.bind_some, Option.bind_none, cmp_eq_int, cmp_ne_int, cmp_eq_str, cmp_ne_str, cmp_eq_bl, cmp_ne_bl, cmp_lt_int, cmp_le_int, cmp_gt_int, cmp_ge_int, cmp_is_non, cmp_is_int, cmp_is_tup, cmp_isn_non, cmp_isn_int, cmp_isn_tup, cmp_is_bl, cmp_isn_bl, cmp_in_str, isi_bl, isi_int, isi_str, isi_tup, isi_lst, isi_non, truth_bl, len_tup, len_lst, len_fro, idx_tup, idx_lst, idx_fro, isStr, seqI_str, seqI_tup, seqI_lst, decide_true, decide_false, if_true, if_false, ↓reduceIte, eq_self, Bool.false_eq_true, Bool.true_or, Bool.or_true, Bool.false_or, Bool.or_false, Bool.true_and, Bool.and_true, Bool.false_and, Bool.and_false, Bool.not_true, Bool.not_false, reduceCtorEq, and_self, and_true, true_and, ite_self, size16, Nat.reduceAdd, Nat.reduceLeDiff, Nat.zero_le, seqI_end]) (by simp) (by rw [size16]; omega) fun q hq => ⟨_, rfl, by simp only [Rf.execs, Rf.execS, evalE, evalEs, evalO, evalT, evalL, evalC, evalI, bd_k, of_some, startE, bindT, wipeT, List.map_cons, List.map_nil, List.length_cons, List.length_nil, List.replicate, List.cons_append, List.nil_append, List.getElem?_cons_zero, List.getElem?_cons_succ, List.set_cons_zero, List.set_cons_succ, Option.map_some, Option.map_none, Option.bind_some, Option.bind_none, cmp_eq_int, cmp_ne_int, cmp_eq_str, cmp_ne_str, cmp_eq_bl, cmp_ne_bl, cmp_lt_int, cmp_le_int, cmp_gt_int, cmp_ge_int, cmp_is_non, cmp_is_int, cmp_is_tup, cmp_isn_non, cmp_isn_int, cmp_isn_tup, cmp_is_bl, cmp_isn_bl, cmp_in_str, isi_bl, isi_int, isi_str, isi_tup, isi_lst, isi_non, truth_bl, len_tup, len_lst, len_fro, idx_tup, idx_lst, idx_fro, isStr, seqI_str, seqI_tup, seqI_lst, decide_true, decide_false, if_true, if_false, ↓reduceIte, eq_self, Bool.false_eq_true, Bool.true_or, Bool.or_true, Bool.false_or, Bool.or_false, Bool.true_and, Bool.and_true, Bool.false_and, Bool.and_false, Bool.not_true, Bool.not_false, reduceCtorEq, and_self, and_true, true_and, ite_self, size16, Nat.reduceAdd, Nat.reduceLeDiff, Nat.zero_le, nd_at0]⟩
        have ni := notin_str (S ++ [.lst ((L i).map Nd.d)]) Nd.x t (L i)
        refine ⟨_, rfl, [some (.str x), some (.lst (dsL ds)), some (.ref S.length), some (.int (i : Int)), some (.str t), none], S ++ [.lst ((stepN' x (L i) (ndOf ds i)).map Nd.d)], ?_, _, _, rfl, rfl⟩
        by_cases h1 : t = x
        · have e : stepN' x (L i) (ndOf ds i) = L i := by unfold stepN'; rw [if_neg]; rw [qx, h1]; simp
          rw [e]
          have f1 : (!decide (t = x)) = false := by simp [h1]
          simp only [c__law_needs_b0, Rf.execs, Rf.execS, evalE, evalEs, evalO, evalT, evalL, evalC, evalI, bd_k, of_some, startE, bindT, wipeT, List.map_cons, List.map_nil, List.length_cons, List.length_nil, List.replicate, List.cons_append, List.nil_append, List.getElem?_cons_zero, List.getElem?_cons_succ, List.set_cons_zero, List.set_cons_succ, Option.map_some, Option.map_none, Option.bind_some, Option.bind_none, cmp_eq_int, cmp_ne_int, cmp_eq_str, cmp_ne_str, cmp_eq_bl, cmp_ne_bl, cmp_lt_int, cmp_le_int, cmp_gt_int, cmp_ge_int, cmp_is_non, cmp_is_int, cmp_is_tup, cmp_isn_non, cmp_isn_int, cmp_isn_tup, cmp_is_bl, cmp_isn_bl, cmp_in_str, isi_bl, isi_int, isi_str, isi_tup, isi_lst, isi_non, truth_bl, len_tup, len_lst, len_fro, idx_tup, idx_lst, idx_fro, isStr, seqI_str, seqI_tup, seqI_lst, decide_true, decide_false, if_true, if_false, ↓reduceIte, eq_self, Bool.false_eq_true, Bool.true_or, Bool.or_true, Bool.false_or, Bool.or_false, Bool.true_and, Bool.and_true, Bool.false_and, Bool.and_false, Bool.not_true, Bool.not_false, reduceCtorEq, and_self, and_true, true_and, ite_self, size16, Nat.reduceAdd, Nat.reduceLeDiff, Nat.zero_le, m8, i0, tt, f1]
        · have f1 : (!decide (t = x)) = true := by simp [h1]
          cases h2 : (L i).any (fun a => decide (a.x = t)) with
          | true =>
            have e : stepN' x (L i) (ndOf ds i) = L i := by unfold stepN'; rw [if_neg]; rw [qx, h2]; simp
            rw [e]
            rw [h2] at ni
            simp only [c__law_needs_b0, Rf.execs, Rf.execS, evalE, evalEs, evalO, evalT, evalL, evalC, evalI, bd_k, of_some, startE, bindT, wipeT, List.map_cons, List.map_nil, List.length_cons, List.length_nil, List.replicate, List.cons_append, List.nil_append, List.getElem?_cons_zero, List.getElem?_cons_succ, List.set_cons_zero, List.set_cons_succ, Option.map_some, Option.map_none, Option.bind_some, Option.bind_none, cmp_eq_int, cmp_ne_int, cmp_eq_str, cmp_ne_str, cmp_eq_bl, cmp_ne_bl, cmp_lt_int, cmp_le_int, cmp_gt_int, cmp_ge_int, cmp_is_non, cmp_is_int, cmp_is_tup, cmp_isn_non, cmp_isn_int, cmp_isn_tup, cmp_is_bl, cmp_isn_bl, cmp_in_str, isi_bl, isi_int, isi_str, isi_tup, isi_lst, isi_non, truth_bl, len_tup, len_lst, len_fro, idx_tup, idx_lst, idx_fro, isStr, seqI_str, seqI_tup, seqI_lst, decide_true, decide_false, if_true, if_false, ↓reduceIte, eq_self, Bool.false_eq_true, Bool.true_or, Bool.or_true, Bool.false_or, Bool.or_false, Bool.true_and, Bool.and_true, Bool.false_and, Bool.and_false, Bool.not_true, Bool.not_false, reduceCtorEq, and_self, and_true, true_and, ite_self, size16, Nat.reduceAdd, Nat.reduceLeDiff, Nat.zero_le, m8, i0, tt, f1, l0, ni]
          | false =>
            have e : (stepN' x (L i) (ndOf ds i)).map Nd.d = (L i).map Nd.d ++ [(ndOf ds i).d] := by
              unfold stepN'; rw [if_pos (by rw [qx, h2]; exact ⟨h1, rfl⟩), List.map_append]; rfl
            rw [e, qd]
            rw [h2] at ni
            simp only [c__law_needs_b0, Rf.execs, Rf.execS, evalE, evalEs, evalO, evalT, evalL, evalC, evalI, bd_k, of_some, startE, bindT, wipeT, List.map_cons, List.map_nil, List.length_cons, List.length_nil, List.replicate, List.cons_append, List.nil_append, List.getElem?_cons_zero, List.getElem?_cons_succ, List.set_cons_zero, List.set_cons_succ, Option.map_some, Option.map_none, Option.bind_some, Option.bind_none, cmp_eq_int, cmp_ne_int, cmp_eq_str, cmp_ne_str, cmp_eq_bl, cmp_ne_bl, cmp_lt_int, cmp_le_int, cmp_gt_int, cmp_ge_int, cmp_is_non, cmp_is_int, cmp_is_tup, cmp_isn_non, cmp_isn_int, cmp_isn_tup, cmp_is_bl, cmp_isn_bl, cmp_in_str, isi_bl, isi_int, isi_str, isi_tup, isi_lst, isi_non, truth_bl, len_tup, len_lst, len_fro, idx_tup, idx_lst, idx_fro, isStr, seqI_str, seqI_tup, seqI_lst, decide_true, decide_false, if_true, if_false, ↓reduceIte, eq_self, Bool.false_eq_true, Bool.true_or, Bool.or_true, Bool.false_or, Bool.or_false, Bool.true_and, Bool.and_true, Bool.false_and, Bool.and_false, Bool.not_true, Bool.not_false, reduceCtorEq, and_self, and_true, true_and, ite_self, size16, Nat.reduceAdd, Nat.reduceLeDiff, Nat.zero_le, m8, add_int, i0, i1, tt, f1, l0, ni, isMut_end, rt, cu, mm, sp, ap]) ⟨none, none, rfl, by rw [hL]; rfl⟩
    subst hr
    rw [List.length_range] at hS
    subst hS
    refine rat_step h ?_
    have tp : biD .tuple (S ++ [.lst ((L c).map Nd.d)]) [.ref S.length] = some (.tup ((L c).map Nd.d)) := by
      simp [biD, items]
    have e : L c = needsOf x ds c := by rw [hL]; rfl
    rw [← e]
    exact ⟨_, _, by simp only [Rf.execs, Rf.execS, evalE, evalEs, evalO, evalT, evalL, evalC, evalI, bd_k, of_some, startE, bindT, wipeT, List.map_cons, List.map_nil, List.length_cons, List.length_nil, List.replicate, List.cons_append, List.nil_append, List.getElem?_cons_zero, List.getElem?_cons_succ, List.set_cons_zero, List.set_cons_succ, Option.map_some, Option.map_none, Option.bind_some, Option.bind_none, cmp_eq_int, cmp_ne_int, cmp_eq_str, cmp_ne_str, cmp_eq_bl, cmp_ne_bl, cmp_lt_int, cmp_le_int, cmp_gt_int, cmp_ge_int, cmp_is_non, cmp_is_int, cmp_is_tup, cmp_isn_non, cmp_isn_int, cmp_isn_tup, cmp_is_bl, cmp_isn_bl, cmp_in_str, isi_bl, isi_int, isi_str, isi_tup, isi_lst, isi_non, truth_bl, len_tup, len_lst, len_fro, idx_tup, idx_lst, idx_fro, isStr, seqI_str, seqI_tup, seqI_lst, decide_true, decide_false, if_true, if_false, ↓reduceIte, eq_self, Bool.false_eq_true, Bool.true_or, Bool.or_true, Bool.false_or, Bool.or_false, Bool.true_and, Bool.and_true, Bool.false_and, Bool.and_false, Bool.not_true, Bool.not_false, reduceCtorEq, and_self, and_true, true_and, ite_self, size16, Nat.reduceAdd, Nat.reduceLeDiff, Nat.zero_le, tp]; rfl⟩
  exact callF_pur F.nds rfl (by decide) (by rw [Rf.D.pur, Rf.D.purs_map _ Nd.pur]) ex
end Rf


namespace Rf
open PySem L2 Cr
structure En.Gd (e : En) : Prop where
  ok : e.Ok
  ttl : e.x ∈ titleL
  nds : NdsOk e.x e.ns
  ln : e.ns.length ≤ 3
def szE : List Nat := [8, 3, 3, 4, 4, 7, 7, 4, 8, 7, 3, 3, 4, 4, 7, 7, 8, 7, 3, 3, 4, 4, 7, 7, 8, 7, 3, 3, 4, 4, 7, 7]
theorem entry_ex {G : Gam} (F : FSh G) (c : Int) : ∃ e : En, e.Gd ∧ ∀ n S, callF G (n + 4) "_law_entry" [.int c] S = .ok (e.d, S) := by
  obtain ⟨ds, dl, db, dok⟩ := law_draws_ex F.drs c szE (by decide) (by decide)
  have dl' : ds.length = 32 := dl
  have lt : ∀ j, j < 32 → ds.getD j 0 < szE.getD j 0 := fun j hj => by
    have h1 : j < ds.length := by omega
    have h2 : j < szE.length := hj
    rw [List.getD_eq_getElem?_getD, List.getElem?_eq_getElem h1, List.getD_eq_getElem?_getD, List.getElem?_eq_getElem h2]
    exact db j h1 h2
  obtain ⟨k, hk⟩ : ∃ k, k = ds.getD 7 0 := ⟨_, rfl⟩
  have k4 : k < 4 := by rw [hk]; exact lt 7 (by decide)
  obtain ⟨sub, hsub⟩ : ∃ sub, sub = (ds.drop 8).take (8 * k) := ⟨_, rfl⟩
  have sg : ∀ j, j < 8 * k → sub.getD j 0 = ds.getD (8 + j) 0 := fun j hj => by
    rw [hsub, List.getD_eq_getElem?_getD, List.getElem?_take, if_pos hj, List.getElem?_drop, List.getD_eq_getElem?_getD]
  have c3 : ∀ j, j < k → j = 0 ∨ j = 1 ∨ j = 2 := fun j hj => by omega
  have Dg : DigN sub k := by
    refine ⟨by rw [hsub, List.length_take, List.length_drop]; omega, fun j hj => ?_, fun j hj => ⟨?_, ?_, ?_⟩⟩
    · rw [sg _ (by omega)]
      have := lt (8 + 8 * j) (by omega)
      rcases c3 j hj with rfl | rfl | rfl <;> exact this
    · rw [sg _ (by omega)]
      have := lt (8 + (8 * j + 5)) (by omega)
      rcases c3 j hj with rfl | rfl | rfl <;> exact this
    · rw [sg _ (by omega)]
      have := lt (8 + (8 * j + 6)) (by omega)
      rcases c3 j hj with rfl | rfl | rfl <;> exact this
    · rw [sg _ (by omega)]
      have := lt (8 + (8 * j + 7)) (by omega)
      rcases c3 j hj with rfl | rfl | rfl <;> exact this
  have t0 : ds.getD 0 0 < 8 := lt 0 (by decide)
  obtain ⟨e, he⟩ : ∃ e : En, e = ⟨titleL.getD (ds.getD 0 0) "", mkOf (ds.getD 1 0) (ds.getD 2 0) (ds.getD 3 0) (ds.getD 4 0) (ds.getD 5 0) (ds.getD 6 0), needsOf (titleL.getD (ds.getD 0 0) "") sub k⟩ := ⟨_, rfl⟩
  obtain ⟨n1, n2⟩ := needsOf_ok (x := titleL.getD (ds.getD 0 0) "") Dg
  refine ⟨e, ⟨⟨by rw [he]; exact mkOf_sm _ _ _ _ _ _, by rw [he]; exact fun q hq => (n1.ok q hq).1⟩, by rw [he]; exact title_mem t0, by rw [he]; exact n1, by rw [he]; exact Nat.le_trans n2 (by omega)⟩, fun n S => callF_pur0 F.ent rfl (by decide) e.pur ?_⟩
  have ct : ∀ S, catL S (.lst [.int 8, .int 3, .int 3, .int 4, .int 4, .int 7, .int 7, .int 4]) (.lst [.int 8, .int 7, .int 3, .int 3, .int 4, .int 4, .int 7, .int 7, .int 8, .int 7, .int 3, .int 3, .int 4, .int 4, .int 7, .int 7, .int 8, .int 7, .int 3, .int 3, .int 4, .int 4, .int 7, .int 7]) = some (dsL szE) := fun S => by
    unfold catL
    simp only [ritems, litems, size16]
    first | rfl | (rw [if_pos (by simp)]; rfl)
  have rp : ∀ S, repL S (.lst [.int 8, .int 7, .int 3, .int 3, .int 4, .int 4, .int 7, .int 7]) (.int 3) = some [.int 8, .int 7, .int 3, .int 3, .int 4, .int 4, .int 7, .int 7, .int 8, .int 7, .int 3, .int 3, .int 4, .int 4, .int 7, .int 7, .int 8, .int 7, .int 3, .int 3, .int 4, .int 4, .int 7, .int 7] := fun S => by
    unfold repL
    simp [ritems, size16, litems]
    try rfl
  have dk := cfg_ok (dok (n + 2) S)
  refine ret_step (r1 := [some (.int c), some (.lst (dsL ds)), none]) (S1 := S) ?_ ?_
  · simp only [Rf.execs, Rf.execS, evalE, evalEs, evalO, evalT, evalL, evalC, evalI, bd_k, of_some, startE, bindT, wipeT, List.map_cons, List.map_nil, List.length_cons, List.length_nil, List.replicate, List.cons_append, List.nil_append, List.getElem?_cons_zero, List.getElem?_cons_succ, List.set_cons_zero, List.set_cons_succ, Option.map_some, Option.map_none, Option.bind_some, Option.bind_none, cmp_eq_int, cmp_ne_int, cmp_eq_str, cmp_ne_str, cmp_eq_bl, cmp_ne_bl, cmp_lt_int, cmp_le_int, cmp_gt_int, cmp_ge_int, cmp_is_non, cmp_is_int, cmp_is_tup, cmp_isn_non, cmp_isn_int, cmp_isn_tup, cmp_is_bl, cmp_isn_bl, cmp_in_str, isi_bl, isi_int, isi_str, isi_tup, isi_lst, isi_non, truth_bl, len_tup, len_lst, len_fro, idx_tup, idx_lst, idx_fro, isStr, seqI_str, seqI_tup, seqI_lst, decide_true, decide_false, if_true, if_false, ↓reduceIte, eq_self, Bool.false_eq_true, Bool.true_or, Bool.or_true, Bool.false_or, Bool.or_false, Bool.true_and, Bool.and_true, Bool.false_and, Bool.and_false, Bool.not_true, Bool.not_false, reduceCtorEq, and_self, and_true, true_and, ite_self, size16, Nat.reduceAdd, Nat.reduceLeDiff, Nat.zero_le, rp, ct, dk]; try rfl
  have i0 : atI (dsL ds) 0 = some (.int ((ds.getD 0 0 : Nat) : Int)) := getD_at ds 0 (by omega)
  have i7 : atI (dsL ds) 7 = some (.int (k : Int)) := by rw [hk]; exact getD_at ds 7 (by omega)
  have tt := cfg_ok (law_title_ok F (ds.getD 0 0) t0 (n + 2) S)
  refine ret_step (r1 := [some (.int c), some (.lst (dsL ds)), some (.str (titleL.getD (ds.getD 0 0) ""))]) (S1 := S) ?_ ?_
  · simp only [Rf.execs, Rf.execS, evalE, evalEs, evalO, evalT, evalL, evalC, evalI, bd_k, of_some, startE, bindT, wipeT, List.map_cons, List.map_nil, List.length_cons, List.length_nil, List.replicate, List.cons_append, List.nil_append, List.getElem?_cons_zero, List.getElem?_cons_succ, List.set_cons_zero, List.set_cons_succ, Option.map_some, Option.map_none, Option.bind_some, Option.bind_none, cmp_eq_int, cmp_ne_int, cmp_eq_str, cmp_ne_str, cmp_eq_bl, cmp_ne_bl, cmp_lt_int, cmp_le_int, cmp_gt_int, cmp_ge_int, cmp_is_non, cmp_is_int, cmp_is_tup, cmp_isn_non, cmp_isn_int, cmp_isn_tup, cmp_is_bl, cmp_isn_bl, cmp_in_str, isi_bl, isi_int, isi_str, isi_tup, isi_lst, isi_non, truth_bl, len_tup, len_lst, len_fro, idx_tup, idx_lst, idx_fro, isStr, seqI_str, seqI_tup, seqI_lst, decide_true, decide_false, if_true, if_false, ↓reduceIte, eq_self, Bool.false_eq_true, Bool.true_or, Bool.or_true, Bool.false_or, Bool.or_false, Bool.true_and, Bool.and_true, Bool.false_and, Bool.and_false, Bool.not_true, Bool.not_false, reduceCtorEq, and_self, and_true, true_and, ite_self, size16, Nat.reduceAdd, Nat.reduceLeDiff, Nat.zero_le, i0, tt]
  have rt : ∀ S, ritems S (.lst (dsL ds)) = some (dsL ds) := fun S => rfl
  have c1 : cutD (dsL ds) (some 1) (some 7) = dsL [ds.getD 1 0, ds.getD 2 0, ds.getD 3 0, ds.getD 4 0, ds.getD 5 0, ds.getD 6 0] := by
    have := dsL_cut ds 1 7 (by omega) (by omega)
    rw [show 7 - 1 = 6 from rfl, six_of ds 1 (by omega)] at this
    exact this
  have c2 : cutD (dsL ds) (some 8) (some (8 + 8 * (k : Int))) = dsL sub := by
    have := dsL_cut ds 8 (8 + 8 * k) (by omega) (by omega)
    rw [show 8 + 8 * k - 8 = 8 * k by omega, ← hsub] at this
    rw [show (8 + 8 * (k : Int)) = ((8 + 8 * k : Nat) : Int) by omega]
    exact this
  have m8 : binD .Mult (.int 8) (.int (k : Int)) = some (.int (8 * (k : Int))) := mul_int (by decide)
  have mm := cfg_ok (law_mk_ok F.mak (a := ds.getD 1 0) (b := ds.getD 2 0) (c := ds.getD 3 0) (lt 4 (by decide)) (lt 5 (by decide)) (lt 6 (by decide)) (n + 2) S)
  have nn := cfg_ok (law_needs_ok F (titleL.getD (ds.getD 0 0) "") Dg (by omega) n S)
  have ed : e.d = .tup [.str (titleL.getD (ds.getD 0 0) ""), (mkOf (ds.getD 1 0) (ds.getD 2 0) (ds.getD 3 0) (ds.getD 4 0) (ds.getD 5 0) (ds.getD 6 0)).d, .tup ((needsOf (titleL.getD (ds.getD 0 0) "") sub k).map Nd.d)] := by rw [he]; rfl
  rw [ed]
  exact ⟨_, by simp only [Rf.execs, Rf.execS, evalE, evalEs, evalO, evalT, evalL, evalC, evalI, bd_k, of_some, startE, bindT, wipeT, List.map_cons, List.map_nil, List.length_cons, List.length_nil, List.replicate, List.cons_append, List.nil_append, List.getElem?_cons_zero, List.getElem?_cons_succ, List.set_cons_zero, List.set_cons_succ, Option.map_some, Option.map_none, Option.bind_some, Option.bind_none, cmp_eq_int, cmp_ne_int, cmp_eq_str, cmp_ne_str, cmp_eq_bl, cmp_ne_bl, cmp_lt_int, cmp_le_int, cmp_gt_int, cmp_ge_int, cmp_is_non, cmp_is_int, cmp_is_tup, cmp_isn_non, cmp_isn_int, cmp_isn_tup, cmp_is_bl, cmp_isn_bl, cmp_in_str, isi_bl, isi_int, isi_str, isi_tup, isi_lst, isi_non, truth_bl, len_tup, len_lst, len_fro, idx_tup, idx_lst, idx_fro, isStr, seqI_str, seqI_tup, seqI_lst, decide_true, decide_false, if_true, if_false, ↓reduceIte, eq_self, Bool.false_eq_true, Bool.true_or, Bool.or_true, Bool.false_or, Bool.or_false, Bool.true_and, Bool.and_true, Bool.false_and, Bool.and_false, Bool.not_true, Bool.not_false, reduceCtorEq, and_self, and_true, true_and, ite_self, size16, Nat.reduceAdd, Nat.reduceLeDiff, Nat.zero_le, rt, c1, c2, i7, m8, add_int, mm, nn]; rfl⟩
def En.same (a b : En) : Prop := a.x = b.x ∧ a.m = b.m
structure ShOk (es : List En) : Prop where
  gd : ∀ e ∈ es, e.Gd
  pw : es.Pairwise fun a b => ¬ a.same b
theorem shelf_ex {G : Gam} (F : FSh G) {ns : List Int} (h63 : ns.length ≤ 63) : ∃ es : List En, ShOk es ∧ es.length ≤ 40 ∧ ∀ n S, callF G (n + 5) "_law_shelf" [.fro ns, .int 1] S = .ok (.tup (es.map En.d), S) := by
  obtain ⟨c0, hc0⟩ := law_cell_ok F.cell h63 0 (by decide)
  obtain ⟨ds, dl, db, dok⟩ := law_draws_ex F.drs c0 [16, 10] (by decide) (by decide)
  obtain ⟨p, q, rfl⟩ : ∃ p q, ds = [p, q] := by
    match ds, dl with
    | [p, q], _ => exact ⟨p, q, rfl⟩
  have q10 : q < 10 := db 1 (by simp) (by simp)
  obtain ⟨many, hm⟩ : ∃ m, m = if p = 3 then 40 else q := ⟨_, rfl⟩
  have m40 : many ≤ 40 := by rw [hm]; split <;> omega
  -- the entries
  have en : ∀ k : Nat, ∃ e : En, e.Gd ∧ (k ≤ 40 → ∀ n S, ∃ c, callF G (n + 4) "_law_cell" [.fro ns, .int ((1 + k : Nat) : Int)] S = .ok (.int c, S) ∧ callF G (n + 4) "_law_entry" [.int c] S = .ok (e.d, S)) := fun k => by
    obtain ⟨c, hc⟩ := law_cell_ok F.cell h63 (1 + min k 40) (by omega)
    obtain ⟨e, he, ee⟩ := entry_ex F c
    refine ⟨e, he, fun hk n S => ⟨c, ?_, ee n S⟩⟩
    rw [Nat.min_eq_left hk] at hc
    exact hc (n + 3) S
  obtain ⟨ef, hef⟩ := Classical.axiomOfChoice en
  obtain ⟨L, L0, Ls⟩ : ∃ L : Nat → List En, L 0 = [] ∧ ∀ i, L (i + 1) = if (L i).any (fun o => decide (o.x = (ef i).x ∧ o.m = (ef i).m)) = true then L i else L i ++ [ef i] :=
    ⟨fun n => Nat.rec [] (fun i l => if l.any (fun o => decide (o.x = (ef i).x ∧ o.m = (ef i).m)) = true then l else l ++ [ef i]) n, rfl, fun _ => rfl⟩
  have Ll : ∀ i, (L i).length ≤ i := fun i => by
    induction i with
    | zero => rw [L0]; exact Nat.le_refl _
    | succ i ih =>
      rw [Ls]
      split
      · omega
      · rw [List.length_append, List.length_singleton]; omega
  have Lo : ∀ i, ShOk (L i) := fun i => by
    induction i with
    | zero => rw [L0]; exact ⟨fun e h => (by cases h), .nil⟩
    | succ i ih =>
      rw [Ls]
      split
      · exact ih
      · rename_i hn
        refine ⟨fun e h => ?_, ?_⟩
        · rcases List.mem_append.mp h with h | h
          · exact ih.gd e h
          · rw [List.mem_singleton.mp h]; exact (hef i).1
        · rw [List.pairwise_append]
          refine ⟨ih.pw, List.pairwise_singleton _ _, fun a ha b hb => ?_⟩
          rw [List.mem_singleton.mp hb]
          intro s
          exact hn (List.any_eq_true.mpr ⟨a, ha, decide_eq_true s⟩)
  refine ⟨L many, Lo _, Nat.le_trans (Ll _) m40, fun n S => callF_pur F.shf rfl (by decide) (by rw [D.pur, D.purs_map _ En.pur]) ?_⟩
  have dk := cfg_ok (dok (n + 3) S)
  have ck := cfg_ok (hc0 (n + 3) S)
  have e2 : dsL [16, 10] = [.int 16, .int 10] := rfl
  rw [e2] at dk
  have e3 : dsL [p, q] = [.int (p : Int), .int (q : Int)] := rfl
  rw [e3] at dk
  have ck' : (G.cfg (n + 4)).call (Str.ofString "_law_cell") [.fro ns, .int 0] S = .ok (.int c0, S) := ck
  refine rat_step (r1 := [some (.fro ns), some (.int 1), some (.lst [.int (p : Int), .int (q : Int)]), none, none, none, none, none]) (S1 := S) ?_ ?_
  · simp only [Rf.execs, Rf.execS, evalE, evalEs, evalO, evalT, evalL, evalC, evalI, bd_k, of_some, startE, bindT, wipeT, List.map_cons, List.map_nil, List.length_cons, List.length_nil, List.replicate, List.cons_append, List.nil_append, List.getElem?_cons_zero, List.getElem?_cons_succ, List.set_cons_zero, List.set_cons_succ, Option.map_some, Option.map_none, Option.bind_some, Option.bind_none, cmp_eq_int, cmp_ne_int, cmp_eq_str, cmp_ne_str, cmp_eq_bl, cmp_ne_bl, cmp_lt_int, cmp_le_int, cmp_gt_int, cmp_ge_int, cmp_is_non, cmp_is_int, cmp_is_tup, cmp_isn_non, cmp_isn_int, cmp_isn_tup, cmp_is_bl, cmp_isn_bl, cmp_in_str, isi_bl, isi_int, isi_str, isi_tup, isi_lst, isi_non, truth_bl, len_tup, len_lst, len_fro, idx_tup, idx_lst, idx_fro, isStr, seqI_str, seqI_tup, seqI_lst, decide_true, decide_false, if_true, if_false, ↓reduceIte, eq_self, Bool.false_eq_true, Bool.true_or, Bool.or_true, Bool.false_or, Bool.or_false, Bool.true_and, Bool.and_true, Bool.false_and, Bool.and_false, Bool.not_true, Bool.not_false, reduceCtorEq, and_self, and_true, true_and, ite_self, size16, Nat.reduceAdd, Nat.reduceLeDiff, Nat.zero_le, ck', dk]; try rfl
  have a0 : atI [D.int (p : Int), .int (q : Int)] 0 = some (.int (p : Int)) := rfl
  have a1 : atI [D.int (p : Int), .int (q : Int)] 1 = some (.int (q : Int)) := rfl
  refine rat_step (r1 := [some (.fro ns), some (.int 1), some (.lst [.int (p : Int), .int (q : Int)]), some (.int (q : Int)), none, none, none, none]) (S1 := S) ?_ ?_
  · simp only [Rf.execs, Rf.execS, evalE, evalEs, evalO, evalT, evalL, evalC, evalI, bd_k, of_some, startE, bindT, wipeT, List.map_cons, List.map_nil, List.length_cons, List.length_nil, List.replicate, List.cons_append, List.nil_append, List.getElem?_cons_zero, List.getElem?_cons_succ, List.set_cons_zero, List.set_cons_succ, Option.map_some, Option.map_none, Option.bind_some, Option.bind_none, cmp_eq_int, cmp_ne_int, cmp_eq_str, cmp_ne_str, cmp_eq_bl, cmp_ne_bl, cmp_lt_int, cmp_le_int, cmp_gt_int, cmp_ge_int, cmp_is_non, cmp_is_int, cmp_is_tup, cmp_isn_non, cmp_isn_int, cmp_isn_tup, cmp_is_bl, cmp_isn_bl, cmp_in_str, isi_bl, isi_int, isi_str, isi_tup, isi_lst, isi_non, truth_bl, len_tup, len_lst, len_fro, idx_tup, idx_lst, idx_fro, isStr, seqI_str, seqI_tup, seqI_lst, decide_true, decide_false, if_true, if_false, ↓reduceIte, eq_self, Bool.false_eq_true, Bool.true_or, Bool.or_true, Bool.false_or, Bool.or_false, Bool.true_and, Bool.and_true, Bool.false_and, Bool.and_false, Bool.not_true, Bool.not_false, reduceCtorEq, and_self, and_true, true_and, ite_self, size16, Nat.reduceAdd, Nat.reduceLeDiff, Nat.zero_le, a1]
  refine rat_step (r1 := [some (.fro ns), some (.int 1), some (.lst [.int (p : Int), .int (q : Int)]), some (.int (many : Int)), none, none, none, none]) (S1 := S) ?_ ?_
  · by_cases h : p = 3
    · have h' : decide ((p : Int) = 3) = true := decide_eq_true (by omega)
      rw [hm, if_pos h]
      simp only [Rf.execs, Rf.execS, evalE, evalEs, evalO, evalT, evalL, evalC, evalI, bd_k, of_some, startE, bindT, wipeT, List.map_cons, List.map_nil, List.length_cons, List.length_nil, List.replicate, List.cons_append, List.nil_append, List.getElem?_cons_zero, List.getElem?_cons_succ, List.set_cons_zero, List.set_cons_succ, Option.map_some, Option.map_none, Option.bind_some, Option.bind_none, cmp_eq_int, cmp_ne_int, cmp_eq_str, cmp_ne_str, cmp_eq_bl, cmp_ne_bl, cmp_lt_int, cmp_le_int, cmp_gt_int, cmp_ge_int, cmp_is_non, cmp_is_int, cmp_is_tup, cmp_isn_non, cmp_isn_int, cmp_isn_tup, cmp_is_bl, cmp_isn_bl, cmp_in_str, isi_bl, isi_int, isi_str, isi_tup, isi_lst, isi_non, truth_bl, len_tup, len_lst, len_fro, idx_tup, idx_lst, idx_fro, isStr, seqI_str, seqI_tup, seqI_lst, decide_true, decide_false, if_true, if_false, ↓reduceIte, eq_self, Bool.false_eq_true, Bool.true_or, Bool.or_true, Bool.false_or, Bool.or_false, Bool.true_and, Bool.and_true, Bool.false_and, Bool.and_false, Bool.not_true, Bool.not_false, reduceCtorEq, and_self, and_true, true_and, ite_self, size16, Nat.reduceAdd, Nat.reduceLeDiff, Nat.zero_le, a0, h']; try rfl
    · have h' : decide ((p : Int) = 3) = false := decide_eq_false (by omega)
      rw [hm, if_neg h]
      simp only [Rf.execs, Rf.execS, evalE, evalEs, evalO, evalT, evalL, evalC, evalI, bd_k, of_some, startE, bindT, wipeT, List.map_cons, List.map_nil, List.length_cons, List.length_nil, List.replicate, List.cons_append, List.nil_append, List.getElem?_cons_zero, List.getElem?_cons_succ, List.set_cons_zero, List.set_cons_succ, Option.map_some, Option.map_none, Option.bind_some, Option.bind_none, cmp_eq_int, cmp_ne_int, cmp_eq_str, cmp_ne_str, cmp_eq_bl, cmp_ne_bl, cmp_lt_int, cmp_le_int, cmp_gt_int, cmp_ge_int, cmp_is_non, cmp_is_int, cmp_is_tup, cmp_isn_non, cmp_isn_int, cmp_isn_tup, cmp_is_bl, cmp_isn_bl, cmp_in_str, isi_bl, isi_int, isi_str, isi_tup, isi_lst, isi_non, truth_bl, len_tup, len_lst, len_fro, idx_tup, idx_lst, idx_fro, isStr, seqI_str, seqI_tup, seqI_lst, decide_true, decide_false, if_true, if_false, ↓reduceIte, eq_self, Bool.false_eq_true, Bool.true_or, Bool.or_true, Bool.false_or, Bool.or_false, Bool.true_and, Bool.and_true, Bool.false_and, Bool.and_false, Bool.not_true, Bool.not_false, reduceCtorEq, and_self, and_true, true_and, ite_self, size16, Nat.reduceAdd, Nat.reduceLeDiff, Nat.zero_le, a0, h']
  refine rat_step (r1 := [some (.fro ns), some (.int 1), some (.lst [.int (p : Int), .int (q : Int)]), some (.int (many : Int)), some (.ref S.length), none, none, none]) (S1 := S ++ [.lst []]) ?_ ?_
  · simp only [Rf.execs, Rf.execS, evalE, evalEs, evalO, evalT, evalL, evalC, evalI, bd_k, of_some, startE, bindT, wipeT, List.map_cons, List.map_nil, List.length_cons, List.length_nil, List.replicate, List.cons_append, List.nil_append, List.getElem?_cons_zero, List.getElem?_cons_succ, List.set_cons_zero, List.set_cons_succ, Option.map_some, Option.map_none, Option.bind_some, Option.bind_none, cmp_eq_int, cmp_ne_int, cmp_eq_str, cmp_ne_str, cmp_eq_bl, cmp_ne_bl, cmp_lt_int, cmp_le_int, cmp_gt_int, cmp_ge_int, cmp_is_non, cmp_is_int, cmp_is_tup, cmp_isn_non, cmp_isn_int, cmp_isn_tup, cmp_is_bl, cmp_isn_bl, cmp_in_str, isi_bl, isi_int, isi_str, isi_tup, isi_lst, isi_non, truth_bl, len_tup, len_lst, len_fro, idx_tup, idx_lst, idx_fro, isStr, seqI_str, seqI_tup, seqI_lst, decide_true, decide_false, if_true, if_false, ↓reduceIte, eq_self, Bool.false_eq_true, Bool.true_or, Bool.or_true, Bool.false_or, Bool.or_false, Bool.true_and, Bool.and_true, Bool.false_and, Bool.and_false, Bool.not_true, Bool.not_false, reduceCtorEq, and_self, and_true, true_and, ite_self, size16, Nat.reduceAdd, Nat.reduceLeDiff, Nat.zero_le]
  obtain ⟨r', S', h, v5, v6, hr, hS⟩ := exec_for_ix (c := G.cfg (n + 4)) (tg := .nm 5) (it := .range (.cons (.var 3) .nil)) (b := c__law_shelf_b0) (S := S ++ [.lst []]) (r := [some (.fro ns), some (.int 1), some (.lst [.int (p : Int), .int (q : Int)]), some (.int (many : Int)), some (.ref S.length), none, none, none])
    (List.range many) (fun (j : Nat) => .int (j : Int)) (w := fun _ => true) (fun i r' S' => ∃ v5 v6, r' = [some (.fro ns), some (.int 1), some (.lst [.int (p : Int), .int (q : Int)]), some (.int (many : Int)), some (.ref S.length), v5, v6, none] ∧ S' = S ++ [.lst ((L i).map En.d)])
    (by simp only [Rf.execs, Rf.execS, evalE, evalEs, evalO, evalT, evalL, evalC, evalI, bd_k, of_some, startE, bindT, wipeT, List.map_cons, List.map_nil, List.length_cons, List.length_nil, List.replicate, List.cons_append, List.nil_append, List.getElem?_cons_zero, List.getElem?_cons_succ, List.set_cons_zero, List.set_cons_succ, Option.map_some, Option.map_none, Option.bind_some, Option.bind_none, cmp_eq_int, cmp_ne_int, cmp_eq_str, cmp_ne_str, cmp_eq_bl, cmp_ne_bl, cmp_lt_int, cmp_le_int, cmp_gt_int, cmp_ge_int, cmp_is_non, cmp_is_int, cmp_is_tup, cmp_isn_non, cmp_isn_int, cmp_isn_tup, cmp_is_bl, cmp_isn_bl, cmp_in_str, isi_bl, isi_int, isi_str, isi_tup, isi_lst, isi_non, truth_bl, len_tup, len_lst, len_fro, idx_tup, idx_lst, idx_fro, isStr, seqI_str, seqI_tup, seqI_lst, decide_true, decide_false, if_true, if_false, ↓reduceIte, eq_self, Bool.false_eq_true, Bool.true_or, Bool.or_true, Bool.false_or, Bool.or_false, Bool.true_and, Bool.and_true, Bool.false_and, Bool.and_false, Bool.not_true, Bool.not_false, reduceCtorEq, and_self, and_true, true_and, ite_self, size16, Nat.reduceAdd, Nat.reduceLeDiff, Nat.zero_le, rangeI_one (n := many) (by omega)]) (fun _ _ _ _ => rfl) (fun i hi r1 S1 hI => by
      obtain ⟨v5, v6, rfl, rfl⟩ := hI
      rw [List.length_range] at hi
      rw [List.getElem_range]
      have hLi := Ll i
      obtain ⟨c, hc, he⟩ := (hef i).2 (by omega) n (S ++ [.lst ((L i).map En.d)])
      have e1 : (1 + (i : Int)) = ((1 + i : Nat) : Int) := by omega
      have hc' : (G.cfg (n + 4)).call (Str.ofString "_law_cell") [.fro ns, .int (1 + (i : Int))] (S ++ [.lst ((L i).map En.d)]) = .ok (.int c, S ++ [.lst ((L i).map En.d)]) := by rw [e1]; exact hc
      have he' := cfg_ok he
      have ap := fun y => app_end S ((L i).map En.d) y (by rw [size16, List.length_map]; omega)
      have l0 : evalL (G.cfg (n + 4)) c__law_shelf_l0 [some (.fro ns), some (.int 1), some (.lst [.int (p : Int), .int (q : Int)]), some (.int (many : Int)), some (.ref S.length), some (.int (i : Int)), some (ef i).d, none] (S ++ [.lst ((L i).map En.d)]) = .ok ((L i).map En.hd, S ++ [.lst ((L i).map En.d)]) :=
        eval_compV (L i) En.d En.hd (w := fun S' => decide (S'[S.length]? = some (.lst ((L i).map En.d)))) (by simp only [Rf.execs, Rf.execS, evalE, evalEs, evalO, evalT, evalL, evalC, evalI, bd_k, of_some, startE, bindT, wipeT, List.map_cons, List.map_nil, List.length_cons, List.length_nil, List.replicate, List.cons_append, List.nil_append, List.getElem?_cons_zero, List.getElem?_cons_succ, List.set_cons_zero, List.set_cons_succ, Option.map_some, Option.map_none, Option.bind_some, Option.bind_none, cmp_eq_int, cmp_ne_int, cmp_eq_str, cmp_ne_str, cmp_eq_bl, cmp_ne_bl, cmp_lt_int, cmp_le_int, cmp_gt_int, cmp_ge_int, cmp_is_non, cmp_is_int, cmp_is_tup, cmp_isn_non, cmp_isn_int, cmp_isn_tup, cmp_is_bl, cmp_isn_bl, cmp_in_str, isi_bl, isi_int, isi_str, isi_tup, isi_lst, isi_non, truth_bl, len_tup, len_lst, len_fro, idx_tup, idx_lst, idx_fro, isStr, seqI_str, seqI_tup, seqI_lst, decide_true, decide_false, if_true, if_false, ↓reduceIte, eq_self, Bool.false_eq_true, Bool.true_or, Bool.or_true, Bool.false_or, Bool.or_false, Bool.true_and, Bool.and_true, Bool.false_and, Bool.and_false, Bool.not_true, Bool.not_false, reduceCtorEq, and_self, and_true, true_and, ite_self, size16, Nat.reduceAdd, Nat.reduceLeDiff, Nat.zero_le, seqI_end]) (by simp) (by rw [size16]; omega) fun o ho => ⟨_, rfl, by simp only [Rf.execs, Rf.execS, evalE, evalEs, evalO, evalT, evalL, evalC, evalI, bd_k, of_some, startE, bindT, wipeT, List.map_cons, List.map_nil, List.length_cons, List.length_nil, List.replicate, List.cons_append, List.nil_append, List.getElem?_cons_zero, List.getElem?_cons_succ, List.set_cons_zero, List.set_cons_succ, Option.map_some, Option.map_none, Option.bind_some, Option.bind_none, cmp_eq_int, cmp_ne_int, cmp_eq_str, cmp_ne_str, cmp_eq_bl, cmp_ne_bl, cmp_lt_int, cmp_le_int, cmp_gt_int, cmp_ge_int, cmp_is_non, cmp_is_int, cmp_is_tup, cmp_isn_non, cmp_isn_int, cmp_isn_tup, cmp_is_bl, cmp_isn_bl, cmp_in_str, isi_bl, isi_int, isi_str, isi_tup, isi_lst, isi_non, truth_bl, len_tup, len_lst, len_fro, idx_tup, idx_lst, idx_fro, isStr, seqI_str, seqI_tup, seqI_lst, decide_true, decide_false, if_true, if_false, ↓reduceIte, eq_self, Bool.false_eq_true, Bool.true_or, Bool.or_true, Bool.false_or, Bool.or_false, Bool.true_and, Bool.and_true, Bool.false_and, Bool.and_false, Bool.not_true, Bool.not_false, reduceCtorEq, and_self, and_true, true_and, ite_self, size16, Nat.reduceAdd, Nat.reduceLeDiff, Nat.zero_le, en_slc2]⟩
      have ni := notin_hd (S ++ [.lst ((L i).map En.d)]) (ef i) (L i)
      refine ⟨_, rfl, [some (.fro ns), some (.int 1), some (.lst [.int (p : Int), .int (q : Int)]), some (.int (many : Int)), some (.ref S.length), some (.int (i : Int)), some (ef i).d, none], S ++ [.lst ((L (i + 1)).map En.d)], ?_, _, _, rfl, rfl⟩
      rw [Ls i]
      cases h2 : (L i).any (fun o => decide (o.x = (ef i).x ∧ o.m = (ef i).m)) with
      | true =>
        rw [h2] at ni
        rw [if_pos rfl]
        simp only [c__law_shelf_b0, Rf.execs, Rf.execS, evalE, evalEs, evalO, evalT, evalL, evalC, evalI, bd_k, of_some, startE, bindT, wipeT, List.map_cons, List.map_nil, List.length_cons, List.length_nil, List.replicate, List.cons_append, List.nil_append, List.getElem?_cons_zero, List.getElem?_cons_succ, List.set_cons_zero, List.set_cons_succ, Option.map_some, Option.map_none, Option.bind_some, Option.bind_none, cmp_eq_int, cmp_ne_int, cmp_eq_str, cmp_ne_str, cmp_eq_bl, cmp_ne_bl, cmp_lt_int, cmp_le_int, cmp_gt_int, cmp_ge_int, cmp_is_non, cmp_is_int, cmp_is_tup, cmp_isn_non, cmp_isn_int, cmp_isn_tup, cmp_is_bl, cmp_isn_bl, cmp_in_str, isi_bl, isi_int, isi_str, isi_tup, isi_lst, isi_non, truth_bl, len_tup, len_lst, len_fro, idx_tup, idx_lst, idx_fro, isStr, seqI_str, seqI_tup, seqI_lst, decide_true, decide_false, if_true, if_false, ↓reduceIte, eq_self, Bool.false_eq_true, Bool.true_or, Bool.or_true, Bool.false_or, Bool.or_false, Bool.true_and, Bool.and_true, Bool.false_and, Bool.and_false, Bool.not_true, Bool.not_false, reduceCtorEq, and_self, and_true, true_and, ite_self, size16, Nat.reduceAdd, Nat.reduceLeDiff, Nat.zero_le, add_int, hc', he', en_slc2, l0, ni]
      | false =>
        rw [h2] at ni
        rw [if_neg Bool.false_ne_true, List.map_append]
        simp only [c__law_shelf_b0, Rf.execs, Rf.execS, evalE, evalEs, evalO, evalT, evalL, evalC, evalI, bd_k, of_some, startE, bindT, wipeT, List.map_cons, List.map_nil, List.length_cons, List.length_nil, List.replicate, List.cons_append, List.nil_append, List.getElem?_cons_zero, List.getElem?_cons_succ, List.set_cons_zero, List.set_cons_succ, Option.map_some, Option.map_none, Option.bind_some, Option.bind_none, cmp_eq_int, cmp_ne_int, cmp_eq_str, cmp_ne_str, cmp_eq_bl, cmp_ne_bl, cmp_lt_int, cmp_le_int, cmp_gt_int, cmp_ge_int, cmp_is_non, cmp_is_int, cmp_is_tup, cmp_isn_non, cmp_isn_int, cmp_isn_tup, cmp_is_bl, cmp_isn_bl, cmp_in_str, isi_bl, isi_int, isi_str, isi_tup, isi_lst, isi_non, truth_bl, len_tup, len_lst, len_fro, idx_tup, idx_lst, idx_fro, isStr, seqI_str, seqI_tup, seqI_lst, decide_true, decide_false, if_true, if_false, ↓reduceIte, eq_self, Bool.false_eq_true, Bool.true_or, Bool.or_true, Bool.false_or, Bool.or_false, Bool.true_and, Bool.and_true, Bool.false_and, Bool.and_false, Bool.not_true, Bool.not_false, reduceCtorEq, and_self, and_true, true_and, ite_self, size16, Nat.reduceAdd, Nat.reduceLeDiff, Nat.zero_le, add_int, hc', he', en_slc2, l0, ni, isMut_end, ap]) ⟨none, none, rfl, by rw [L0]; rfl⟩
  subst hr
  rw [List.length_range] at hS
  subst hS
  refine rat_step h ?_
  have tp : biD .tuple (S ++ [.lst ((L many).map En.d)]) [.ref S.length] = some (.tup ((L many).map En.d)) := by
    simp [biD, items]
  exact ⟨_, _, by simp only [Rf.execs, Rf.execS, evalE, evalEs, evalO, evalT, evalL, evalC, evalI, bd_k, of_some, startE, bindT, wipeT, List.map_cons, List.map_nil, List.length_cons, List.length_nil, List.replicate, List.cons_append, List.nil_append, List.getElem?_cons_zero, List.getElem?_cons_succ, List.set_cons_zero, List.set_cons_succ, Option.map_some, Option.map_none, Option.bind_some, Option.bind_none, cmp_eq_int, cmp_ne_int, cmp_eq_str, cmp_ne_str, cmp_eq_bl, cmp_ne_bl, cmp_lt_int, cmp_le_int, cmp_gt_int, cmp_ge_int, cmp_is_non, cmp_is_int, cmp_is_tup, cmp_isn_non, cmp_isn_int, cmp_isn_tup, cmp_is_bl, cmp_isn_bl, cmp_in_str, isi_bl, isi_int, isi_str, isi_tup, isi_lst, isi_non, truth_bl, len_tup, len_lst, len_fro, idx_tup, idx_lst, idx_fro, isStr, seqI_str, seqI_tup, seqI_lst, decide_true, decide_false, if_true, if_false, ↓reduceIte, eq_self, Bool.false_eq_true, Bool.true_or, Bool.or_true, Bool.false_or, Bool.or_false, Bool.true_and, Bool.and_true, Bool.false_and, Bool.and_false, Bool.not_true, Bool.not_false, reduceCtorEq, and_self, and_true, true_and, ite_self, size16, Nat.reduceAdd, Nat.reduceLeDiff, Nat.zero_le, tp]; rfl⟩
end Rf


namespace Rf
open PySem L2 Cr
def Make.lkey (m : Make) : D := .tup [.int m.a, .int m.b, .int m.c, .int (if m.ms = [] then 1 else 0), .lst (m.ms.map Mark.key)]
theorem okd_lkey (m : Make) : D.okd deep m.lkey = true := by
  show D.okd (36 + 4) m.lkey = true
  simp only [Make.lkey, D.okd, D.okds, okds_marks, Bool.and_self]
theorem ltv_lkey (m o : Make) : D.ltv m.lkey o.lkey = some (m.lt o) := by
  simp only [Make.lkey, D.ltv, D.ltvs, D.eqv, eqvs_marks, ltvs_marks]
  rw [Make.lt_eq]
  unfold Make.ltN
  simp only [cast_beq, cast_lt, decide_eq_true_iff]
  by_cases h1 : m.a = o.a <;> by_cases h2 : m.b = o.b <;> by_cases h3 : m.c = o.c <;> by_cases h4 : m.ms = [] <;> by_cases h5 : o.ms = [] <;> by_cases h6 : m.ms = o.ms <;> simp_all [ltM, ltM_irr]
theorem lkeyM : KeyM Make.lkey := ⟨ltv_lkey, okd_lkey, fun _ => rfl⟩
theorem law_key_ok {G : Gam} (hf : List.lookup (Str.ofString "_law_key") G.fns = some c__law_key) (m : Make) (hl : m.sm) (n : Nat) (S : Store) : callF G (n + 1) "_law_key" [m.d] S = .ok (m.lkey, S) := by
  have hl' : m.ms.length ≤ 1000 := hl
  have i3 : ∀ S, idxD S m.d (.int 3) = some (.tup (m.ms.map Mark.d)) := fun S => rfl
  have i0 : ∀ S, idxD S m.d (.int 0) = some (.int m.a) := fun S => rfl
  have i1 : ∀ S, idxD S m.d (.int 1) = some (.int m.b) := fun S => rfl
  have i2 : ∀ S, idxD S m.d (.int 2) = some (.int m.c) := fun S => rfl
  have ex : ∃ r', execs (G.cfg n) c__law_key.body (startE 3 [m.d]) S = .ok ((.rt (.tup [.int m.a, .int m.b, .int m.c, .int (if m.ms = [] then 1 else 0), .ref S.length]), r'), S ++ [.lst (m.ms.map Mark.key)]) := by
    refine ret_step (r1 := [some m.d, some (.ref S.length), none]) (S1 := S ++ [.lst []]) ?_ ?_
    · simp only [Rf.execs, Rf.execS, evalE, evalEs, evalO, evalT, evalL, evalC, evalI, bd_k, of_some, startE, bindT, wipeT, List.map_cons, List.map_nil, List.length_cons, List.length_nil, List.replicate, List.cons_append, List.nil_append, List.getElem?_cons_zero, List.getElem?_cons_succ, List.set_cons_zero, List.set_cons_succ, Option.map_some, Option.map_none, Option.bind_some, Option.bind_none, cmp_eq_int, cmp_ne_int, cmp_eq_str, cmp_ne_str, cmp_eq_bl, cmp_ne_bl, cmp_lt_int, cmp_le_int, cmp_gt_int, cmp_ge_int, cmp_is_non, cmp_is_int, cmp_is_tup, cmp_isn_non, cmp_isn_int, cmp_isn_tup, cmp_is_bl, cmp_isn_bl, cmp_in_str, isi_bl, isi_int, isi_str, isi_tup, isi_lst, isi_non, truth_bl, len_tup, len_lst, len_fro, idx_tup, idx_lst, idx_fro, isStr, seqI_str, seqI_tup, seqI_lst, decide_true, decide_false, if_true, if_false, ↓reduceIte, eq_self, Bool.false_eq_true, Bool.true_or, Bool.or_true, Bool.false_or, Bool.or_false, Bool.true_and, Bool.and_true, Bool.false_and, Bool.and_false, Bool.not_true, Bool.not_false, reduceCtorEq, and_self, and_true, true_and, ite_self, size16, Nat.reduceAdd, Nat.reduceLeDiff, Nat.zero_le]; try rfl
    obtain ⟨r', S', h, v2, hr, hS⟩ := exec_for_ix (c := G.cfg n) (tg := .nm 2) (it := .seq (.idx (.var 0) (.int 3))) (b := c__law_key_b0) (S := S ++ [.lst []]) (r := [some m.d, some (.ref S.length), none])
      m.ms Mark.d (w := fun _ => true) (fun i r' S' => ∃ v2, r' = [some m.d, some (.ref S.length), v2] ∧ S' = S ++ [.lst ((m.ms.take i).map Mark.key)])
      (by simp only [Rf.execs, Rf.execS, evalE, evalEs, evalO, evalT, evalL, evalC, evalI, bd_k, of_some, startE, bindT, wipeT, List.map_cons, List.map_nil, List.length_cons, List.length_nil, List.replicate, List.cons_append, List.nil_append, List.getElem?_cons_zero, List.getElem?_cons_succ, List.set_cons_zero, List.set_cons_succ, Option.map_some, Option.map_none, Option.bind_some, Option.bind_none, cmp_eq_int, cmp_ne_int, cmp_eq_str, cmp_ne_str, cmp_eq_bl, cmp_ne_bl, cmp_lt_int, cmp_le_int, cmp_gt_int, cmp_ge_int, cmp_is_non, cmp_is_int, cmp_is_tup, cmp_isn_non, cmp_isn_int, cmp_isn_tup, cmp_is_bl, cmp_isn_bl, cmp_in_str, isi_bl, isi_int, isi_str, isi_tup, isi_lst, isi_non, truth_bl, len_tup, len_lst, len_fro, idx_tup, idx_lst, idx_fro, isStr, seqI_str, seqI_tup, seqI_lst, decide_true, decide_false, if_true, if_false, ↓reduceIte, eq_self, Bool.false_eq_true, Bool.true_or, Bool.or_true, Bool.false_or, Bool.or_false, Bool.true_and, Bool.and_true, Bool.false_and, Bool.and_false, Bool.not_true, Bool.not_false, reduceCtorEq, and_self, and_true, true_and, ite_self, size16, Nat.reduceAdd, Nat.reduceLeDiff, Nat.zero_le, i3]) (fun _ _ _ _ => rfl) (fun i hi r1 S1 hI => by
        obtain ⟨v2, rfl, rfl⟩ := hI
        have ap := fun y => app_end S ((m.ms.take i).map Mark.key) y (by rw [size16, List.length_map, List.length_take]; omega)
        have e : (m.ms.take (i + 1)).map Mark.key = (m.ms.take i).map Mark.key ++ [(m.ms[i]).key] := by
          rw [List.take_succ_eq_append_getElem hi, List.map_append]; rfl
        refine ⟨_, rfl, [some m.d, some (.ref S.length), some (m.ms[i]).d], S ++ [.lst ((m.ms.take (i + 1)).map Mark.key)], ?_, _, rfl, rfl⟩
        rw [e]
        cases hq : m.ms[i] with
        | n k =>
          simp only [c__law_key_b0, Rf.execs, Rf.execS, evalE, evalEs, evalO, evalT, evalL, evalC, evalI, bd_k, of_some, startE, bindT, wipeT, List.map_cons, List.map_nil, List.length_cons, List.length_nil, List.replicate, List.cons_append, List.nil_append, List.getElem?_cons_zero, List.getElem?_cons_succ, List.set_cons_zero, List.set_cons_succ, Option.map_some, Option.map_none, Option.bind_some, Option.bind_none, cmp_eq_int, cmp_ne_int, cmp_eq_str, cmp_ne_str, cmp_eq_bl, cmp_ne_bl, cmp_lt_int, cmp_le_int, cmp_gt_int, cmp_ge_int, cmp_is_non, cmp_is_int, cmp_is_tup, cmp_isn_non, cmp_isn_int, cmp_isn_tup, cmp_is_bl, cmp_isn_bl, cmp_in_str, isi_bl, isi_int, isi_str, isi_tup, isi_lst, isi_non, truth_bl, len_tup, len_lst, len_fro, idx_tup, idx_lst, idx_fro, isStr, seqI_str, seqI_tup, seqI_lst, decide_true, decide_false, if_true, if_false, ↓reduceIte, eq_self, Bool.false_eq_true, Bool.true_or, Bool.or_true, Bool.false_or, Bool.or_false, Bool.true_and, Bool.and_true, Bool.false_and, Bool.and_false, Bool.not_true, Bool.not_false, reduceCtorEq, and_self, and_true, true_and, ite_self, size16, Nat.reduceAdd, Nat.reduceLeDiff, Nat.zero_le, Mark.d, show ("int" == "str" : Bool) = false from by decide, show ("str" == "int" : Bool) = false from by decide, isMut_end, nil_eq, Mark.key, ap]
        | s cs =>
          simp only [c__law_key_b0, Rf.execs, Rf.execS, evalE, evalEs, evalO, evalT, evalL, evalC, evalI, bd_k, of_some, startE, bindT, wipeT, List.map_cons, List.map_nil, List.length_cons, List.length_nil, List.replicate, List.cons_append, List.nil_append, List.getElem?_cons_zero, List.getElem?_cons_succ, List.set_cons_zero, List.set_cons_succ, Option.map_some, Option.map_none, Option.bind_some, Option.bind_none, cmp_eq_int, cmp_ne_int, cmp_eq_str, cmp_ne_str, cmp_eq_bl, cmp_ne_bl, cmp_lt_int, cmp_le_int, cmp_gt_int, cmp_ge_int, cmp_is_non, cmp_is_int, cmp_is_tup, cmp_isn_non, cmp_isn_int, cmp_isn_tup, cmp_is_bl, cmp_isn_bl, cmp_in_str, isi_bl, isi_int, isi_str, isi_tup, isi_lst, isi_non, truth_bl, len_tup, len_lst, len_fro, idx_tup, idx_lst, idx_fro, isStr, seqI_str, seqI_tup, seqI_lst, decide_true, decide_false, if_true, if_false, ↓reduceIte, eq_self, Bool.false_eq_true, Bool.true_or, Bool.or_true, Bool.false_or, Bool.or_false, Bool.true_and, Bool.and_true, Bool.false_and, Bool.and_false, Bool.not_true, Bool.not_false, reduceCtorEq, and_self, and_true, true_and, ite_self, size16, Nat.reduceAdd, Nat.reduceLeDiff, Nat.zero_le, Mark.d, beq_self_eq_true, isMut_end, Mark.key, ap]) ⟨none, rfl, rfl⟩
    subst hr
    rw [List.take_length] at hS
    subst hS
    refine ret_step h ?_
    have bi : ∀ S k, biD .int S [.bl k] = some (.int (if k then 1 else 0)) := fun S k => rfl
    have me := marks_eq_nil (S ++ [.lst (m.ms.map Mark.key)]) m.ms
    by_cases q : m.ms = []
    · have d1 : decide (m.ms = []) = true := decide_eq_true q
      rw [d1] at me
      rw [if_pos q]
      exact ⟨_, by simp only [Rf.execs, Rf.execS, evalE, evalEs, evalO, evalT, evalL, evalC, evalI, bd_k, of_some, startE, bindT, wipeT, List.map_cons, List.map_nil, List.length_cons, List.length_nil, List.replicate, List.cons_append, List.nil_append, List.getElem?_cons_zero, List.getElem?_cons_succ, List.set_cons_zero, List.set_cons_succ, Option.map_some, Option.map_none, Option.bind_some, Option.bind_none, cmp_eq_int, cmp_ne_int, cmp_eq_str, cmp_ne_str, cmp_eq_bl, cmp_ne_bl, cmp_lt_int, cmp_le_int, cmp_gt_int, cmp_ge_int, cmp_is_non, cmp_is_int, cmp_is_tup, cmp_isn_non, cmp_isn_int, cmp_isn_tup, cmp_is_bl, cmp_isn_bl, cmp_in_str, isi_bl, isi_int, isi_str, isi_tup, isi_lst, isi_non, truth_bl, len_tup, len_lst, len_fro, idx_tup, idx_lst, idx_fro, isStr, seqI_str, seqI_tup, seqI_lst, decide_true, decide_false, if_true, if_false, ↓reduceIte, eq_self, Bool.false_eq_true, Bool.true_or, Bool.or_true, Bool.false_or, Bool.or_false, Bool.true_and, Bool.and_true, Bool.false_and, Bool.and_false, Bool.not_true, Bool.not_false, reduceCtorEq, and_self, and_true, true_and, ite_self, size16, Nat.reduceAdd, Nat.reduceLeDiff, Nat.zero_le, i0, i1, i2, i3, me, bi]; rfl⟩
    · have d1 : decide (m.ms = []) = false := decide_eq_false q
      rw [d1] at me
      rw [if_neg q]
      exact ⟨_, by simp only [Rf.execs, Rf.execS, evalE, evalEs, evalO, evalT, evalL, evalC, evalI, bd_k, of_some, startE, bindT, wipeT, List.map_cons, List.map_nil, List.length_cons, List.length_nil, List.replicate, List.cons_append, List.nil_append, List.getElem?_cons_zero, List.getElem?_cons_succ, List.set_cons_zero, List.set_cons_succ, Option.map_some, Option.map_none, Option.bind_some, Option.bind_none, cmp_eq_int, cmp_ne_int, cmp_eq_str, cmp_ne_str, cmp_eq_bl, cmp_ne_bl, cmp_lt_int, cmp_le_int, cmp_gt_int, cmp_ge_int, cmp_is_non, cmp_is_int, cmp_is_tup, cmp_isn_non, cmp_isn_int, cmp_isn_tup, cmp_is_bl, cmp_isn_bl, cmp_in_str, isi_bl, isi_int, isi_str, isi_tup, isi_lst, isi_non, truth_bl, len_tup, len_lst, len_fro, idx_tup, idx_lst, idx_fro, isStr, seqI_str, seqI_tup, seqI_lst, decide_true, decide_false, if_true, if_false, ↓reduceIte, eq_self, Bool.false_eq_true, Bool.true_or, Bool.or_true, Bool.false_or, Bool.or_false, Bool.true_and, Bool.and_true, Bool.false_and, Bool.and_false, Bool.not_true, Bool.not_false, reduceCtorEq, and_self, and_true, true_and, ite_self, size16, Nat.reduceAdd, Nat.reduceLeDiff, Nat.zero_le, i0, i1, i2, i3, me, bi]; rfl⟩
  obtain ⟨r', ex⟩ := ex
  refine callF_eq hf rfl (by decide) ex rfl ?_
  show freeze S (S ++ [.lst (m.ms.map Mark.key)]) _ = _
  unfold freeze
  have pk : D.purs (m.ms.map Mark.key) = true := D.purs_map _ Mark.key_pur _
  have hz : fzr (S ++ [.lst (m.ms.map Mark.key)]) S.length 4 S.length = some (.lst (m.ms.map Mark.key)) := by
    rw [fzr, if_neg (by omega), List.getElem?_append_right (by omega), Nat.sub_self]
    show (D.mapRs _ (m.ms.map Mark.key)).map D.lst = _
    rw [D.mapRs_purs _ pk]; rfl
  rw [if_pos (by simp)]
  simp only [D.mapR, D.mapRs, hz, Option.map_some]
  rfl

theorem okdE_opt (n : Nat) (o : Option Make) : D.okd (n + 3) (optD o) = true := by
  cases o with
  | none => rfl
  | some m => exact m.okd n
theorem okdE_piece (n : Nat) (p : Piece) : D.okd (n + 4) p.d = true := by
  simp only [Piece.d, D.okd, D.okds, Make.okd, okdE_opt, Bool.and_self]
theorem okdsE_pieces (n : Nat) : ∀ l : List Piece, D.okds (n + 4) (l.map Piece.d) = true
  | [] => by rw [List.map_nil, D.okds]
  | p :: r => by rw [List.map_cons, D.okds, okdE_piece, okdsE_pieces n r]; rfl
theorem okdE_span (n : Nat) (s : List Piece) : D.okd (n + 5) (spanD s) = true := by
  unfold spanD
  rw [D.okd, okdsE_pieces]
theorem hd_eq (S : Store) (e : En) (x : Str) (m : Make) : cmpD S .Eq e.hd (.tup [.str x, m.d]) = some (decide (e.x = x ∧ e.m = m)) := by
  have k := En.hd_eqv e ⟨x, m, []⟩
  have o1 := e.hd_okd
  have o2 := (En.mk x m []).hd_okd
  show (if D.okd deep e.hd && D.okd deep (En.mk x m []).hd then some (D.eqv e.hd (En.mk x m []).hd) else none) = _
  rw [o1, o2, k]; rfl
theorem en_at0 (S : Store) (e : En) : idxD S e.d (.int 0) = some (.str e.x) := rfl
theorem en_at1 (S : Store) (e : En) : idxD S e.d (.int 1) = some e.m.d := rfl
theorem en_at2 (S : Store) (e : En) : idxD S e.d (.int 2) = some (.tup (e.ns.map Nd.d)) := rfl

def mkS (es : List En) (x : Str) : List Make := (es.filter fun e => decide (e.x = x)).map En.m
theorem makes_of_ok {G : Gam} (F : FNew G) (hf : List.lookup (Str.ofString "makes_of") G.fns = some c_makes_of) (es : List En) (hl : es.length ≤ 100) (hs : ∀ e ∈ es, e.m.sm) (x : Str) (n : Nat) (S : Store) :
    callF G (n + 4) "makes_of" [.tup (es.map En.d), .str x] S = .ok (.ref S.length, S ++ [.lst ((descM (mkS es x)).map Make.d)]) := by
  have sm : ∀ m ∈ mkS es x, m.sm := fun m hm => by
    obtain ⟨e, he, rfl⟩ := List.mem_map.mp hm
    exact hs e ((List.mem_filter.mp he).1)
  have l0 : evalL (G.cfg (n + 3)) c_makes_of_l0 [some (.tup (es.map En.d)), some (.str x), none] S = .ok ((mkS es x).map Make.d, S) := by
    have e : (mkS es x).map Make.d = (es.filter fun e => decide (e.x = x)).map fun e => e.m.d := by unfold mkS; rw [List.map_map]; rfl
    rw [e]
    exact eval_compF es En.d _ _ (by simp only [Rf.execs, Rf.execS, evalE, evalEs, evalO, evalT, evalL, evalC, evalI, bd_k, of_some, startE, bindT, wipeT, List.map_cons, List.map_nil, List.length_cons, List.length_nil, List.replicate, List.cons_append, List.nil_append, List.getElem?_cons_zero, List.getElem?_cons_succ, List.set_cons_zero, List.set_cons_succ, Option.map_some, Option.map_none, Option.bind_some, Option.bind_none, cmp_eq_int, cmp_ne_int, cmp_eq_str, cmp_ne_str, cmp_eq_bl, cmp_ne_bl, cmp_lt_int, cmp_le_int, cmp_gt_int, cmp_ge_int, cmp_is_non, cmp_is_int, cmp_is_tup, cmp_isn_non, cmp_isn_int, cmp_isn_tup, cmp_is_bl, cmp_isn_bl, cmp_in_str, isi_bl, isi_int, isi_str, isi_tup, isi_lst, isi_non, truth_bl, len_tup, len_lst, len_fro, idx_tup, idx_lst, idx_fro, isStr, seqI_str, seqI_tup, seqI_lst, decide_true, decide_false, if_true, if_false, ↓reduceIte, eq_self, Bool.false_eq_true, Bool.true_or, Bool.or_true, Bool.false_or, Bool.or_false, Bool.true_and, Bool.and_true, Bool.false_and, Bool.and_false, Bool.not_true, Bool.not_false, reduceCtorEq, and_self, and_true, true_and, ite_self, size16, Nat.reduceAdd, Nat.reduceLeDiff, Nat.zero_le]) (by rw [size16]; omega) fun o ho => ⟨_, rfl, by simp only [Rf.execs, Rf.execS, evalE, evalEs, evalO, evalT, evalL, evalC, evalI, bd_k, of_some, startE, bindT, wipeT, List.map_cons, List.map_nil, List.length_cons, List.length_nil, List.replicate, List.cons_append, List.nil_append, List.getElem?_cons_zero, List.getElem?_cons_succ, List.set_cons_zero, List.set_cons_succ, Option.map_some, Option.map_none, Option.bind_some, Option.bind_none, cmp_eq_int, cmp_ne_int, cmp_eq_str, cmp_ne_str, cmp_eq_bl, cmp_ne_bl, cmp_lt_int, cmp_le_int, cmp_gt_int, cmp_ge_int, cmp_is_non, cmp_is_int, cmp_is_tup, cmp_isn_non, cmp_isn_int, cmp_isn_tup, cmp_is_bl, cmp_isn_bl, cmp_in_str, isi_bl, isi_int, isi_str, isi_tup, isi_lst, isi_non, truth_bl, len_tup, len_lst, len_fro, idx_tup, idx_lst, idx_fro, isStr, seqI_str, seqI_tup, seqI_lst, decide_true, decide_false, if_true, if_false, ↓reduceIte, eq_self, Bool.false_eq_true, Bool.true_or, Bool.or_true, Bool.false_or, Bool.or_false, Bool.true_and, Bool.and_true, Bool.false_and, Bool.and_false, Bool.not_true, Bool.not_false, reduceCtorEq, and_self, and_true, true_and, ite_self, size16, Nat.reduceAdd, Nat.reduceLeDiff, Nat.zero_le, en_at0], fun _ => by simp only [Rf.execs, Rf.execS, evalE, evalEs, evalO, evalT, evalL, evalC, evalI, bd_k, of_some, startE, bindT, wipeT, List.map_cons, List.map_nil, List.length_cons, List.length_nil, List.replicate, List.cons_append, List.nil_append, List.getElem?_cons_zero, List.getElem?_cons_succ, List.set_cons_zero, List.set_cons_succ, Option.map_some, Option.map_none, Option.bind_some, Option.bind_none, cmp_eq_int, cmp_ne_int, cmp_eq_str, cmp_ne_str, cmp_eq_bl, cmp_ne_bl, cmp_lt_int, cmp_le_int, cmp_gt_int, cmp_ge_int, cmp_is_non, cmp_is_int, cmp_is_tup, cmp_isn_non, cmp_isn_int, cmp_isn_tup, cmp_is_bl, cmp_isn_bl, cmp_in_str, isi_bl, isi_int, isi_str, isi_tup, isi_lst, isi_non, truth_bl, len_tup, len_lst, len_fro, idx_tup, idx_lst, idx_fro, isStr, seqI_str, seqI_tup, seqI_lst, decide_true, decide_false, if_true, if_false, ↓reduceIte, eq_self, Bool.false_eq_true, Bool.true_or, Bool.or_true, Bool.false_or, Bool.or_false, Bool.true_and, Bool.and_true, Bool.false_and, Bool.and_false, Bool.not_true, Bool.not_false, reduceCtorEq, and_self, and_true, true_and, ite_self, size16, Nat.reduceAdd, Nat.reduceLeDiff, Nat.zero_le, en_at1]⟩
  have nf := cfg_ok (newest_first_ok F (mkS es x) sm (.lst ((mkS es x).map Make.d)) n S rfl)
  have ex : ∃ r', execs (G.cfg (n + 3)) c_makes_of.body (startE 3 [.tup (es.map En.d), .str x]) S = .ok ((.rt (.ref S.length), r'), S ++ [.lst ((descM (mkS es x)).map Make.d)]) := by
    show ∃ r', execs (G.cfg (n + 3)) c_makes_of.body [some (.tup (es.map En.d)), some (.str x), none] S = _
    exact ⟨_, by simp only [c_makes_of, Rf.execs, Rf.execS, evalE, evalEs, evalO, evalT, evalL, evalC, evalI, bd_k, of_some, startE, bindT, wipeT, List.map_cons, List.map_nil, List.length_cons, List.length_nil, List.replicate, List.cons_append, List.nil_append, List.getElem?_cons_zero, List.getElem?_cons_succ, List.set_cons_zero, List.set_cons_succ, Option.map_some, Option.map_none, Option.bind_some, Option.bind_none, cmp_eq_int, cmp_ne_int, cmp_eq_str, cmp_ne_str, cmp_eq_bl, cmp_ne_bl, cmp_lt_int, cmp_le_int, cmp_gt_int, cmp_ge_int, cmp_is_non, cmp_is_int, cmp_is_tup, cmp_isn_non, cmp_isn_int, cmp_isn_tup, cmp_is_bl, cmp_isn_bl, cmp_in_str, isi_bl, isi_int, isi_str, isi_tup, isi_lst, isi_non, truth_bl, len_tup, len_lst, len_fro, idx_tup, idx_lst, idx_fro, isStr, seqI_str, seqI_tup, seqI_lst, decide_true, decide_false, if_true, if_false, ↓reduceIte, eq_self, Bool.false_eq_true, Bool.true_or, Bool.or_true, Bool.false_or, Bool.or_false, Bool.true_and, Bool.and_true, Bool.false_and, Bool.and_false, Bool.not_true, Bool.not_false, reduceCtorEq, and_self, and_true, true_and, ite_self, size16, Nat.reduceAdd, Nat.reduceLeDiff, Nat.zero_le, l0, nf]; rfl⟩
  obtain ⟨r', ex⟩ := ex
  refine callF_eq hf rfl (by decide) ex rfl ?_
  exact fin_keep (fd := c_makes_of) rfl (S := S) [.lst ((descM (mkS es x)).map Make.d)] (j := 0) (D.purs_map _ Make.pur _) rfl
def ndsAt (es : List En) (x : Str) (m : Make) : List Nd := es.foldl (fun s o => if o.x = x ∧ o.m = m then o.ns else s) []
theorem ndsAt_gen (x : Str) (m : Make) : ∀ (es : List En) (s : List Nd) (e : En), es.Pairwise (fun a b => ¬ a.same b) → e ∈ es → e.x = x → e.m = m → es.foldl (fun s o => if o.x = x ∧ o.m = m then o.ns else s) s = e.ns
  | [], _, _, _, h, _, _ => by cases h
  | a :: r, s, e, pw, h, h1, h2 => by
    have pw' := List.pairwise_cons.mp pw
    rw [List.foldl_cons]
    rcases List.mem_cons.mp h with rfl | h
    · rw [if_pos ⟨h1, h2⟩]
      have no : ∀ (l : List En) (s : List Nd), (∀ o ∈ l, ¬ e.same o) → l.foldl (fun s o => if o.x = x ∧ o.m = m then o.ns else s) s = s := fun l => by
        induction l with
        | nil => intro s _; rfl
        | cons o l ih =>
          intro s k
          rw [List.foldl_cons, if_neg (fun q => k o (by simp) ⟨h1.trans q.1.symm, h2.trans q.2.symm⟩)]
          exact ih s fun u hu => k u (by simp [hu])
      exact no r e.ns pw'.1
    · exact ndsAt_gen x m r _ e pw'.2 h h1 h2
theorem needs_of_ok {G : Gam} (hf : List.lookup (Str.ofString "needs_of") G.fns = some c_needs_of) (es : List En) (x : Str) (m : Make) (n : Nat) (S : Store) :
    callF G (n + 1) "needs_of" [.tup (es.map En.d), .str x, m.d] S = .ok (.tup ((ndsAt es x m).map Nd.d), S) := by
  refine callF_pur0 hf rfl (by decide) (by rw [D.pur, D.purs_map _ Nd.pur]) ?_
  refine ret_step (r1 := [some (.tup (es.map En.d)), some (.str x), some m.d, some (.tup []), none]) (S1 := S) ?_ ?_
  · simp only [Rf.execs, Rf.execS, evalE, evalEs, evalO, evalT, evalL, evalC, evalI, bd_k, of_some, startE, bindT, wipeT, List.map_cons, List.map_nil, List.length_cons, List.length_nil, List.replicate, List.cons_append, List.nil_append, List.getElem?_cons_zero, List.getElem?_cons_succ, List.set_cons_zero, List.set_cons_succ, Option.map_some, Option.map_none, Option.bind_some, Option.bind_none, cmp_eq_int, cmp_ne_int, cmp_eq_str, cmp_ne_str, cmp_eq_bl, cmp_ne_bl, cmp_lt_int, cmp_le_int, cmp_gt_int, cmp_ge_int, cmp_is_non, cmp_is_int, cmp_is_tup, cmp_isn_non, cmp_isn_int, cmp_isn_tup, cmp_is_bl, cmp_isn_bl, cmp_in_str, isi_bl, isi_int, isi_str, isi_tup, isi_lst, isi_non, truth_bl, len_tup, len_lst, len_fro, idx_tup, idx_lst, idx_fro, isStr, seqI_str, seqI_tup, seqI_lst, decide_true, decide_false, if_true, if_false, ↓reduceIte, eq_self, Bool.false_eq_true, Bool.true_or, Bool.or_true, Bool.false_or, Bool.or_false, Bool.true_and, Bool.and_true, Bool.false_and, Bool.and_false, Bool.not_true, Bool.not_false, reduceCtorEq, and_self, and_true, true_and, ite_self, size16, Nat.reduceAdd, Nat.reduceLeDiff, Nat.zero_le]; try rfl
  obtain ⟨r', S', h, v4, hr, hS⟩ := exec_for (c := G.cfg n) (tg := .nm 4) (it := .seq (.var 0)) (b := c_needs_of_b0) (S := S) (r := [some (.tup (es.map En.d)), some (.str x), some m.d, some (.tup []), none])
    es En.d (w := fun _ => true) (fun (s : List Nd) r' S' => ∃ v4, r' = [some (.tup (es.map En.d)), some (.str x), some m.d, some (.tup (s.map Nd.d)), v4] ∧ S' = S) (fun s o => if o.x = x ∧ o.m = m then o.ns else s) []
    (by simp only [Rf.execs, Rf.execS, evalE, evalEs, evalO, evalT, evalL, evalC, evalI, bd_k, of_some, startE, bindT, wipeT, List.map_cons, List.map_nil, List.length_cons, List.length_nil, List.replicate, List.cons_append, List.nil_append, List.getElem?_cons_zero, List.getElem?_cons_succ, List.set_cons_zero, List.set_cons_succ, Option.map_some, Option.map_none, Option.bind_some, Option.bind_none, cmp_eq_int, cmp_ne_int, cmp_eq_str, cmp_ne_str, cmp_eq_bl, cmp_ne_bl, cmp_lt_int, cmp_le_int, cmp_gt_int, cmp_ge_int, cmp_is_non, cmp_is_int, cmp_is_tup, cmp_isn_non, cmp_isn_int, cmp_isn_tup, cmp_is_bl, cmp_isn_bl, cmp_in_str, isi_bl, isi_int, isi_str, isi_tup, isi_lst, isi_non, truth_bl, len_tup, len_lst, len_fro, idx_tup, idx_lst, idx_fro, isStr, seqI_str, seqI_tup, seqI_lst, decide_true, decide_false, if_true, if_false, ↓reduceIte, eq_self, Bool.false_eq_true, Bool.true_or, Bool.or_true, Bool.false_or, Bool.or_false, Bool.true_and, Bool.and_true, Bool.false_and, Bool.and_false, Bool.not_true, Bool.not_false, reduceCtorEq, and_self, and_true, true_and, ite_self, size16, Nat.reduceAdd, Nat.reduceLeDiff, Nat.zero_le]) (fun _ _ _ _ => rfl) (fun o ho s r1 S1 hI => by
      obtain ⟨v4, rfl, rfl⟩ := hI
      have he := hd_eq S1 o x m
      refine ⟨_, rfl, [some (.tup (es.map En.d)), some (.str x), some m.d, some (.tup ((if o.x = x ∧ o.m = m then o.ns else s).map Nd.d)), some o.d], S1, ?_, _, rfl, rfl⟩
      by_cases q : o.x = x ∧ o.m = m
      · rw [decide_eq_true q] at he
        rw [if_pos q]
        simp only [c_needs_of_b0, Rf.execs, Rf.execS, evalE, evalEs, evalO, evalT, evalL, evalC, evalI, bd_k, of_some, startE, bindT, wipeT, List.map_cons, List.map_nil, List.length_cons, List.length_nil, List.replicate, List.cons_append, List.nil_append, List.getElem?_cons_zero, List.getElem?_cons_succ, List.set_cons_zero, List.set_cons_succ, Option.map_some, Option.map_none, Option.bind_some, Option.bind_none, cmp_eq_int, cmp_ne_int, cmp_eq_str, cmp_ne_str, cmp_eq_bl, cmp_ne_bl, cmp_lt_int, cmp_le_int, cmp_gt_int, cmp_ge_int, cmp_is_non, cmp_is_int, cmp_is_tup, cmp_isn_non, cmp_isn_int, cmp_isn_tup, cmp_is_bl, cmp_isn_bl, cmp_in_str, isi_bl, isi_int, isi_str, isi_tup, isi_lst, isi_non, truth_bl, len_tup, len_lst, len_fro, idx_tup, idx_lst, idx_fro, isStr, seqI_str, seqI_tup, seqI_lst, decide_true, decide_false, if_true, if_false, ↓reduceIte, eq_self, Bool.false_eq_true, Bool.true_or, Bool.or_true, Bool.false_or, Bool.or_false, Bool.true_and, Bool.and_true, Bool.false_and, Bool.and_false, Bool.not_true, Bool.not_false, reduceCtorEq, and_self, and_true, true_and, ite_self, size16, Nat.reduceAdd, Nat.reduceLeDiff, Nat.zero_le, en_slc2, he, en_at2]
      · rw [decide_eq_false q] at he
        rw [if_neg q]
        simp only [c_needs_of_b0, Rf.execs, Rf.execS, evalE, evalEs, evalO, evalT, evalL, evalC, evalI, bd_k, of_some, startE, bindT, wipeT, List.map_cons, List.map_nil, List.length_cons, List.length_nil, List.replicate, List.cons_append, List.nil_append, List.getElem?_cons_zero, List.getElem?_cons_succ, List.set_cons_zero, List.set_cons_succ, Option.map_some, Option.map_none, Option.bind_some, Option.bind_none, cmp_eq_int, cmp_ne_int, cmp_eq_str, cmp_ne_str, cmp_eq_bl, cmp_ne_bl, cmp_lt_int, cmp_le_int, cmp_gt_int, cmp_ge_int, cmp_is_non, cmp_is_int, cmp_is_tup, cmp_isn_non, cmp_isn_int, cmp_isn_tup, cmp_is_bl, cmp_isn_bl, cmp_in_str, isi_bl, isi_int, isi_str, isi_tup, isi_lst, isi_non, truth_bl, len_tup, len_lst, len_fro, idx_tup, idx_lst, idx_fro, isStr, seqI_str, seqI_tup, seqI_lst, decide_true, decide_false, if_true, if_false, ↓reduceIte, eq_self, Bool.false_eq_true, Bool.true_or, Bool.or_true, Bool.false_or, Bool.or_false, Bool.true_and, Bool.and_true, Bool.false_and, Bool.and_false, Bool.not_true, Bool.not_false, reduceCtorEq, and_self, and_true, true_and, ite_self, size16, Nat.reduceAdd, Nat.reduceLeDiff, Nat.zero_le, en_slc2, he]) ⟨none, rfl, rfl⟩
  subst hr hS
  refine ret_step h ?_
  exact ⟨_, by simp only [Rf.execs, Rf.execS, evalE, evalEs, evalO, evalT, evalL, evalC, evalI, bd_k, of_some, startE, bindT, wipeT, List.map_cons, List.map_nil, List.length_cons, List.length_nil, List.replicate, List.cons_append, List.nil_append, List.getElem?_cons_zero, List.getElem?_cons_succ, List.set_cons_zero, List.set_cons_succ, Option.map_some, Option.map_none, Option.bind_some, Option.bind_none, cmp_eq_int, cmp_ne_int, cmp_eq_str, cmp_ne_str, cmp_eq_bl, cmp_ne_bl, cmp_lt_int, cmp_le_int, cmp_gt_int, cmp_ge_int, cmp_is_non, cmp_is_int, cmp_is_tup, cmp_isn_non, cmp_isn_int, cmp_isn_tup, cmp_is_bl, cmp_isn_bl, cmp_in_str, isi_bl, isi_int, isi_str, isi_tup, isi_lst, isi_non, truth_bl, len_tup, len_lst, len_fro, idx_tup, idx_lst, idx_fro, isStr, seqI_str, seqI_tup, seqI_lst, decide_true, decide_false, if_true, if_false, ↓reduceIte, eq_self, Bool.false_eq_true, Bool.true_or, Bool.or_true, Bool.false_or, Bool.or_false, Bool.true_and, Bool.and_true, Bool.false_and, Bool.and_false, Bool.not_true, Bool.not_false, reduceCtorEq, and_self, and_true, true_and, ite_self, size16, Nat.reduceAdd, Nat.reduceLeDiff, Nat.zero_le]; rfl⟩
end Rf


namespace Rf
open PySem L2 Cr
theorem lkey_lt (S : Store) (m o : Make) : cmpD S .Lt m.lkey o.lkey = some (m.lt o) := by
  show (if D.okd deep m.lkey && D.okd deep o.lkey then D.ltv m.lkey o.lkey else none) = _
  rw [okd_lkey, okd_lkey, ltv_lkey]; rfl
theorem law_lies_ok {G : Gam} (hk : List.lookup (Str.ofString "_law_key") G.fns = some c__law_key) (hf : List.lookup (Str.ofString "_law_lies") G.fns = some c__law_lies) (m : Make) (s : List Piece) (hm : m.sm) (hs : ∀ p ∈ s, p.sm) (n : Nat) (S : Store) :
    callF G (n + 2) "_law_lies" [m.d, spanD s] S = .ok (.bl (hasS s m), S) := by
  refine callF_pur0 hf rfl (by decide) rfl ?_
  have L := exec_for_lp (c := G.cfg (n + 1)) (tg := .tp [2, 3]) (it := .seq (.var 1)) (b := c__law_lies_b0) (S := S) (r := [some m.d, some (spanD s), none, none])
    s Piece.d (w := fun _ => true) (fun (_ : Unit) r' S' => S' = S ∧ ∃ v2 v3, r' = [some m.d, some (spanD s), v2, v3]) (fun (_ : Unit) d _ S' => d = .bl true ∧ S' = S) (fun _ p => if p.has m = true then .inr () else .inl ()) ()
    (by simp only [Rf.execs, Rf.execS, evalE, evalEs, evalO, evalT, evalL, evalC, evalI, bd_k, of_some, startE, bindT, wipeT, List.map_cons, List.map_nil, List.length_cons, List.length_nil, List.replicate, List.cons_append, List.nil_append, List.getElem?_cons_zero, List.getElem?_cons_succ, List.set_cons_zero, List.set_cons_succ, Option.map_some, Option.map_none, Option.bind_some, Option.bind_none, cmp_eq_int, cmp_ne_int, cmp_eq_str, cmp_ne_str, cmp_eq_bl, cmp_ne_bl, cmp_lt_int, cmp_le_int, cmp_gt_int, cmp_ge_int, cmp_is_non, cmp_is_int, cmp_is_tup, cmp_isn_non, cmp_isn_int, cmp_isn_tup, cmp_is_bl, cmp_isn_bl, cmp_in_str, isi_bl, isi_int, isi_str, isi_tup, isi_lst, isi_non, truth_bl, len_tup, len_lst, len_fro, idx_tup, idx_lst, idx_fro, isStr, seqI_str, seqI_tup, seqI_lst, decide_true, decide_false, if_true, if_false, ↓reduceIte, eq_self, Bool.false_eq_true, Bool.true_or, Bool.or_true, Bool.false_or, Bool.or_false, Bool.true_and, Bool.and_true, Bool.false_and, Bool.and_false, Bool.not_true, Bool.not_false, reduceCtorEq, and_self, and_true, true_and, ite_self, size16, Nat.reduceAdd, Nat.reduceLeDiff, Nat.zero_le, spanD]) (fun _ _ _ _ => rfl) (fun p hp _ r1 S1 h => by
      obtain ⟨rfl, v2, v3, rfl⟩ := h
      obtain ⟨h1, h2⟩ := hs p hp
      obtain ⟨lo, hi⟩ := p
      simp only at h1 h2
      refine ⟨[some m.d, some (spanD s), some lo.d, some (optD hi)], rfl, ?_⟩
      have k1 := cfg_ok (law_key_ok hk m hm n S1)
      have k2 := cfg_ok (law_key_ok hk lo h1 n S1)
      have c1 := lkey_lt S1 m lo
      cases q : m.lt lo with
      | true =>
        have e : Piece.has ⟨lo, hi⟩ m = false := by unfold Piece.has; rw [q]; rfl
        rw [q] at c1
        rw [e, if_neg (by decide)]
        exact ⟨_, _, by simp only [c__law_lies_b0, Rf.execs, Rf.execS, evalE, evalEs, evalO, evalT, evalL, evalC, evalI, bd_k, of_some, startE, bindT, wipeT, List.map_cons, List.map_nil, List.length_cons, List.length_nil, List.replicate, List.cons_append, List.nil_append, List.getElem?_cons_zero, List.getElem?_cons_succ, List.set_cons_zero, List.set_cons_succ, Option.map_some, Option.map_none, Option.bind_some, Option.bind_none, cmp_eq_int, cmp_ne_int, cmp_eq_str, cmp_ne_str, cmp_eq_bl, cmp_ne_bl, cmp_lt_int, cmp_le_int, cmp_gt_int, cmp_ge_int, cmp_is_non, cmp_is_int, cmp_is_tup, cmp_isn_non, cmp_isn_int, cmp_isn_tup, cmp_is_bl, cmp_isn_bl, cmp_in_str, isi_bl, isi_int, isi_str, isi_tup, isi_lst, isi_non, truth_bl, len_tup, len_lst, len_fro, idx_tup, idx_lst, idx_fro, isStr, seqI_str, seqI_tup, seqI_lst, decide_true, decide_false, if_true, if_false, ↓reduceIte, eq_self, Bool.false_eq_true, Bool.true_or, Bool.or_true, Bool.false_or, Bool.or_false, Bool.true_and, Bool.and_true, Bool.false_and, Bool.and_false, Bool.not_true, Bool.not_false, reduceCtorEq, and_self, and_true, true_and, ite_self, size16, Nat.reduceAdd, Nat.reduceLeDiff, Nat.zero_le, k1, k2, c1]; rfl, rfl, _, _, rfl⟩
      | false =>
        rw [q] at c1
        cases hi with
        | none =>
          have e : Piece.has ⟨lo, none⟩ m = true := by unfold Piece.has; rw [q]; rfl
          rw [e, if_pos rfl]
          exact ⟨_, _, _, by simp only [c__law_lies_b0, Rf.execs, Rf.execS, evalE, evalEs, evalO, evalT, evalL, evalC, evalI, bd_k, of_some, startE, bindT, wipeT, List.map_cons, List.map_nil, List.length_cons, List.length_nil, List.replicate, List.cons_append, List.nil_append, List.getElem?_cons_zero, List.getElem?_cons_succ, List.set_cons_zero, List.set_cons_succ, Option.map_some, Option.map_none, Option.bind_some, Option.bind_none, cmp_eq_int, cmp_ne_int, cmp_eq_str, cmp_ne_str, cmp_eq_bl, cmp_ne_bl, cmp_lt_int, cmp_le_int, cmp_gt_int, cmp_ge_int, cmp_is_non, cmp_is_int, cmp_is_tup, cmp_isn_non, cmp_isn_int, cmp_isn_tup, cmp_is_bl, cmp_isn_bl, cmp_in_str, isi_bl, isi_int, isi_str, isi_tup, isi_lst, isi_non, truth_bl, len_tup, len_lst, len_fro, idx_tup, idx_lst, idx_fro, isStr, seqI_str, seqI_tup, seqI_lst, decide_true, decide_false, if_true, if_false, ↓reduceIte, eq_self, Bool.false_eq_true, Bool.true_or, Bool.or_true, Bool.false_or, Bool.or_false, Bool.true_and, Bool.and_true, Bool.false_and, Bool.and_false, Bool.not_true, Bool.not_false, reduceCtorEq, and_self, and_true, true_and, ite_self, size16, Nat.reduceAdd, Nat.reduceLeDiff, Nat.zero_le, k1, k2, c1, optD]; rfl, rfl, rfl⟩
        | some h =>
          have e : Piece.has ⟨lo, some h⟩ m = m.lt h := by unfold Piece.has; rw [q]; rfl
          have k3 := cfg_ok (law_key_ok hk h (h2 h rfl) n S1)
          have c2 := lkey_lt S1 m h
          rw [e]
          cases q2 : m.lt h with
          | true =>
            rw [q2] at c2
            rw [if_pos rfl]
            exact ⟨_, _, _, by simp only [c__law_lies_b0, Rf.execs, Rf.execS, evalE, evalEs, evalO, evalT, evalL, evalC, evalI, bd_k, of_some, startE, bindT, wipeT, List.map_cons, List.map_nil, List.length_cons, List.length_nil, List.replicate, List.cons_append, List.nil_append, List.getElem?_cons_zero, List.getElem?_cons_succ, List.set_cons_zero, List.set_cons_succ, Option.map_some, Option.map_none, Option.bind_some, Option.bind_none, cmp_eq_int, cmp_ne_int, cmp_eq_str, cmp_ne_str, cmp_eq_bl, cmp_ne_bl, cmp_lt_int, cmp_le_int, cmp_gt_int, cmp_ge_int, cmp_is_non, cmp_is_int, cmp_is_tup, cmp_isn_non, cmp_isn_int, cmp_isn_tup, cmp_is_bl, cmp_isn_bl, cmp_in_str, isi_bl, isi_int, isi_str, isi_tup, isi_lst, isi_non, truth_bl, len_tup, len_lst, len_fro, idx_tup, idx_lst, idx_fro, isStr, seqI_str, seqI_tup, seqI_lst, decide_true, decide_false, if_true, if_false, ↓reduceIte, eq_self, Bool.false_eq_true, Bool.true_or, Bool.or_true, Bool.false_or, Bool.or_false, Bool.true_and, Bool.and_true, Bool.false_and, Bool.and_false, Bool.not_true, Bool.not_false, reduceCtorEq, and_self, and_true, true_and, ite_self, size16, Nat.reduceAdd, Nat.reduceLeDiff, Nat.zero_le, k1, k2, c1, optD, make_is_non, k3, c2]; rfl, rfl, rfl⟩
          | false =>
            rw [q2] at c2
            rw [if_neg (by decide)]
            exact ⟨_, _, by simp only [c__law_lies_b0, Rf.execs, Rf.execS, evalE, evalEs, evalO, evalT, evalL, evalC, evalI, bd_k, of_some, startE, bindT, wipeT, List.map_cons, List.map_nil, List.length_cons, List.length_nil, List.replicate, List.cons_append, List.nil_append, List.getElem?_cons_zero, List.getElem?_cons_succ, List.set_cons_zero, List.set_cons_succ, Option.map_some, Option.map_none, Option.bind_some, Option.bind_none, cmp_eq_int, cmp_ne_int, cmp_eq_str, cmp_ne_str, cmp_eq_bl, cmp_ne_bl, cmp_lt_int, cmp_le_int, cmp_gt_int, cmp_ge_int, cmp_is_non, cmp_is_int, cmp_is_tup, cmp_isn_non, cmp_isn_int, cmp_isn_tup, cmp_is_bl, cmp_isn_bl, cmp_in_str, isi_bl, isi_int, isi_str, isi_tup, isi_lst, isi_non, truth_bl, len_tup, len_lst, len_fro, idx_tup, idx_lst, idx_fro, isStr, seqI_str, seqI_tup, seqI_lst, decide_true, decide_false, if_true, if_false, ↓reduceIte, eq_self, Bool.false_eq_true, Bool.true_or, Bool.or_true, Bool.false_or, Bool.or_false, Bool.true_and, Bool.and_true, Bool.false_and, Bool.and_false, Bool.not_true, Bool.not_false, reduceCtorEq, and_self, and_true, true_and, ite_self, size16, Nat.reduceAdd, Nat.reduceLeDiff, Nat.zero_le, k1, k2, c1, optD, make_is_non, k3, c2]; rfl, rfl, _, _, rfl⟩) ⟨rfl, _, _, rfl⟩
  rw [lp_any] at L
  have e : hasS s m = s.any fun p => p.has m := rfl
  cases a : hasS s m with
  | true =>
    rw [e] at a
    rw [a, if_pos rfl] at L
    obtain ⟨d, r', S', h, rfl, rfl⟩ := L
    exact ⟨_, execs_ret h⟩
  | false =>
    rw [e] at a
    rw [a, if_neg (by decide)] at L
    obtain ⟨r', S', h, rfl, v2, v3, rfl⟩ := L
    exact ret_step h ⟨_, by simp only [Rf.execs, Rf.execS, evalE, evalEs, evalO, evalT, evalL, evalC, evalI, bd_k, of_some, startE, bindT, wipeT, List.map_cons, List.map_nil, List.length_cons, List.length_nil, List.replicate, List.cons_append, List.nil_append, List.getElem?_cons_zero, List.getElem?_cons_succ, List.set_cons_zero, List.set_cons_succ, Option.map_some, Option.map_none, Option.bind_some, Option.bind_none, cmp_eq_int, cmp_ne_int, cmp_eq_str, cmp_ne_str, cmp_eq_bl, cmp_ne_bl, cmp_lt_int, cmp_le_int, cmp_gt_int, cmp_ge_int, cmp_is_non, cmp_is_int, cmp_is_tup, cmp_isn_non, cmp_isn_int, cmp_isn_tup, cmp_is_bl, cmp_isn_bl, cmp_in_str, isi_bl, isi_int, isi_str, isi_tup, isi_lst, isi_non, truth_bl, len_tup, len_lst, len_fro, idx_tup, idx_lst, idx_fro, isStr, seqI_str, seqI_tup, seqI_lst, decide_true, decide_false, if_true, if_false, ↓reduceIte, eq_self, Bool.false_eq_true, Bool.true_or, Bool.or_true, Bool.false_or, Bool.or_false, Bool.true_and, Bool.and_true, Bool.false_and, Bool.and_false, Bool.not_true, Bool.not_false, reduceCtorEq, and_self, and_true, true_and, ite_self, size16, Nat.reduceAdd, Nat.reduceLeDiff, Nat.zero_le]; rfl⟩


def szW : List Nat := 5 :: [8, 7, 3, 3, 4, 4, 7, 7, 8, 7, 3, 3, 4, 4, 7, 7, 8, 7, 3, 3, 4, 4, 7, 7, 8, 7, 3, 3, 4, 4, 7, 7]
theorem wants_ex {G : Gam} (F : FSh G) (hf : List.lookup (Str.ofString "_law_wants") G.fns = some c__law_wants) (c : Int) : ∃ ws : List Nd, NdsOk "" ws ∧ ws.length ≤ 4 ∧ ∀ n S, callF G (n + 4) "_law_wants" [.int c] S = .ok (.tup (ws.map Nd.d), S) := by
  obtain ⟨ds, dl, db, dok⟩ := law_draws_ex F.drs c szW (by decide) (by decide)
  have dl' : ds.length = 33 := dl
  have lt : ∀ j, j < 33 → ds.getD j 0 < szW.getD j 0 := fun j hj => by
    have h1 : j < ds.length := by omega
    have h2 : j < szW.length := hj
    rw [List.getD_eq_getElem?_getD, List.getElem?_eq_getElem h1, List.getD_eq_getElem?_getD, List.getElem?_eq_getElem h2]
    exact db j h1 h2
  obtain ⟨k, hk⟩ : ∃ k, k = ds.getD 0 0 := ⟨_, rfl⟩
  have k4 : k < 5 := by rw [hk]; exact lt 0 (by decide)
  obtain ⟨sub, hsub⟩ : ∃ sub, sub = (ds.drop 1).take (8 * k) := ⟨_, rfl⟩
  have sg : ∀ j, j < 8 * k → sub.getD j 0 = ds.getD (1 + j) 0 := fun j hj => by
    rw [hsub, List.getD_eq_getElem?_getD, List.getElem?_take, if_pos hj, List.getElem?_drop, List.getD_eq_getElem?_getD]
  have c3 : ∀ j, j < k → j = 0 ∨ j = 1 ∨ j = 2 ∨ j = 3 := fun j hj => by omega
  have Dg : DigN sub k := by
    refine ⟨by rw [hsub, List.length_take, List.length_drop]; omega, fun j hj => ?_, fun j hj => ⟨?_, ?_, ?_⟩⟩
    · rw [sg _ (by omega)]
      have := lt (1 + 8 * j) (by omega)
      rcases c3 j hj with rfl | rfl | rfl | rfl <;> exact this
    · rw [sg _ (by omega)]
      have := lt (1 + (8 * j + 5)) (by omega)
      rcases c3 j hj with rfl | rfl | rfl | rfl <;> exact this
    · rw [sg _ (by omega)]
      have := lt (1 + (8 * j + 6)) (by omega)
      rcases c3 j hj with rfl | rfl | rfl | rfl <;> exact this
    · rw [sg _ (by omega)]
      have := lt (1 + (8 * j + 7)) (by omega)
      rcases c3 j hj with rfl | rfl | rfl | rfl <;> exact this
  obtain ⟨n1, n2⟩ := needsOf_ok (x := "") Dg
  refine ⟨needsOf "" sub k, n1, Nat.le_trans n2 (by omega), fun n S => callF_pur0 hf rfl (by decide) (by rw [D.pur, D.purs_map _ Nd.pur]) ?_⟩
  have rp : ∀ S, repL S (.lst [.int 8, .int 7, .int 3, .int 3, .int 4, .int 4, .int 7, .int 7]) (.int 4) = some (dsL [8, 7, 3, 3, 4, 4, 7, 7, 8, 7, 3, 3, 4, 4, 7, 7, 8, 7, 3, 3, 4, 4, 7, 7, 8, 7, 3, 3, 4, 4, 7, 7]) := fun S => by
    unfold repL
    simp [ritems, size16, litems]
    try rfl
  have ct : ∀ S, catL S (.lst [.int 5]) (.lst (dsL [8, 7, 3, 3, 4, 4, 7, 7, 8, 7, 3, 3, 4, 4, 7, 7, 8, 7, 3, 3, 4, 4, 7, 7, 8, 7, 3, 3, 4, 4, 7, 7])) = some (dsL szW) := fun S => by
    unfold catL
    simp only [ritems, litems, size16]
    first | rfl | (rw [if_pos (by simp)]; rfl) | (simp [dsL]; rfl)
  have dk := cfg_ok (dok (n + 2) S)
  refine ret_step (r1 := [some (.int c), some (.lst (dsL ds))]) (S1 := S) ?_ ?_
  · simp only [Rf.execs, Rf.execS, evalE, evalEs, evalO, evalT, evalL, evalC, evalI, bd_k, of_some, startE, bindT, wipeT, List.map_cons, List.map_nil, List.length_cons, List.length_nil, List.replicate, List.cons_append, List.nil_append, List.getElem?_cons_zero, List.getElem?_cons_succ, List.set_cons_zero, List.set_cons_succ, Option.map_some, Option.map_none, Option.bind_some, Option.bind_none, cmp_eq_int, cmp_ne_int, cmp_eq_str, cmp_ne_str, cmp_eq_bl, cmp_ne_bl, cmp_lt_int, cmp_le_int, cmp_gt_int, cmp_ge_int, cmp_is_non, cmp_is_int, cmp_is_tup, cmp_isn_non, cmp_isn_int, cmp_isn_tup, cmp_is_bl, cmp_isn_bl, cmp_in_str, isi_bl, isi_int, isi_str, isi_tup, isi_lst, isi_non, truth_bl, len_tup, len_lst, len_fro, idx_tup, idx_lst, idx_fro, isStr, seqI_str, seqI_tup, seqI_lst, decide_true, decide_false, if_true, if_false, ↓reduceIte, eq_self, Bool.false_eq_true, Bool.true_or, Bool.or_true, Bool.false_or, Bool.or_false, Bool.true_and, Bool.and_true, Bool.false_and, Bool.and_false, Bool.not_true, Bool.not_false, reduceCtorEq, and_self, and_true, true_and, ite_self, size16, Nat.reduceAdd, Nat.reduceLeDiff, Nat.zero_le, rp, ct, dk]; try rfl
  have i0 : atI (dsL ds) 0 = some (.int (k : Int)) := by rw [hk]; exact getD_at ds 0 (by omega)
  have mm : binD .Mult (.int 8) (.int (k : Int)) = some (.int (8 * (k : Int))) := mul_intR (inR_of (by omega) (by omega))
  have ct2 : cutD (dsL ds) (some 1) (some (1 + 8 * (k : Int))) = dsL sub := by
    have := dsL_cut ds 1 (1 + 8 * k) (by omega) (by omega)
    rw [hsub]
    have e : (1 + 8 * k) - 1 = 8 * k := by omega
    rw [e] at this
    exact this
  have nn := cfg_ok (law_needs_ok F "" Dg (by omega) n S)
  have ri : ritems S (.lst (dsL ds)) = some (dsL ds) := rfl
  exact ⟨_, by simp only [Rf.execs, Rf.execS, evalE, evalEs, evalO, evalT, evalL, evalC, evalI, bd_k, of_some, startE, bindT, wipeT, List.map_cons, List.map_nil, List.length_cons, List.length_nil, List.replicate, List.cons_append, List.nil_append, List.getElem?_cons_zero, List.getElem?_cons_succ, List.set_cons_zero, List.set_cons_succ, Option.map_some, Option.map_none, Option.bind_some, Option.bind_none, cmp_eq_int, cmp_ne_int, cmp_eq_str, cmp_ne_str, cmp_eq_bl, cmp_ne_bl, cmp_lt_int, cmp_le_int, cmp_gt_int, cmp_ge_int, cmp_is_non, cmp_is_int, cmp_is_tup, cmp_isn_non, cmp_isn_int, cmp_isn_tup, cmp_is_bl, cmp_isn_bl, cmp_in_str, isi_bl, isi_int, isi_str, isi_tup, isi_lst, isi_non, truth_bl, len_tup, len_lst, len_fro, idx_tup, idx_lst, idx_fro, isStr, seqI_str, seqI_tup, seqI_lst, decide_true, decide_false, if_true, if_false, ↓reduceIte, eq_self, Bool.false_eq_true, Bool.true_or, Bool.or_true, Bool.false_or, Bool.or_false, Bool.true_and, Bool.and_true, Bool.false_and, Bool.and_false, Bool.not_true, Bool.not_false, reduceCtorEq, and_self, and_true, true_and, ite_self, size16, Nat.reduceAdd, Nat.reduceLeDiff, Nat.zero_le, i0, mm, add_int, ri, ct2, nn]; rfl⟩


abbrev Bk : Type := Str × Make
def bkD (b : Bk) : D := .tup [.str b.1, b.2.d]
theorem bkD_pur (b : Bk) : D.pur (bkD b) = true := by
  unfold bkD
  rw [D.pur, D.purs, D.purs, D.purs, b.2.pur]; rfl
theorem nodup_len {α : Type} [DecidableEq α] : ∀ {l m : List α}, l.Nodup → (∀ x ∈ l, x ∈ m) → l.length ≤ m.length
  | [], _, _, _ => Nat.zero_le _
  | x :: l, m, nd, h => by
    obtain ⟨n1, n2⟩ := List.nodup_cons.mp nd
    have hx := h x (by simp)
    have ih := nodup_len (m := m.erase x) n2 fun y hy => by
      have ne : y ≠ x := fun e => n1 (e ▸ hy)
      exact (List.mem_erase_of_ne ne).mpr (h y (by simp [hy]))
    rw [List.length_erase_of_mem hx] at ih
    have := List.length_pos_of_mem hx
    rw [List.length_cons]; omega
theorem ssetL_nodup (l : List Str) : (ssetL l).Nodup := (ssetL_srt l).imp fun {a b} (h : ltS a b) (e : a = b) => ltS_irr b (by rw [e] at h; exact h)
def bkStep (es : List En) (ds : List Nat) (N : List Str) (bk : List Bk) (k : Nat) : List Bk :=
  if ds.getD (2 * k) 0 < 3 then bk ++ [(N.getD k "", (mkS es (N.getD k "")).getD (ds.getD (2 * k + 1) 0 % (mkS es (N.getD k "")).length) oldest)] else bk
def bookL (es : List En) (ds : List Nat) (N : List Str) (i : Nat) : List Bk := (List.range i).foldl (bkStep es ds N) []
theorem bookL_succ (es : List En) (ds : List Nat) (N : List Str) (i : Nat) : bookL es ds N (i + 1) = bkStep es ds N (bookL es ds N i) i := by
  unfold bookL
  rw [List.range_succ, List.foldl_append]; rfl
structure BkOk (es : List En) (bk : List Bk) : Prop where
  mem : ∀ b ∈ bk, ∃ e ∈ es, e.x = b.1 ∧ e.m = b.2
  nd : (bk.map (·.1)).Nodup
  ln : bk.length ≤ 8
theorem bookL_ok {es : List En} {ds : List Nat} {N : List Str} (hN : ∀ x ∈ N, mkS es x ≠ []) : ∀ i, i ≤ N.length → (∀ b ∈ bookL es ds N i, ∃ e ∈ es, e.x = b.1 ∧ e.m = b.2) ∧ ((bookL es ds N i).map (·.1)).Sublist (N.take i)
  | 0, _ => ⟨fun b h => by simp [bookL] at h, by simp [bookL]⟩
  | i + 1, hi => by
    obtain ⟨h1, h2⟩ := bookL_ok hN i (by omega)
    have eN : N.getD i "" = N[i] := by rw [List.getD_eq_getElem?_getD, List.getElem?_eq_getElem (by omega)]; rfl
    have tk : N.take (i + 1) = N.take i ++ [N[i]] := List.take_succ_eq_append_getElem (by omega)
    rw [bookL_succ]
    unfold bkStep
    rw [eN, tk]
    split
    · refine ⟨fun b hb => ?_, ?_⟩
      · rcases List.mem_append.mp hb with hb | hb
        · exact h1 b hb
        · have e : b = (N[i], (mkS es N[i]).getD (ds.getD (2 * i + 1) 0 % (mkS es N[i]).length) oldest) := by simpa using hb
          have ne := hN N[i] (List.getElem_mem _)
          have lp : 0 < (mkS es N[i]).length := List.length_pos_iff.mpr ne
          have lt : ds.getD (2 * i + 1) 0 % (mkS es N[i]).length < (mkS es N[i]).length := Nat.mod_lt _ lp
          have m : (mkS es N[i]).getD (ds.getD (2 * i + 1) 0 % (mkS es N[i]).length) oldest ∈ mkS es N[i] := by
            rw [List.getD_eq_getElem?_getD, List.getElem?_eq_getElem lt]; exact List.getElem_mem _
          obtain ⟨o, ho, eo⟩ := List.mem_map.mp m
          obtain ⟨q1, q2⟩ := List.mem_filter.mp ho
          exact ⟨o, q1, by rw [e]; exact of_decide_eq_true q2, by rw [e]; exact eo⟩
      · rw [List.map_append]
        exact h2.append (List.Sublist.refl _)
    · exact ⟨h1, h2.trans (List.sublist_append_left _ _)⟩
theorem book_ex {G : Gam} (F : FSh G) (hf : List.lookup (Str.ofString "_law_book") G.fns = some c__law_book) (c : Int) {es : List En} (ho : ShOk es) (hl : es.length ≤ 40) : ∃ bk : List Bk, BkOk es bk ∧ ∀ n S, callF G (n + 4) "_law_book" [.int c, .tup (es.map En.d)] S = .ok (.tup (bk.map bkD), S) := by
  obtain ⟨ds, dl, db, dok⟩ := law_draws_ex F.drs c [4, 12, 4, 12, 4, 12, 4, 12, 4, 12, 4, 12, 4, 12, 4, 12] (by decide) (by decide)
  have dl' : ds.length = 16 := dl
  obtain ⟨N, hN⟩ : ∃ N, N = ssetL (es.map En.x) := ⟨_, rfl⟩
  have Nm : ∀ x ∈ N, mkS es x ≠ [] := fun x hx => by
    rw [hN, ssetL_mem] at hx
    obtain ⟨e, he, rfl⟩ := List.mem_map.mp hx
    intro q
    have : e.m ∈ mkS es e.x := List.mem_map.mpr ⟨e, List.mem_filter.mpr ⟨he, by simp⟩, rfl⟩
    rw [q] at this; cases this
  have N8 : N.length ≤ 8 := by
    have := nodup_len (l := N) (m := titleL) (by rw [hN]; exact ssetL_nodup _) fun x hx => by
      rw [hN, ssetL_mem] at hx
      obtain ⟨e, he, rfl⟩ := List.mem_map.mp hx
      exact (ho.gd e he).ttl
    exact this
  obtain ⟨b1, b2⟩ := bookL_ok (es := es) (ds := ds) (N := N) Nm N.length (Nat.le_refl _)
  rw [List.take_length] at b2
  have bl : (bookL es ds N N.length).length ≤ N.length := by
    have := b2.length_le
    rw [List.length_map] at this; exact this
  refine ⟨bookL es ds N N.length, ⟨b1, b2.nodup (by rw [hN]; exact ssetL_nodup _), by omega⟩, fun n S => callF_pur hf rfl (by decide) (by rw [D.pur, D.purs_map _ bkD_pur]) ?_⟩
  have rp : ∀ S, repL S (.lst [.int 4, .int 12]) (.int 8) = some (dsL [4, 12, 4, 12, 4, 12, 4, 12, 4, 12, 4, 12, 4, 12, 4, 12]) := fun S => by
    unfold repL
    simp [ritems, size16, litems]
    try rfl
  have dk := cfg_ok (dok (n + 2) S)
  refine rat_step (r1 := [some (.int c), some (.tup (es.map En.d)), some (.lst (dsL ds)), none, none, none, none, none]) (S1 := S) ?_ ?_
  · simp only [Rf.execs, Rf.execS, evalE, evalEs, evalO, evalT, evalL, evalC, evalI, bd_k, of_some, startE, bindT, wipeT, List.map_cons, List.map_nil, List.length_cons, List.length_nil, List.replicate, List.cons_append, List.nil_append, List.getElem?_cons_zero, List.getElem?_cons_succ, List.set_cons_zero, List.set_cons_succ, Option.map_some, Option.map_none, Option.bind_some, Option.bind_none, cmp_eq_int, cmp_ne_int, cmp_eq_str, cmp_ne_str, cmp_eq_bl, cmp_ne_bl, cmp_lt_int, cmp_le_int, cmp_gt_int, cmp_ge_int, cmp_is_non, cmp_is_int, cmp_is_tup, cmp_isn_non, cmp_isn_int, cmp_isn_tup, cmp_is_bl, cmp_isn_bl, cmp_in_str, isi_bl, isi_int, isi_str, isi_tup, isi_lst, isi_non, truth_bl, len_tup, len_lst, len_fro, idx_tup, idx_lst, idx_fro, isStr, seqI_str, seqI_tup, seqI_lst, decide_true, decide_false, if_true, if_false, ↓reduceIte, eq_self, Bool.false_eq_true, Bool.true_or, Bool.or_true, Bool.false_or, Bool.or_false, Bool.true_and, Bool.and_true, Bool.false_and, Bool.and_false, Bool.not_true, Bool.not_false, reduceCtorEq, and_self, and_true, true_and, ite_self, size16, Nat.reduceAdd, Nat.reduceLeDiff, Nat.zero_le, rp, dk]; try rfl
  have l0 : evalL (G.cfg (n + 3)) c__law_book_l0 [some (.int c), some (.tup (es.map En.d)), some (.lst (dsL ds)), none, none, none, none, none] S = .ok (es.map fun e => D.str e.x, S) :=
    eval_comp es En.d _ (by simp only [Rf.execs, Rf.execS, evalE, evalEs, evalO, evalT, evalL, evalC, evalI, bd_k, of_some, startE, bindT, wipeT, List.map_cons, List.map_nil, List.length_cons, List.length_nil, List.replicate, List.cons_append, List.nil_append, List.getElem?_cons_zero, List.getElem?_cons_succ, List.set_cons_zero, List.set_cons_succ, Option.map_some, Option.map_none, Option.bind_some, Option.bind_none, cmp_eq_int, cmp_ne_int, cmp_eq_str, cmp_ne_str, cmp_eq_bl, cmp_ne_bl, cmp_lt_int, cmp_le_int, cmp_gt_int, cmp_ge_int, cmp_is_non, cmp_is_int, cmp_is_tup, cmp_isn_non, cmp_isn_int, cmp_isn_tup, cmp_is_bl, cmp_isn_bl, cmp_in_str, isi_bl, isi_int, isi_str, isi_tup, isi_lst, isi_non, truth_bl, len_tup, len_lst, len_fro, idx_tup, idx_lst, idx_fro, isStr, seqI_str, seqI_tup, seqI_lst, decide_true, decide_false, if_true, if_false, ↓reduceIte, eq_self, Bool.false_eq_true, Bool.true_or, Bool.or_true, Bool.false_or, Bool.or_false, Bool.true_and, Bool.and_true, Bool.false_and, Bool.and_false, Bool.not_true, Bool.not_false, reduceCtorEq, and_self, and_true, true_and, ite_self, size16, Nat.reduceAdd, Nat.reduceLeDiff, Nat.zero_le]) (by rw [size16]; omega) fun e he => ⟨_, rfl, by simp only [Rf.execs, Rf.execS, evalE, evalEs, evalO, evalT, evalL, evalC, evalI, bd_k, of_some, startE, bindT, wipeT, List.map_cons, List.map_nil, List.length_cons, List.length_nil, List.replicate, List.cons_append, List.nil_append, List.getElem?_cons_zero, List.getElem?_cons_succ, List.set_cons_zero, List.set_cons_succ, Option.map_some, Option.map_none, Option.bind_some, Option.bind_none, cmp_eq_int, cmp_ne_int, cmp_eq_str, cmp_ne_str, cmp_eq_bl, cmp_ne_bl, cmp_lt_int, cmp_le_int, cmp_gt_int, cmp_ge_int, cmp_is_non, cmp_is_int, cmp_is_tup, cmp_isn_non, cmp_isn_int, cmp_isn_tup, cmp_is_bl, cmp_isn_bl, cmp_in_str, isi_bl, isi_int, isi_str, isi_tup, isi_lst, isi_non, truth_bl, len_tup, len_lst, len_fro, idx_tup, idx_lst, idx_fro, isStr, seqI_str, seqI_tup, seqI_lst, decide_true, decide_false, if_true, if_false, ↓reduceIte, eq_self, Bool.false_eq_true, Bool.true_or, Bool.or_true, Bool.false_or, Bool.or_false, Bool.true_and, Bool.and_true, Bool.false_and, Bool.and_false, Bool.not_true, Bool.not_false, reduceCtorEq, and_self, and_true, true_and, ite_self, size16, Nat.reduceAdd, Nat.reduceLeDiff, Nat.zero_le, en_at0]⟩
  have ss : ssetD S (.lst (es.map fun e => D.str e.x)) = some (N.map D.str) := by
    unfold ssetD
    rw [show litems S (.lst (es.map fun e => D.str e.x)) = some (es.map fun e => D.str e.x) from rfl, Option.bind_some, strL_map, Option.bind_some, if_pos (by rw [List.length_map]; omega), hN]
  refine rat_step (r1 := [some (.int c), some (.tup (es.map En.d)), some (.lst (dsL ds)), some (.lst (N.map D.str)), none, none, none, none]) (S1 := S) ?_ ?_
  · simp only [Rf.execs, Rf.execS, evalE, evalEs, evalO, evalT, evalL, evalC, evalI, bd_k, of_some, startE, bindT, wipeT, List.map_cons, List.map_nil, List.length_cons, List.length_nil, List.replicate, List.cons_append, List.nil_append, List.getElem?_cons_zero, List.getElem?_cons_succ, List.set_cons_zero, List.set_cons_succ, Option.map_some, Option.map_none, Option.bind_some, Option.bind_none, cmp_eq_int, cmp_ne_int, cmp_eq_str, cmp_ne_str, cmp_eq_bl, cmp_ne_bl, cmp_lt_int, cmp_le_int, cmp_gt_int, cmp_ge_int, cmp_is_non, cmp_is_int, cmp_is_tup, cmp_isn_non, cmp_isn_int, cmp_isn_tup, cmp_is_bl, cmp_isn_bl, cmp_in_str, isi_bl, isi_int, isi_str, isi_tup, isi_lst, isi_non, truth_bl, len_tup, len_lst, len_fro, idx_tup, idx_lst, idx_fro, isStr, seqI_str, seqI_tup, seqI_lst, decide_true, decide_false, if_true, if_false, ↓reduceIte, eq_self, Bool.false_eq_true, Bool.true_or, Bool.or_true, Bool.false_or, Bool.or_false, Bool.true_and, Bool.and_true, Bool.false_and, Bool.and_false, Bool.not_true, Bool.not_false, reduceCtorEq, and_self, and_true, true_and, ite_self, size16, Nat.reduceAdd, Nat.reduceLeDiff, Nat.zero_le, l0, ss]
  refine rat_step (r1 := [some (.int c), some (.tup (es.map En.d)), some (.lst (dsL ds)), some (.lst (N.map D.str)), none, some (.ref S.length), none, none]) (S1 := S ++ [.lst []]) ?_ ?_
  · simp only [Rf.execs, Rf.execS, evalE, evalEs, evalO, evalT, evalL, evalC, evalI, bd_k, of_some, startE, bindT, wipeT, List.map_cons, List.map_nil, List.length_cons, List.length_nil, List.replicate, List.cons_append, List.nil_append, List.getElem?_cons_zero, List.getElem?_cons_succ, List.set_cons_zero, List.set_cons_succ, Option.map_some, Option.map_none, Option.bind_some, Option.bind_none, cmp_eq_int, cmp_ne_int, cmp_eq_str, cmp_ne_str, cmp_eq_bl, cmp_ne_bl, cmp_lt_int, cmp_le_int, cmp_gt_int, cmp_ge_int, cmp_is_non, cmp_is_int, cmp_is_tup, cmp_isn_non, cmp_isn_int, cmp_isn_tup, cmp_is_bl, cmp_isn_bl, cmp_in_str, isi_bl, isi_int, isi_str, isi_tup, isi_lst, isi_non, truth_bl, len_tup, len_lst, len_fro, idx_tup, idx_lst, idx_fro, isStr, seqI_str, seqI_tup, seqI_lst, decide_true, decide_false, if_true, if_false, ↓reduceIte, eq_self, Bool.false_eq_true, Bool.true_or, Bool.or_true, Bool.false_or, Bool.or_false, Bool.true_and, Bool.and_true, Bool.false_and, Bool.and_false, Bool.not_true, Bool.not_false, reduceCtorEq, and_self, and_true, true_and, ite_self, size16, Nat.reduceAdd, Nat.reduceLeDiff, Nat.zero_le]
  obtain ⟨r', S', h, v6, v7, hr, hS⟩ := exec_for_ix (c := G.cfg (n + 3)) (tg := .nm 6) (it := .range (.cons (.bi .len (.cons (.var 3) .nil)) .nil)) (b := c__law_book_b0) (S := S ++ [.lst []]) (r := [some (.int c), some (.tup (es.map En.d)), some (.lst (dsL ds)), some (.lst (N.map D.str)), none, some (.ref S.length), none, none])
    (List.range N.length) (fun (j : Nat) => .int (j : Int)) (w := fun _ => true) (fun i r' S' => ∃ v6 v7, r' = [some (.int c), some (.tup (es.map En.d)), some (.lst (dsL ds)), some (.lst (N.map D.str)), none, some (.ref S.length), v6, v7] ∧ S' = S ++ [.lst ((bookL es ds N i).map bkD)])
    (by simp only [Rf.execs, Rf.execS, evalE, evalEs, evalO, evalT, evalL, evalC, evalI, bd_k, of_some, startE, bindT, wipeT, List.map_cons, List.map_nil, List.length_cons, List.length_nil, List.replicate, List.cons_append, List.nil_append, List.getElem?_cons_zero, List.getElem?_cons_succ, List.set_cons_zero, List.set_cons_succ, Option.map_some, Option.map_none, Option.bind_some, Option.bind_none, cmp_eq_int, cmp_ne_int, cmp_eq_str, cmp_ne_str, cmp_eq_bl, cmp_ne_bl, cmp_lt_int, cmp_le_int, cmp_gt_int, cmp_ge_int, cmp_is_non, cmp_is_int, cmp_is_tup, cmp_isn_non, cmp_isn_int, cmp_isn_tup, cmp_is_bl, cmp_isn_bl, cmp_in_str, isi_bl, isi_int, isi_str, isi_tup, isi_lst, isi_non, truth_bl, len_tup, len_lst, len_fro, idx_tup, idx_lst, idx_fro, isStr, seqI_str, seqI_tup, seqI_lst, decide_true, decide_false, if_true, if_false, ↓reduceIte, eq_self, Bool.false_eq_true, Bool.true_or, Bool.or_true, Bool.false_or, Bool.or_false, Bool.true_and, Bool.and_true, Bool.false_and, Bool.and_false, Bool.not_true, Bool.not_false, reduceCtorEq, and_self, and_true, true_and, ite_self, size16, Nat.reduceAdd, Nat.reduceLeDiff, Nat.zero_le]; rw [rangeI_one (n := (N.map D.str).length) (by rw [List.length_map]; omega), List.length_map]; rfl) (fun _ _ _ _ => rfl) (fun i hi r1 S1 hI => by
      obtain ⟨v6, v7, rfl, rfl⟩ := hI
      rw [List.length_range] at hi
      rw [List.getElem_range]
      have eN : N.getD i "" = N[i] := by rw [List.getD_eq_getElem?_getD, List.getElem?_eq_getElem hi]; rfl
      have at3 : atI (N.map D.str) (i : Int) = some (.str N[i]) := by
        rw [atI_map, atI_int (by omega) (by omega), Int.toNat_natCast, List.getElem?_eq_getElem hi]; rfl
      have ne := Nm N[i] (List.getElem_mem _)
      have bs := bookL_succ es ds N i
      unfold bkStep at bs
      rw [eN] at bs
      have bl := (bookL_ok (es := es) (ds := ds) (N := N) Nm i (by omega)).2.length_le
      rw [List.length_map, List.length_take] at bl
      generalize N[i] = x at at3 ne bs
      have l1 : ∀ S2, evalL (G.cfg (n + 3)) c__law_book_l1 [some (.int c), some (.tup (es.map En.d)), some (.lst (dsL ds)), some (.lst (N.map D.str)), none, some (.ref S.length), some (.int (i : Int)), v7] S2 = .ok ((mkS es x).map Make.d, S2) := fun S2 => by
        have e : (mkS es x).map Make.d = (es.filter fun e => decide (e.x = x)).map fun e => e.m.d := by unfold mkS; rw [List.map_map]; rfl
        rw [e]
        exact eval_compF es En.d _ _ (by simp only [Rf.execs, Rf.execS, evalE, evalEs, evalO, evalT, evalL, evalC, evalI, bd_k, of_some, startE, bindT, wipeT, List.map_cons, List.map_nil, List.length_cons, List.length_nil, List.replicate, List.cons_append, List.nil_append, List.getElem?_cons_zero, List.getElem?_cons_succ, List.set_cons_zero, List.set_cons_succ, Option.map_some, Option.map_none, Option.bind_some, Option.bind_none, cmp_eq_int, cmp_ne_int, cmp_eq_str, cmp_ne_str, cmp_eq_bl, cmp_ne_bl, cmp_lt_int, cmp_le_int, cmp_gt_int, cmp_ge_int, cmp_is_non, cmp_is_int, cmp_is_tup, cmp_isn_non, cmp_isn_int, cmp_isn_tup, cmp_is_bl, cmp_isn_bl, cmp_in_str, isi_bl, isi_int, isi_str, isi_tup, isi_lst, isi_non, truth_bl, len_tup, len_lst, len_fro, idx_tup, idx_lst, idx_fro, isStr, seqI_str, seqI_tup, seqI_lst, decide_true, decide_false, if_true, if_false, ↓reduceIte, eq_self, Bool.false_eq_true, Bool.true_or, Bool.or_true, Bool.false_or, Bool.or_false, Bool.true_and, Bool.and_true, Bool.false_and, Bool.and_false, Bool.not_true, Bool.not_false, reduceCtorEq, and_self, and_true, true_and, ite_self, size16, Nat.reduceAdd, Nat.reduceLeDiff, Nat.zero_le]) (by rw [size16]; omega) fun o ho => ⟨_, rfl, by simp only [Rf.execs, Rf.execS, evalE, evalEs, evalO, evalT, evalL, evalC, evalI, bd_k, of_some, startE, bindT, wipeT, List.map_cons, List.map_nil, List.length_cons, List.length_nil, List.replicate, List.cons_append, List.nil_append, List.getElem?_cons_zero, List.getElem?_cons_succ, List.set_cons_zero, List.set_cons_succ, Option.map_some, Option.map_none, Option.bind_some, Option.bind_none, cmp_eq_int, cmp_ne_int, cmp_eq_str, cmp_ne_str, cmp_eq_bl, cmp_ne_bl, cmp_lt_int, cmp_le_int, cmp_gt_int, cmp_ge_int, cmp_is_non, cmp_is_int, cmp_is_tup, cmp_isn_non, cmp_isn_int, cmp_isn_tup, cmp_is_bl, cmp_isn_bl, cmp_in_str, isi_bl, isi_int, isi_str, isi_tup, isi_lst, isi_non, truth_bl, len_tup, len_lst, len_fro, idx_tup, idx_lst, idx_fro, isStr, seqI_str, seqI_tup, seqI_lst, decide_true, decide_false, if_true, if_false, ↓reduceIte, eq_self, Bool.false_eq_true, Bool.true_or, Bool.or_true, Bool.false_or, Bool.or_false, Bool.true_and, Bool.and_true, Bool.false_and, Bool.and_false, Bool.not_true, Bool.not_false, reduceCtorEq, and_self, and_true, true_and, ite_self, size16, Nat.reduceAdd, Nat.reduceLeDiff, Nat.zero_le, en_at0, at3], fun _ => by simp only [Rf.execs, Rf.execS, evalE, evalEs, evalO, evalT, evalL, evalC, evalI, bd_k, of_some, startE, bindT, wipeT, List.map_cons, List.map_nil, List.length_cons, List.length_nil, List.replicate, List.cons_append, List.nil_append, List.getElem?_cons_zero, List.getElem?_cons_succ, List.set_cons_zero, List.set_cons_succ, Option.map_some, Option.map_none, Option.bind_some, Option.bind_none, cmp_eq_int, cmp_ne_int, cmp_eq_str, cmp_ne_str, cmp_eq_bl, cmp_ne_bl, cmp_lt_int, cmp_le_int, cmp_gt_int, cmp_ge_int, cmp_is_non, cmp_is_int, cmp_is_tup, cmp_isn_non, cmp_isn_int, cmp_isn_tup, cmp_is_bl, cmp_isn_bl, cmp_in_str, isi_bl, isi_int, isi_str, isi_tup, isi_lst, isi_non, truth_bl, len_tup, len_lst, len_fro, idx_tup, idx_lst, idx_fro, isStr, seqI_str, seqI_tup, seqI_lst, decide_true, decide_false, if_true, if_false, ↓reduceIte, eq_self, Bool.false_eq_true, Bool.true_or, Bool.or_true, Bool.false_or, Bool.or_false, Bool.true_and, Bool.and_true, Bool.false_and, Bool.and_false, Bool.not_true, Bool.not_false, reduceCtorEq, and_self, and_true, true_and, ite_self, size16, Nat.reduceAdd, Nat.reduceLeDiff, Nat.zero_le, en_at1]⟩
      have m1 : binD .Mult (.int 2) (.int (i : Int)) = some (.int (2 * (i : Int))) := mul_intR (inR_of (by omega) (by omega))
      have a1 : atI (dsL ds) (2 * (i : Int)) = some (.int ((ds.getD (2 * i) 0 : Nat) : Int)) := getD_at ds (2 * i) (by omega)
      have a2 : atI (dsL ds) (2 * (i : Int) + 1) = some (.int ((ds.getD (2 * i + 1) 0 : Nat) : Int)) := getD_at ds (2 * i + 1) (by omega)
      rw [bs]
      generalize mkS es x = mk at l1 ne
      have lp : 0 < mk.length := List.length_pos_iff.mpr ne
      by_cases q : ds.getD (2 * i) 0 < 3
      · have q' : ((ds.getD (2 * i) 0 : Nat) : Int) < 3 := by omega
        rw [if_pos q]
        generalize ds.getD (2 * i) 0 = u at a1 q'
        generalize ds.getD (2 * i + 1) 0 = v at a2
        have md : binD .Mod (.int ((v : Nat) : Int)) (.int ((mk.map Make.d).length : Int)) = some (.int ((v % mk.length : Nat) : Int)) := by
          rw [mod_int _ _ (by rw [List.length_map]; omega), List.length_map]; rfl
        have lt : v % mk.length < mk.length := Nat.mod_lt _ lp
        have am : atI (mk.map Make.d) ((v % mk.length : Nat) : Int) = some (mk.getD (v % mk.length) oldest).d := by
          rw [makes_idx mk _ lt, List.getD_eq_getElem?_getD, List.getElem?_eq_getElem lt]; rfl
        have ap := app_end S ((bookL es ds N i).map bkD) (bkD (x, mk.getD (v % mk.length) oldest)) (by rw [size16, List.length_map]; omega)
        have ap2 : mutD .append (S ++ [.lst ((bookL es ds N i).map bkD)]) (.ref S.length) [.tup [.str x, (mk.getD (v % mk.length) oldest).d]] = some (.non, S ++ [.lst ((bookL es ds N i ++ [(x, mk.getD (v % mk.length) oldest)]).map bkD)]) := by
          rw [List.map_append]; exact ap
        refine ⟨_, rfl, [some (.int c), some (.tup (es.map En.d)), some (.lst (dsL ds)), some (.lst (N.map D.str)), none, some (.ref S.length), some (.int (i : Int)), some (.lst (mk.map Make.d))], _, ?_, _, _, rfl, rfl⟩
        simp only [c__law_book_b0, Rf.execs, Rf.execS, evalE, evalEs, evalO, evalT, evalL, evalC, evalI, bd_k, of_some, startE, bindT, wipeT, List.map_cons, List.map_nil, List.length_cons, List.length_nil, List.replicate, List.cons_append, List.nil_append, List.getElem?_cons_zero, List.getElem?_cons_succ, List.set_cons_zero, List.set_cons_succ, Option.map_some, Option.map_none, Option.bind_some, Option.bind_none, cmp_eq_int, cmp_ne_int, cmp_eq_str, cmp_ne_str, cmp_eq_bl, cmp_ne_bl, cmp_lt_int, cmp_le_int, cmp_gt_int, cmp_ge_int, cmp_is_non, cmp_is_int, cmp_is_tup, cmp_isn_non, cmp_isn_int, cmp_isn_tup, cmp_is_bl, cmp_isn_bl, cmp_in_str, isi_bl, isi_int, isi_str, isi_tup, isi_lst, isi_non, truth_bl, len_tup, len_lst, len_fro, idx_tup, idx_lst, idx_fro, isStr, seqI_str, seqI_tup, seqI_lst, decide_true, decide_false, if_true, if_false, ↓reduceIte, eq_self, Bool.false_eq_true, Bool.true_or, Bool.or_true, Bool.false_or, Bool.or_false, Bool.true_and, Bool.and_true, Bool.false_and, Bool.and_false, Bool.not_true, Bool.not_false, reduceCtorEq, and_self, and_true, true_and, ite_self, size16, Nat.reduceAdd, Nat.reduceLeDiff, Nat.zero_le, l1, m1, a1, q', add_int, a2, at3, md, am, isMut_end, ap2]
      · have q' : ¬ ((ds.getD (2 * i) 0 : Nat) : Int) < 3 := by omega
        rw [if_neg q]
        refine ⟨_, rfl, [some (.int c), some (.tup (es.map En.d)), some (.lst (dsL ds)), some (.lst (N.map D.str)), none, some (.ref S.length), some (.int (i : Int)), some (.lst (mk.map Make.d))], _, ?_, _, _, rfl, rfl⟩
        simp only [c__law_book_b0, Rf.execs, Rf.execS, evalE, evalEs, evalO, evalT, evalL, evalC, evalI, bd_k, of_some, startE, bindT, wipeT, List.map_cons, List.map_nil, List.length_cons, List.length_nil, List.replicate, List.cons_append, List.nil_append, List.getElem?_cons_zero, List.getElem?_cons_succ, List.set_cons_zero, List.set_cons_succ, Option.map_some, Option.map_none, Option.bind_some, Option.bind_none, cmp_eq_int, cmp_ne_int, cmp_eq_str, cmp_ne_str, cmp_eq_bl, cmp_ne_bl, cmp_lt_int, cmp_le_int, cmp_gt_int, cmp_ge_int, cmp_is_non, cmp_is_int, cmp_is_tup, cmp_isn_non, cmp_isn_int, cmp_isn_tup, cmp_is_bl, cmp_isn_bl, cmp_in_str, isi_bl, isi_int, isi_str, isi_tup, isi_lst, isi_non, truth_bl, len_tup, len_lst, len_fro, idx_tup, idx_lst, idx_fro, isStr, seqI_str, seqI_tup, seqI_lst, decide_true, decide_false, if_true, if_false, ↓reduceIte, eq_self, Bool.false_eq_true, Bool.true_or, Bool.or_true, Bool.false_or, Bool.or_false, Bool.true_and, Bool.and_true, Bool.false_and, Bool.and_false, Bool.not_true, Bool.not_false, reduceCtorEq, and_self, and_true, true_and, ite_self, size16, Nat.reduceAdd, Nat.reduceLeDiff, Nat.zero_le, l1, m1, a1, q']) ⟨none, none, rfl, rfl⟩
  subst hr hS
  rw [List.length_range] at h
  refine rat_step h ?_
  have tp : biD .tuple (S ++ [.lst ((bookL es ds N N.length).map bkD)]) [.ref S.length] = some (.tup ((bookL es ds N N.length).map bkD)) := by
    show (items (S ++ [.lst ((bookL es ds N N.length).map bkD)]) (.ref S.length)).map _ = _
    have : items (S ++ [.lst ((bookL es ds N N.length).map bkD)]) (.ref S.length) = some ((bookL es ds N N.length).map bkD) := by simp [items]
    rw [this]; rfl
  exact ⟨_, [.lst ((bookL es ds N N.length).map bkD)], by simp only [Rf.execs, Rf.execS, evalE, evalEs, evalO, evalT, evalL, evalC, evalI, bd_k, of_some, startE, bindT, wipeT, List.map_cons, List.map_nil, List.length_cons, List.length_nil, List.replicate, List.cons_append, List.nil_append, List.getElem?_cons_zero, List.getElem?_cons_succ, List.set_cons_zero, List.set_cons_succ, Option.map_some, Option.map_none, Option.bind_some, Option.bind_none, cmp_eq_int, cmp_ne_int, cmp_eq_str, cmp_ne_str, cmp_eq_bl, cmp_ne_bl, cmp_lt_int, cmp_le_int, cmp_gt_int, cmp_ge_int, cmp_is_non, cmp_is_int, cmp_is_tup, cmp_isn_non, cmp_isn_int, cmp_isn_tup, cmp_is_bl, cmp_isn_bl, cmp_in_str, isi_bl, isi_int, isi_str, isi_tup, isi_lst, isi_non, truth_bl, len_tup, len_lst, len_fro, idx_tup, idx_lst, idx_fro, isStr, seqI_str, seqI_tup, seqI_lst, decide_true, decide_false, if_true, if_false, ↓reduceIte, eq_self, Bool.false_eq_true, Bool.true_or, Bool.or_true, Bool.false_or, Bool.or_false, Bool.true_and, Bool.and_true, Bool.false_and, Bool.and_false, Bool.not_true, Bool.not_false, reduceCtorEq, and_self, and_true, true_and, ite_self, size16, Nat.reduceAdd, Nat.reduceLeDiff, Nat.zero_le, tp]; rfl⟩


theorem ext_endB (S : Store) (xs ys : List D) (h : xs.length + ys.length ≤ sizeLine) : mutD .extend (S ++ [.lst xs]) (.ref S.length) [.lst ys] = some (.non, S ++ [.lst (xs ++ ys)]) := by
  have e : (S ++ [O.lst xs])[S.length]? = some (.lst xs) := by simp
  simp only [mutD, e, litems, Option.bind_some, if_pos h]
  congr 2
  simp
abbrev Wk : Type := Str × Nd
def wkD (w : Wk) : D := .tup [.str w.1, .str w.2.x, spanD w.2.s]
theorem wkD_pur (w : Wk) : D.pur (wkD w) = true := by
  unfold wkD
  rw [D.pur, D.purs, D.purs, D.purs, D.purs, spanD_pur]; rfl
theorem ndsAt_mem (x : Str) (m : Make) : ∀ (es : List En) (s : List Nd), es.foldl (fun s o => if o.x = x ∧ o.m = m then o.ns else s) s = s ∨ ∃ e ∈ es, e.x = x ∧ e.m = m ∧ es.foldl (fun s o => if o.x = x ∧ o.m = m then o.ns else s) s = e.ns
  | [], s => .inl rfl
  | a :: r, s => by
    rw [List.foldl_cons]
    by_cases q : a.x = x ∧ a.m = m
    · rw [if_pos q]
      rcases ndsAt_mem x m r a.ns with h | ⟨e, h, k1, k2, k3⟩
      · exact .inr ⟨a, by simp, q.1, q.2, h⟩
      · exact .inr ⟨e, by simp [h], k1, k2, k3⟩
    · rw [if_neg q]
      rcases ndsAt_mem x m r s with h | ⟨e, h, k1, k2, k3⟩
      · exact .inl h
      · exact .inr ⟨e, by simp [h], k1, k2, k3⟩
theorem ndsAt_all {P : Nd → Prop} {es : List En} (h : ∀ e ∈ es, ∀ q ∈ e.ns, P q) (x : Str) (m : Make) : ∀ q ∈ ndsAt es x m, P q := fun q hq => by
  unfold ndsAt at hq
  rcases ndsAt_mem x m es [] with e | ⟨e, he, _, _, k⟩
  · rw [e] at hq; cases hq
  · rw [k] at hq; exact h e he q hq
theorem ndsAt_len {es : List En} {k : Nat} (h : ∀ e ∈ es, e.ns.length ≤ k) (x : Str) (m : Make) : (ndsAt es x m).length ≤ k := by
  unfold ndsAt
  rcases ndsAt_mem x m es [] with e | ⟨e, he, _, _, q⟩
  · rw [e]; exact Nat.zero_le _
  · rw [q]; exact h e he
def workL (ws : List Nd) (es : List En) (bk : List Bk) : List Wk := ws.map (fun q => (("" : Str), q)) ++ bk.flatMap fun b => (ndsAt es b.1 b.2).map fun q => (b.1, q)
theorem workL_succ (ws : List Nd) (es : List En) (bk : List Bk) (i : Nat) (hi : i < bk.length) : workL ws es (bk.take (i + 1)) = workL ws es (bk.take i) ++ (ndsAt es bk[i].1 bk[i].2).map fun q => (bk[i].1, q) := by
  unfold workL
  rw [List.take_succ_eq_append_getElem hi, List.flatMap_append]
  simp
theorem workL_len {ws : List Nd} {es : List En} {k : Nat} (h : ∀ e ∈ es, e.ns.length ≤ k) : ∀ bk : List Bk, (workL ws es bk).length ≤ ws.length + bk.length * k := fun bk => by
  unfold workL
  rw [List.length_append, List.length_map]
  have : (bk.flatMap fun b => (ndsAt es b.1 b.2).map fun q => (b.1, q)).length ≤ bk.length * k := by
    induction bk with
    | nil => simp
    | cons b bk ih =>
      have := ndsAt_len h b.1 b.2
      rw [List.flatMap_cons, List.length_append, List.length_map, List.length_cons, Nat.succ_mul]; omega
  omega
theorem nd_bind (q : Nd) (r : Env) (i j : Nat) : bindT (.tp [i, j]) q.d r = some ((r.set i (some (.str q.x))).set j (some (spanD q.s))) := rfl
theorem bk_bind (b : Bk) (r : Env) (i j : Nat) : bindT (.tp [i, j]) (bkD b) r = some ((r.set i (some (.str b.1))).set j (some b.2.d)) := rfl

structure BOk (ws : List Nd) (es : List En) (bk : List Bk) : Prop where
  w : ∀ q ∈ ws, q.Ok
  e : ∀ e ∈ es, ∀ q ∈ e.ns, q.Ok
  b : ∀ b ∈ bk, b.2.sm
  wl : ws.length ≤ 100
  el : es.length ≤ 100
  nl : ∀ e ∈ es, e.ns.length ≤ 100
  bl : bk.length ≤ 100
theorem BOk.work {ws : List Nd} {es : List En} {bk : List Bk} (h : BOk ws es bk) : (∀ w ∈ workL ws es bk, w.2.Ok) ∧ (workL ws es bk).length ≤ 10100 := by
  refine ⟨fun w hw => ?_, ?_⟩
  · unfold workL at hw
    rcases List.mem_append.mp hw with hw | hw
    · obtain ⟨q, hq, rfl⟩ := List.mem_map.mp hw
      exact h.w q hq
    · obtain ⟨b, hb, hw⟩ := List.mem_flatMap.mp hw
      obtain ⟨q, hq, rfl⟩ := List.mem_map.mp hw
      exact ndsAt_all h.e b.1 b.2 q hq
  · have := workL_len (ws := ws) h.nl bk
    have h1 := h.wl
    have h2 := h.bl
    omega
structure FWork (G : Gam) : Prop where
  naw : List.lookup (Str.ofString "needs_at_work") G.fns = some c_needs_at_work
  nof : List.lookup (Str.ofString "needs_of") G.fns = some c_needs_of
  law : List.lookup (Str.ofString "_law_at_work") G.fns = some c__law_at_work
theorem needs_at_work_ok {G : Gam} (F : FWork G) {ws : List Nd} {es : List En} {bk : List Bk} (h : BOk ws es bk) (n : Nat) (S : Store) : callF G (n + 2) "needs_at_work" [.tup (es.map En.d), .tup (ws.map Nd.d), .tup (bk.map bkD)] S = .ok (.lst ((workL ws es bk).map wkD), S) := by
  have h1 := h.wl
  have h2 := h.bl
  have ex : ∃ r', execs (G.cfg (n + 1)) c_needs_at_work.body (startE 8 [.tup (es.map En.d), .tup (ws.map Nd.d), .tup (bk.map bkD)]) S = .ok ((.rt (.ref S.length), r'), S ++ [.lst ((workL ws es bk).map wkD)]) := by
    have l0 : evalL (G.cfg (n + 1)) c_needs_at_work_l0 [some (.tup (es.map En.d)), some (.tup (ws.map Nd.d)), some (.tup (bk.map bkD)), none, none, none, none, none] S = .ok (ws.map fun q => wkD ("", q), S) :=
      eval_comp ws Nd.d _ (by simp only [Rf.execs, Rf.execS, evalE, evalEs, evalO, evalT, evalL, evalC, evalI, bd_k, of_some, startE, bindT, wipeT, List.map_cons, List.map_nil, List.length_cons, List.length_nil, List.replicate, List.cons_append, List.nil_append, List.getElem?_cons_zero, List.getElem?_cons_succ, List.set_cons_zero, List.set_cons_succ, Option.map_some, Option.map_none, Option.bind_some, Option.bind_none, cmp_eq_int, cmp_ne_int, cmp_eq_str, cmp_ne_str, cmp_eq_bl, cmp_ne_bl, cmp_lt_int, cmp_le_int, cmp_gt_int, cmp_ge_int, cmp_is_non, cmp_is_int, cmp_is_tup, cmp_isn_non, cmp_isn_int, cmp_isn_tup, cmp_is_bl, cmp_isn_bl, cmp_in_str, isi_bl, isi_int, isi_str, isi_tup, isi_lst, isi_non, truth_bl, len_tup, len_lst, len_fro, idx_tup, idx_lst, idx_fro, isStr, seqI_str, seqI_tup, seqI_lst, decide_true, decide_false, if_true, if_false, ↓reduceIte, eq_self, Bool.false_eq_true, Bool.true_or, Bool.or_true, Bool.false_or, Bool.or_false, Bool.true_and, Bool.and_true, Bool.false_and, Bool.and_false, Bool.not_true, Bool.not_false, reduceCtorEq, and_self, and_true, true_and, ite_self, size16, Nat.reduceAdd, Nat.reduceLeDiff, Nat.zero_le]) (by rw [size16]; omega) fun q hq => ⟨_, nd_bind q _ 4 5, by simp only [Rf.execs, Rf.execS, evalE, evalEs, evalO, evalT, evalL, evalC, evalI, bd_k, of_some, startE, bindT, wipeT, List.map_cons, List.map_nil, List.length_cons, List.length_nil, List.replicate, List.cons_append, List.nil_append, List.getElem?_cons_zero, List.getElem?_cons_succ, List.set_cons_zero, List.set_cons_succ, Option.map_some, Option.map_none, Option.bind_some, Option.bind_none, cmp_eq_int, cmp_ne_int, cmp_eq_str, cmp_ne_str, cmp_eq_bl, cmp_ne_bl, cmp_lt_int, cmp_le_int, cmp_gt_int, cmp_ge_int, cmp_is_non, cmp_is_int, cmp_is_tup, cmp_isn_non, cmp_isn_int, cmp_isn_tup, cmp_is_bl, cmp_isn_bl, cmp_in_str, isi_bl, isi_int, isi_str, isi_tup, isi_lst, isi_non, truth_bl, len_tup, len_lst, len_fro, idx_tup, idx_lst, idx_fro, isStr, seqI_str, seqI_tup, seqI_lst, decide_true, decide_false, if_true, if_false, ↓reduceIte, eq_self, Bool.false_eq_true, Bool.true_or, Bool.or_true, Bool.false_or, Bool.or_false, Bool.true_and, Bool.and_true, Bool.false_and, Bool.and_false, Bool.not_true, Bool.not_false, reduceCtorEq, and_self, and_true, true_and, ite_self, size16, Nat.reduceAdd, Nat.reduceLeDiff, Nat.zero_le]; rfl⟩
    have w0 : workL ws es (bk.take 0) = ws.map fun q => (("" : Str), q) := by unfold workL; simp
    refine ret_step (r1 := [some (.tup (es.map En.d)), some (.tup (ws.map Nd.d)), some (.tup (bk.map bkD)), some (.ref S.length), none, none, none, none]) (S1 := S ++ [.lst ((workL ws es (bk.take 0)).map wkD)]) ?_ ?_
    · rw [w0, List.map_map]
      simp only [Rf.execs, Rf.execS, evalE, evalEs, evalO, evalT, evalL, evalC, evalI, bd_k, of_some, startE, bindT, wipeT, List.map_cons, List.map_nil, List.length_cons, List.length_nil, List.replicate, List.cons_append, List.nil_append, List.getElem?_cons_zero, List.getElem?_cons_succ, List.set_cons_zero, List.set_cons_succ, Option.map_some, Option.map_none, Option.bind_some, Option.bind_none, cmp_eq_int, cmp_ne_int, cmp_eq_str, cmp_ne_str, cmp_eq_bl, cmp_ne_bl, cmp_lt_int, cmp_le_int, cmp_gt_int, cmp_ge_int, cmp_is_non, cmp_is_int, cmp_is_tup, cmp_isn_non, cmp_isn_int, cmp_isn_tup, cmp_is_bl, cmp_isn_bl, cmp_in_str, isi_bl, isi_int, isi_str, isi_tup, isi_lst, isi_non, truth_bl, len_tup, len_lst, len_fro, idx_tup, idx_lst, idx_fro, isStr, seqI_str, seqI_tup, seqI_lst, decide_true, decide_false, if_true, if_false, ↓reduceIte, eq_self, Bool.false_eq_true, Bool.true_or, Bool.or_true, Bool.false_or, Bool.or_false, Bool.true_and, Bool.and_true, Bool.false_and, Bool.and_false, Bool.not_true, Bool.not_false, reduceCtorEq, and_self, and_true, true_and, ite_self, size16, Nat.reduceAdd, Nat.reduceLeDiff, Nat.zero_le, l0]; try rfl
    obtain ⟨r', S', hx, v6, v7, hr, hS⟩ := exec_for_ix (c := G.cfg (n + 1)) (tg := .tp [6, 7]) (it := .seq (.var 2)) (b := c_needs_at_work_b0) (S := S ++ [.lst ((workL ws es (bk.take 0)).map wkD)]) (r := [some (.tup (es.map En.d)), some (.tup (ws.map Nd.d)), some (.tup (bk.map bkD)), some (.ref S.length), none, none, none, none])
      bk bkD (w := fun _ => true) (fun i r' S' => ∃ v6 v7, r' = [some (.tup (es.map En.d)), some (.tup (ws.map Nd.d)), some (.tup (bk.map bkD)), some (.ref S.length), none, none, v6, v7] ∧ S' = S ++ [.lst ((workL ws es (bk.take i)).map wkD)])
      (by simp only [Rf.execs, Rf.execS, evalE, evalEs, evalO, evalT, evalL, evalC, evalI, bd_k, of_some, startE, bindT, wipeT, List.map_cons, List.map_nil, List.length_cons, List.length_nil, List.replicate, List.cons_append, List.nil_append, List.getElem?_cons_zero, List.getElem?_cons_succ, List.set_cons_zero, List.set_cons_succ, Option.map_some, Option.map_none, Option.bind_some, Option.bind_none, cmp_eq_int, cmp_ne_int, cmp_eq_str, cmp_ne_str, cmp_eq_bl, cmp_ne_bl, cmp_lt_int, cmp_le_int, cmp_gt_int, cmp_ge_int, cmp_is_non, cmp_is_int, cmp_is_tup, cmp_isn_non, cmp_isn_int, cmp_isn_tup, cmp_is_bl, cmp_isn_bl, cmp_in_str, isi_bl, isi_int, isi_str, isi_tup, isi_lst, isi_non, truth_bl, len_tup, len_lst, len_fro, idx_tup, idx_lst, idx_fro, isStr, seqI_str, seqI_tup, seqI_lst, decide_true, decide_false, if_true, if_false, ↓reduceIte, eq_self, Bool.false_eq_true, Bool.true_or, Bool.or_true, Bool.false_or, Bool.or_false, Bool.true_and, Bool.and_true, Bool.false_and, Bool.and_false, Bool.not_true, Bool.not_false, reduceCtorEq, and_self, and_true, true_and, ite_self, size16, Nat.reduceAdd, Nat.reduceLeDiff, Nat.zero_le]) (fun _ _ _ _ => rfl) (fun i hi r1 S1 hI => by
        obtain ⟨v6, v7, rfl, rfl⟩ := hI
        have e := workL_succ ws es bk i hi
        have bl := workL_len (ws := ws) h.nl (bk.take i)
        have ml : (bk.take i).length ≤ 100 := by rw [List.length_take]; omega
        generalize bk[i] = b at e
        have no := fun S => cfg_ok (needs_of_ok F.nof es b.1 b.2 n S)
        have nl := ndsAt_len h.nl b.1 b.2
        have l1 : ∀ S2, evalL (G.cfg (n + 1)) c_needs_at_work_l1 [some (.tup (es.map En.d)), some (.tup (ws.map Nd.d)), some (.tup (bk.map bkD)), some (.ref S.length), none, none, some (.str b.1), some b.2.d] S2 = .ok ((ndsAt es b.1 b.2).map fun q => wkD (b.1, q), S2) := fun S2 =>
          eval_comp (ndsAt es b.1 b.2) Nd.d _ (by simp only [Rf.execs, Rf.execS, evalE, evalEs, evalO, evalT, evalL, evalC, evalI, bd_k, of_some, startE, bindT, wipeT, List.map_cons, List.map_nil, List.length_cons, List.length_nil, List.replicate, List.cons_append, List.nil_append, List.getElem?_cons_zero, List.getElem?_cons_succ, List.set_cons_zero, List.set_cons_succ, Option.map_some, Option.map_none, Option.bind_some, Option.bind_none, cmp_eq_int, cmp_ne_int, cmp_eq_str, cmp_ne_str, cmp_eq_bl, cmp_ne_bl, cmp_lt_int, cmp_le_int, cmp_gt_int, cmp_ge_int, cmp_is_non, cmp_is_int, cmp_is_tup, cmp_isn_non, cmp_isn_int, cmp_isn_tup, cmp_is_bl, cmp_isn_bl, cmp_in_str, isi_bl, isi_int, isi_str, isi_tup, isi_lst, isi_non, truth_bl, len_tup, len_lst, len_fro, idx_tup, idx_lst, idx_fro, isStr, seqI_str, seqI_tup, seqI_lst, decide_true, decide_false, if_true, if_false, ↓reduceIte, eq_self, Bool.false_eq_true, Bool.true_or, Bool.or_true, Bool.false_or, Bool.or_false, Bool.true_and, Bool.and_true, Bool.false_and, Bool.and_false, Bool.not_true, Bool.not_false, reduceCtorEq, and_self, and_true, true_and, ite_self, size16, Nat.reduceAdd, Nat.reduceLeDiff, Nat.zero_le, no]) (by rw [size16]; omega) fun q hq => ⟨_, nd_bind q _ 4 5, by simp only [Rf.execs, Rf.execS, evalE, evalEs, evalO, evalT, evalL, evalC, evalI, bd_k, of_some, startE, bindT, wipeT, List.map_cons, List.map_nil, List.length_cons, List.length_nil, List.replicate, List.cons_append, List.nil_append, List.getElem?_cons_zero, List.getElem?_cons_succ, List.set_cons_zero, List.set_cons_succ, Option.map_some, Option.map_none, Option.bind_some, Option.bind_none, cmp_eq_int, cmp_ne_int, cmp_eq_str, cmp_ne_str, cmp_eq_bl, cmp_ne_bl, cmp_lt_int, cmp_le_int, cmp_gt_int, cmp_ge_int, cmp_is_non, cmp_is_int, cmp_is_tup, cmp_isn_non, cmp_isn_int, cmp_isn_tup, cmp_is_bl, cmp_isn_bl, cmp_in_str, isi_bl, isi_int, isi_str, isi_tup, isi_lst, isi_non, truth_bl, len_tup, len_lst, len_fro, idx_tup, idx_lst, idx_fro, isStr, seqI_str, seqI_tup, seqI_lst, decide_true, decide_false, if_true, if_false, ↓reduceIte, eq_self, Bool.false_eq_true, Bool.true_or, Bool.or_true, Bool.false_or, Bool.or_false, Bool.true_and, Bool.and_true, Bool.false_and, Bool.and_false, Bool.not_true, Bool.not_false, reduceCtorEq, and_self, and_true, true_and, ite_self, size16, Nat.reduceAdd, Nat.reduceLeDiff, Nat.zero_le]; rfl⟩
        have xt := ext_endB S ((workL ws es (bk.take i)).map wkD) ((ndsAt es b.1 b.2).map fun q => wkD (b.1, q)) (by rw [size16, List.length_map, List.length_map]; omega)
        refine ⟨_, bk_bind b _ 6 7, [some (.tup (es.map En.d)), some (.tup (ws.map Nd.d)), some (.tup (bk.map bkD)), some (.ref S.length), none, none, some (.str b.1), some b.2.d], S ++ [.lst ((workL ws es (bk.take (i + 1))).map wkD)], ?_, _, _, rfl, rfl⟩
        rw [e, List.map_append, List.map_map]
        simp only [c_needs_at_work_b0, Rf.execs, Rf.execS, evalE, evalEs, evalO, evalT, evalL, evalC, evalI, bd_k, of_some, startE, bindT, wipeT, List.map_cons, List.map_nil, List.length_cons, List.length_nil, List.replicate, List.cons_append, List.nil_append, List.getElem?_cons_zero, List.getElem?_cons_succ, List.set_cons_zero, List.set_cons_succ, Option.map_some, Option.map_none, Option.bind_some, Option.bind_none, cmp_eq_int, cmp_ne_int, cmp_eq_str, cmp_ne_str, cmp_eq_bl, cmp_ne_bl, cmp_lt_int, cmp_le_int, cmp_gt_int, cmp_ge_int, cmp_is_non, cmp_is_int, cmp_is_tup, cmp_isn_non, cmp_isn_int, cmp_isn_tup, cmp_is_bl, cmp_isn_bl, cmp_in_str, isi_bl, isi_int, isi_str, isi_tup, isi_lst, isi_non, truth_bl, len_tup, len_lst, len_fro, idx_tup, idx_lst, idx_fro, isStr, seqI_str, seqI_tup, seqI_lst, decide_true, decide_false, if_true, if_false, ↓reduceIte, eq_self, Bool.false_eq_true, Bool.true_or, Bool.or_true, Bool.false_or, Bool.or_false, Bool.true_and, Bool.and_true, Bool.false_and, Bool.and_false, Bool.not_true, Bool.not_false, reduceCtorEq, and_self, and_true, true_and, ite_self, size16, Nat.reduceAdd, Nat.reduceLeDiff, Nat.zero_le, l1, isMut_end, xt]; try rfl) ⟨none, none, rfl, rfl⟩
    subst hr hS
    rw [List.take_length] at hx
    refine ret_step hx ⟨_, by simp only [Rf.execs, Rf.execS, evalE, evalEs, evalO, evalT, evalL, evalC, evalI, bd_k, of_some, startE, bindT, wipeT, List.map_cons, List.map_nil, List.length_cons, List.length_nil, List.replicate, List.cons_append, List.nil_append, List.getElem?_cons_zero, List.getElem?_cons_succ, List.set_cons_zero, List.set_cons_succ, Option.map_some, Option.map_none, Option.bind_some, Option.bind_none, cmp_eq_int, cmp_ne_int, cmp_eq_str, cmp_ne_str, cmp_eq_bl, cmp_ne_bl, cmp_lt_int, cmp_le_int, cmp_gt_int, cmp_ge_int, cmp_is_non, cmp_is_int, cmp_is_tup, cmp_isn_non, cmp_isn_int, cmp_isn_tup, cmp_is_bl, cmp_isn_bl, cmp_in_str, isi_bl, isi_int, isi_str, isi_tup, isi_lst, isi_non, truth_bl, len_tup, len_lst, len_fro, idx_tup, idx_lst, idx_fro, isStr, seqI_str, seqI_tup, seqI_lst, decide_true, decide_false, if_true, if_false, ↓reduceIte, eq_self, Bool.false_eq_true, Bool.true_or, Bool.or_true, Bool.false_or, Bool.or_false, Bool.true_and, Bool.and_true, Bool.false_and, Bool.and_false, Bool.not_true, Bool.not_false, reduceCtorEq, and_self, and_true, true_and, ite_self, size16, Nat.reduceAdd, Nat.reduceLeDiff, Nat.zero_le]; rfl⟩
  obtain ⟨r', ex⟩ := ex
  exact callF_eq F.naw rfl (by decide) ex rfl (freeze_ref0 [] (D.purs_map _ wkD_pur _))
theorem wfold_no (x : Str) (m : Make) (f : List Nd → List Wk) : ∀ (l : List En) (s : List Wk), (∀ o ∈ l, ¬ (o.x = x ∧ o.m = m)) → l.foldl (fun s o => if o.x = x ∧ o.m = m then s ++ f o.ns else s) s = s
  | [], s, _ => rfl
  | o :: l, s, h => by
    rw [List.foldl_cons, if_neg (h o (by simp))]
    exact wfold_no x m f l s fun u hu => h u (by simp [hu])
theorem nfold_no (x : Str) (m : Make) : ∀ (l : List En) (s : List Nd), (∀ o ∈ l, ¬ (o.x = x ∧ o.m = m)) → l.foldl (fun s o => if o.x = x ∧ o.m = m then o.ns else s) s = s
  | [], s, _ => rfl
  | o :: l, s, h => by
    rw [List.foldl_cons, if_neg (h o (by simp))]
    exact nfold_no x m l s fun u hu => h u (by simp [hu])
theorem wfold (x : Str) (m : Make) (f : List Nd → List Wk) (f0 : f [] = []) : ∀ (l : List En) (s : List Wk), l.Pairwise (fun a b => ¬ a.same b) → l.foldl (fun s o => if o.x = x ∧ o.m = m then s ++ f o.ns else s) s = s ++ f (ndsAt l x m)
  | [], s, _ => by show s = s ++ f []; rw [f0, List.append_nil]
  | o :: l, s, h => by
    obtain ⟨h1, h2⟩ := List.pairwise_cons.mp h
    unfold ndsAt
    rw [List.foldl_cons, List.foldl_cons]
    by_cases q : o.x = x ∧ o.m = m
    · have no : ∀ u ∈ l, ¬ (u.x = x ∧ u.m = m) := fun u hu k => h1 u hu ⟨q.1.trans k.1.symm, q.2.trans k.2.symm⟩
      rw [if_pos q, if_pos q, wfold_no x m f l _ no, nfold_no x m l _ no]
    · rw [if_neg q, if_neg q]
      exact wfold x m f f0 l s h2
theorem wfold_len (x : Str) (m : Make) (f : List Nd → List Wk) (hf : ∀ l, (f l).length = l.length) {k : Nat} : ∀ (l : List En) (s : List Wk), (∀ e ∈ l, e.ns.length ≤ k) → (l.foldl (fun s o => if o.x = x ∧ o.m = m then s ++ f o.ns else s) s).length ≤ s.length + l.length * k
  | [], s, _ => by simp
  | o :: l, s, h => by
    rw [List.foldl_cons, List.length_cons, Nat.succ_mul]
    have ih := wfold_len x m f hf (k := k) l (if o.x = x ∧ o.m = m then s ++ f o.ns else s) fun e he => h e (by simp [he])
    have : (if o.x = x ∧ o.m = m then s ++ f o.ns else s).length ≤ s.length + k := by
      split
      · have := h o (by simp); rw [List.length_append, hf]; omega
      · omega
    omega
theorem law_at_work_ok {G : Gam} (F : FWork G) {ws : List Nd} {es : List En} {bk : List Bk} (h : BOk ws es bk) (pw : es.Pairwise fun a b => ¬ a.same b) (n : Nat) (S : Store) : callF G (n + 1) "_law_at_work" [.tup (es.map En.d), .tup (ws.map Nd.d), .tup (bk.map bkD)] S = .ok (.lst ((workL ws es bk).map wkD), S) := by
  have h1 := h.wl
  have h2 := h.bl
  have h3 := h.el
  refine callF_pur0 F.law rfl (by decide) (D.purs_map _ wkD_pur _) ?_
  have l0 : evalL (G.cfg n) c__law_at_work_l0 [some (.tup (es.map En.d)), some (.tup (ws.map Nd.d)), some (.tup (bk.map bkD)), none, none, none, none, none] S = .ok (ws.map fun q => wkD ("", q), S) :=
    eval_comp ws Nd.d _ (by simp only [Rf.execs, Rf.execS, evalE, evalEs, evalO, evalT, evalL, evalC, evalI, bd_k, of_some, startE, bindT, wipeT, List.map_cons, List.map_nil, List.length_cons, List.length_nil, List.replicate, List.cons_append, List.nil_append, List.getElem?_cons_zero, List.getElem?_cons_succ, List.set_cons_zero, List.set_cons_succ, Option.map_some, Option.map_none, Option.bind_some, Option.bind_none, cmp_eq_int, cmp_ne_int, cmp_eq_str, cmp_ne_str, cmp_eq_bl, cmp_ne_bl, cmp_lt_int, cmp_le_int, cmp_gt_int, cmp_ge_int, cmp_is_non, cmp_is_int, cmp_is_tup, cmp_isn_non, cmp_isn_int, cmp_isn_tup, cmp_is_bl, cmp_isn_bl, cmp_in_str, isi_bl, isi_int, isi_str, isi_tup, isi_lst, isi_non, truth_bl, len_tup, len_lst, len_fro, idx_tup, idx_lst, idx_fro, isStr, seqI_str, seqI_tup, seqI_lst, decide_true, decide_false, if_true, if_false, ↓reduceIte, eq_self, Bool.false_eq_true, Bool.true_or, Bool.or_true, Bool.false_or, Bool.or_false, Bool.true_and, Bool.and_true, Bool.false_and, Bool.and_false, Bool.not_true, Bool.not_false, reduceCtorEq, and_self, and_true, true_and, ite_self, size16, Nat.reduceAdd, Nat.reduceLeDiff, Nat.zero_le]) (by rw [size16]; omega) fun q hq => ⟨_, rfl, by
      have q0 : idxD S q.d (.int 0) = some (.str q.x) := rfl
      have q1 : idxD S q.d (.int 1) = some (spanD q.s) := rfl
      simp only [Rf.execs, Rf.execS, evalE, evalEs, evalO, evalT, evalL, evalC, evalI, bd_k, of_some, startE, bindT, wipeT, List.map_cons, List.map_nil, List.length_cons, List.length_nil, List.replicate, List.cons_append, List.nil_append, List.getElem?_cons_zero, List.getElem?_cons_succ, List.set_cons_zero, List.set_cons_succ, Option.map_some, Option.map_none, Option.bind_some, Option.bind_none, cmp_eq_int, cmp_ne_int, cmp_eq_str, cmp_ne_str, cmp_eq_bl, cmp_ne_bl, cmp_lt_int, cmp_le_int, cmp_gt_int, cmp_ge_int, cmp_is_non, cmp_is_int, cmp_is_tup, cmp_isn_non, cmp_isn_int, cmp_isn_tup, cmp_is_bl, cmp_isn_bl, cmp_in_str, isi_bl, isi_int, isi_str, isi_tup, isi_lst, isi_non, truth_bl, len_tup, len_lst, len_fro, idx_tup, idx_lst, idx_fro, isStr, seqI_str, seqI_tup, seqI_lst, decide_true, decide_false, if_true, if_false, ↓reduceIte, eq_self, Bool.false_eq_true, Bool.true_or, Bool.or_true, Bool.false_or, Bool.or_false, Bool.true_and, Bool.and_true, Bool.false_and, Bool.and_false, Bool.not_true, Bool.not_false, reduceCtorEq, and_self, and_true, true_and, ite_self, size16, Nat.reduceAdd, Nat.reduceLeDiff, Nat.zero_le, q0, q1]; rfl⟩
  have w0 : workL ws es (bk.take 0) = ws.map fun q => (("" : Str), q) := by unfold workL; simp
  refine ret_step (r1 := [some (.tup (es.map En.d)), some (.tup (ws.map Nd.d)), some (.tup (bk.map bkD)), some (.lst ((workL ws es (bk.take 0)).map wkD)), none, none, none, none]) (S1 := S) ?_ ?_
  · rw [w0, List.map_map]
    show execS _ _ [some (.tup (es.map En.d)), some (.tup (ws.map Nd.d)), some (.tup (bk.map bkD)), none, none, none, none, none] S = _
    simp only [Rf.execs, Rf.execS, evalE, evalEs, evalO, evalT, evalL, evalC, evalI, bd_k, of_some, startE, bindT, wipeT, List.map_cons, List.map_nil, List.length_cons, List.length_nil, List.replicate, List.cons_append, List.nil_append, List.getElem?_cons_zero, List.getElem?_cons_succ, List.set_cons_zero, List.set_cons_succ, Option.map_some, Option.map_none, Option.bind_some, Option.bind_none, cmp_eq_int, cmp_ne_int, cmp_eq_str, cmp_ne_str, cmp_eq_bl, cmp_ne_bl, cmp_lt_int, cmp_le_int, cmp_gt_int, cmp_ge_int, cmp_is_non, cmp_is_int, cmp_is_tup, cmp_isn_non, cmp_isn_int, cmp_isn_tup, cmp_is_bl, cmp_isn_bl, cmp_in_str, isi_bl, isi_int, isi_str, isi_tup, isi_lst, isi_non, truth_bl, len_tup, len_lst, len_fro, idx_tup, idx_lst, idx_fro, isStr, seqI_str, seqI_tup, seqI_lst, decide_true, decide_false, if_true, if_false, ↓reduceIte, eq_self, Bool.false_eq_true, Bool.true_or, Bool.or_true, Bool.false_or, Bool.or_false, Bool.true_and, Bool.and_true, Bool.false_and, Bool.and_false, Bool.not_true, Bool.not_false, reduceCtorEq, and_self, and_true, true_and, ite_self, size16, Nat.reduceAdd, Nat.reduceLeDiff, Nat.zero_le, l0]; try rfl
  obtain ⟨r', S', hx, v5, v6, v7, hr, hS⟩ := exec_for_ix (c := G.cfg n) (tg := .tp [5, 6]) (it := .seq (.var 2)) (b := c__law_at_work_b1) (S := S) (r := [some (.tup (es.map En.d)), some (.tup (ws.map Nd.d)), some (.tup (bk.map bkD)), some (.lst ((workL ws es (bk.take 0)).map wkD)), none, none, none, none])
    bk bkD (w := fun _ => true) (fun i r' S' => ∃ v5 v6 v7, r' = [some (.tup (es.map En.d)), some (.tup (ws.map Nd.d)), some (.tup (bk.map bkD)), some (.lst ((workL ws es (bk.take i)).map wkD)), none, v5, v6, v7] ∧ S' = S)
    (by simp only [Rf.execs, Rf.execS, evalE, evalEs, evalO, evalT, evalL, evalC, evalI, bd_k, of_some, startE, bindT, wipeT, List.map_cons, List.map_nil, List.length_cons, List.length_nil, List.replicate, List.cons_append, List.nil_append, List.getElem?_cons_zero, List.getElem?_cons_succ, List.set_cons_zero, List.set_cons_succ, Option.map_some, Option.map_none, Option.bind_some, Option.bind_none, cmp_eq_int, cmp_ne_int, cmp_eq_str, cmp_ne_str, cmp_eq_bl, cmp_ne_bl, cmp_lt_int, cmp_le_int, cmp_gt_int, cmp_ge_int, cmp_is_non, cmp_is_int, cmp_is_tup, cmp_isn_non, cmp_isn_int, cmp_isn_tup, cmp_is_bl, cmp_isn_bl, cmp_in_str, isi_bl, isi_int, isi_str, isi_tup, isi_lst, isi_non, truth_bl, len_tup, len_lst, len_fro, idx_tup, idx_lst, idx_fro, isStr, seqI_str, seqI_tup, seqI_lst, decide_true, decide_false, if_true, if_false, ↓reduceIte, eq_self, Bool.false_eq_true, Bool.true_or, Bool.or_true, Bool.false_or, Bool.or_false, Bool.true_and, Bool.and_true, Bool.false_and, Bool.and_false, Bool.not_true, Bool.not_false, reduceCtorEq, and_self, and_true, true_and, ite_self, size16, Nat.reduceAdd, Nat.reduceLeDiff, Nat.zero_le]) (fun _ _ _ _ => rfl) (fun i hi r1 S1 hI => by
      obtain ⟨v5, v6, v7, rfl, rfl⟩ := hI
      have e := workL_succ ws es bk i hi
      have bl := workL_len (ws := ws) h.nl (bk.take i)
      have ml : (bk.take i).length ≤ 100 := by rw [List.length_take]; omega
      generalize bk[i] = b at e
      obtain ⟨f, hf⟩ : ∃ f : List Nd → List Wk, f = fun l => l.map fun q => (b.1, q) := ⟨_, rfl⟩
      obtain ⟨W, hW⟩ : ∃ W, W = workL ws es (bk.take i) := ⟨_, rfl⟩
      have fx : ∀ k s, s = (es.take k).foldl (fun s o => if o.x = b.1 ∧ o.m = b.2 then s ++ f o.ns else s) W → s.length ≤ 10200 + 100 * 100 := fun k s hs => by
        have := wfold_len b.1 b.2 f (by rw [hf]; simp) (k := 100) (es.take k) W fun e he => h.nl e (List.mem_of_mem_take he)
        have tl : (es.take k).length ≤ 100 := by rw [List.length_take]; omega
        rw [hs]
        rw [← hW] at bl
        omega
      obtain ⟨r', S', hx, v7', hr, hS⟩ := exec_for_ix (c := G.cfg n) (tg := .nm 7) (it := .seq (.var 0)) (b := c__law_at_work_b0) (S := S1) (r := [some (.tup (es.map En.d)), some (.tup (ws.map Nd.d)), some (.tup (bk.map bkD)), some (.lst (W.map wkD)), none, some (.str b.1), some b.2.d, v7])
        es En.d (w := fun _ => true) (fun k r' S' => ∃ v7, r' = [some (.tup (es.map En.d)), some (.tup (ws.map Nd.d)), some (.tup (bk.map bkD)), some (.lst (((es.take k).foldl (fun s o => if o.x = b.1 ∧ o.m = b.2 then s ++ f o.ns else s) W).map wkD)), none, some (.str b.1), some b.2.d, v7] ∧ S' = S1)
        (by simp only [Rf.execs, Rf.execS, evalE, evalEs, evalO, evalT, evalL, evalC, evalI, bd_k, of_some, startE, bindT, wipeT, List.map_cons, List.map_nil, List.length_cons, List.length_nil, List.replicate, List.cons_append, List.nil_append, List.getElem?_cons_zero, List.getElem?_cons_succ, List.set_cons_zero, List.set_cons_succ, Option.map_some, Option.map_none, Option.bind_some, Option.bind_none, cmp_eq_int, cmp_ne_int, cmp_eq_str, cmp_ne_str, cmp_eq_bl, cmp_ne_bl, cmp_lt_int, cmp_le_int, cmp_gt_int, cmp_ge_int, cmp_is_non, cmp_is_int, cmp_is_tup, cmp_isn_non, cmp_isn_int, cmp_isn_tup, cmp_is_bl, cmp_isn_bl, cmp_in_str, isi_bl, isi_int, isi_str, isi_tup, isi_lst, isi_non, truth_bl, len_tup, len_lst, len_fro, idx_tup, idx_lst, idx_fro, isStr, seqI_str, seqI_tup, seqI_lst, decide_true, decide_false, if_true, if_false, ↓reduceIte, eq_self, Bool.false_eq_true, Bool.true_or, Bool.or_true, Bool.false_or, Bool.or_false, Bool.true_and, Bool.and_true, Bool.false_and, Bool.and_false, Bool.not_true, Bool.not_false, reduceCtorEq, and_self, and_true, true_and, ite_self, size16, Nat.reduceAdd, Nat.reduceLeDiff, Nat.zero_le]) (fun _ _ _ _ => rfl) (fun k hk r1 S2 hI => by
          obtain ⟨v7, rfl, rfl⟩ := hI
          have tk : es.take (k + 1) = es.take k ++ [es[k]] := List.take_succ_eq_append_getElem hk
          have ol := h.nl es[k] (List.getElem_mem hk)
          have sl := fx k _ rfl
          rw [tk, List.foldl_append, List.foldl_cons, List.foldl_nil]
          generalize (es.take k).foldl (fun s o => if o.x = b.1 ∧ o.m = b.2 then s ++ f o.ns else s) W = s at sl
          generalize es[k] = o at ol
          have he := hd_eq S2 o b.1 b.2
          refine ⟨_, rfl, [some (.tup (es.map En.d)), some (.tup (ws.map Nd.d)), some (.tup (bk.map bkD)), some (.lst ((if o.x = b.1 ∧ o.m = b.2 then s ++ f o.ns else s).map wkD)), none, some (.str b.1), some b.2.d, some o.d], S2, ?_, _, rfl, rfl⟩
          by_cases q : o.x = b.1 ∧ o.m = b.2
          · rw [decide_eq_true q] at he
            rw [if_pos q]
            have l1 : evalL (G.cfg n) c__law_at_work_l1 [some (.tup (es.map En.d)), some (.tup (ws.map Nd.d)), some (.tup (bk.map bkD)), some (.lst (s.map wkD)), none, some (.str b.1), some b.2.d, some o.d] S2 = .ok (o.ns.map fun q => wkD (b.1, q), S2) :=
              eval_comp o.ns Nd.d _ (by simp only [Rf.execs, Rf.execS, evalE, evalEs, evalO, evalT, evalL, evalC, evalI, bd_k, of_some, startE, bindT, wipeT, List.map_cons, List.map_nil, List.length_cons, List.length_nil, List.replicate, List.cons_append, List.nil_append, List.getElem?_cons_zero, List.getElem?_cons_succ, List.set_cons_zero, List.set_cons_succ, Option.map_some, Option.map_none, Option.bind_some, Option.bind_none, cmp_eq_int, cmp_ne_int, cmp_eq_str, cmp_ne_str, cmp_eq_bl, cmp_ne_bl, cmp_lt_int, cmp_le_int, cmp_gt_int, cmp_ge_int, cmp_is_non, cmp_is_int, cmp_is_tup, cmp_isn_non, cmp_isn_int, cmp_isn_tup, cmp_is_bl, cmp_isn_bl, cmp_in_str, isi_bl, isi_int, isi_str, isi_tup, isi_lst, isi_non, truth_bl, len_tup, len_lst, len_fro, idx_tup, idx_lst, idx_fro, isStr, seqI_str, seqI_tup, seqI_lst, decide_true, decide_false, if_true, if_false, ↓reduceIte, eq_self, Bool.false_eq_true, Bool.true_or, Bool.or_true, Bool.false_or, Bool.or_false, Bool.true_and, Bool.and_true, Bool.false_and, Bool.and_false, Bool.not_true, Bool.not_false, reduceCtorEq, and_self, and_true, true_and, ite_self, size16, Nat.reduceAdd, Nat.reduceLeDiff, Nat.zero_le, en_at2]) (by rw [size16]; omega) fun q hq => ⟨_, rfl, by
                have q0 : idxD S2 q.d (.int 0) = some (.str q.x) := rfl
                have q1 : idxD S2 q.d (.int 1) = some (spanD q.s) := rfl
                simp only [Rf.execs, Rf.execS, evalE, evalEs, evalO, evalT, evalL, evalC, evalI, bd_k, of_some, startE, bindT, wipeT, List.map_cons, List.map_nil, List.length_cons, List.length_nil, List.replicate, List.cons_append, List.nil_append, List.getElem?_cons_zero, List.getElem?_cons_succ, List.set_cons_zero, List.set_cons_succ, Option.map_some, Option.map_none, Option.bind_some, Option.bind_none, cmp_eq_int, cmp_ne_int, cmp_eq_str, cmp_ne_str, cmp_eq_bl, cmp_ne_bl, cmp_lt_int, cmp_le_int, cmp_gt_int, cmp_ge_int, cmp_is_non, cmp_is_int, cmp_is_tup, cmp_isn_non, cmp_isn_int, cmp_isn_tup, cmp_is_bl, cmp_isn_bl, cmp_in_str, isi_bl, isi_int, isi_str, isi_tup, isi_lst, isi_non, truth_bl, len_tup, len_lst, len_fro, idx_tup, idx_lst, idx_fro, isStr, seqI_str, seqI_tup, seqI_lst, decide_true, decide_false, if_true, if_false, ↓reduceIte, eq_self, Bool.false_eq_true, Bool.true_or, Bool.or_true, Bool.false_or, Bool.or_false, Bool.true_and, Bool.and_true, Bool.false_and, Bool.and_false, Bool.not_true, Bool.not_false, reduceCtorEq, and_self, and_true, true_and, ite_self, size16, Nat.reduceAdd, Nat.reduceLeDiff, Nat.zero_le, q0, q1]; rfl⟩
            have ct : catL S2 (.lst (s.map wkD)) (.lst (o.ns.map fun q => wkD (b.1, q))) = some ((s ++ f o.ns).map wkD) := by
              show (if (s.map wkD).length + (o.ns.map fun q => wkD (b.1, q)).length ≤ sizeLine then _ else none) = _
              rw [if_pos (by rw [size16, List.length_map, List.length_map]; omega), List.map_append, hf]
              simp only [List.map_map]; rfl
            simp only [c__law_at_work_b0, Rf.execs, Rf.execS, evalE, evalEs, evalO, evalT, evalL, evalC, evalI, bd_k, of_some, startE, bindT, wipeT, List.map_cons, List.map_nil, List.length_cons, List.length_nil, List.replicate, List.cons_append, List.nil_append, List.getElem?_cons_zero, List.getElem?_cons_succ, List.set_cons_zero, List.set_cons_succ, Option.map_some, Option.map_none, Option.bind_some, Option.bind_none, cmp_eq_int, cmp_ne_int, cmp_eq_str, cmp_ne_str, cmp_eq_bl, cmp_ne_bl, cmp_lt_int, cmp_le_int, cmp_gt_int, cmp_ge_int, cmp_is_non, cmp_is_int, cmp_is_tup, cmp_isn_non, cmp_isn_int, cmp_isn_tup, cmp_is_bl, cmp_isn_bl, cmp_in_str, isi_bl, isi_int, isi_str, isi_tup, isi_lst, isi_non, truth_bl, len_tup, len_lst, len_fro, idx_tup, idx_lst, idx_fro, isStr, seqI_str, seqI_tup, seqI_lst, decide_true, decide_false, if_true, if_false, ↓reduceIte, eq_self, Bool.false_eq_true, Bool.true_or, Bool.or_true, Bool.false_or, Bool.or_false, Bool.true_and, Bool.and_true, Bool.false_and, Bool.and_false, Bool.not_true, Bool.not_false, reduceCtorEq, and_self, and_true, true_and, ite_self, size16, Nat.reduceAdd, Nat.reduceLeDiff, Nat.zero_le, en_slc2, he, l1, ct]
          · rw [decide_eq_false q] at he
            rw [if_neg q]
            simp only [c__law_at_work_b0, Rf.execs, Rf.execS, evalE, evalEs, evalO, evalT, evalL, evalC, evalI, bd_k, of_some, startE, bindT, wipeT, List.map_cons, List.map_nil, List.length_cons, List.length_nil, List.replicate, List.cons_append, List.nil_append, List.getElem?_cons_zero, List.getElem?_cons_succ, List.set_cons_zero, List.set_cons_succ, Option.map_some, Option.map_none, Option.bind_some, Option.bind_none, cmp_eq_int, cmp_ne_int, cmp_eq_str, cmp_ne_str, cmp_eq_bl, cmp_ne_bl, cmp_lt_int, cmp_le_int, cmp_gt_int, cmp_ge_int, cmp_is_non, cmp_is_int, cmp_is_tup, cmp_isn_non, cmp_isn_int, cmp_isn_tup, cmp_is_bl, cmp_isn_bl, cmp_in_str, isi_bl, isi_int, isi_str, isi_tup, isi_lst, isi_non, truth_bl, len_tup, len_lst, len_fro, idx_tup, idx_lst, idx_fro, isStr, seqI_str, seqI_tup, seqI_lst, decide_true, decide_false, if_true, if_false, ↓reduceIte, eq_self, Bool.false_eq_true, Bool.true_or, Bool.or_true, Bool.false_or, Bool.or_false, Bool.true_and, Bool.and_true, Bool.false_and, Bool.and_false, Bool.not_true, Bool.not_false, reduceCtorEq, and_self, and_true, true_and, ite_self, size16, Nat.reduceAdd, Nat.reduceLeDiff, Nat.zero_le, en_slc2, he]) ⟨v7, rfl, rfl⟩
      subst hr hS
      rw [List.take_length, wfold b.1 b.2 f (by rw [hf]; rfl) es W pw] at hx
      refine ⟨_, bk_bind b _ 5 6, [some (.tup (es.map En.d)), some (.tup (ws.map Nd.d)), some (.tup (bk.map bkD)), some (.lst ((workL ws es (bk.take (i + 1))).map wkD)), none, some (.str b.1), some b.2.d, v7'], S', ?_, _, _, _, rfl, rfl⟩
      rw [e, ← hW]
      show execs _ (.cons (.for_ (.nm 7) (.seq (.var 0)) c__law_at_work_b0) .nil) [some (.tup (es.map En.d)), some (.tup (ws.map Nd.d)), some (.tup (bk.map bkD)), some (.lst (W.map wkD)), none, some (.str b.1), some b.2.d, v7] _ = _
      rw [execs_step hx, Rf.execs, hf]) ⟨none, none, none, rfl, rfl⟩
  subst hr hS
  rw [List.take_length] at hx
  refine ret_step hx ⟨_, by simp only [Rf.execs, Rf.execS, evalE, evalEs, evalO, evalT, evalL, evalC, evalI, bd_k, of_some, startE, bindT, wipeT, List.map_cons, List.map_nil, List.length_cons, List.length_nil, List.replicate, List.cons_append, List.nil_append, List.getElem?_cons_zero, List.getElem?_cons_succ, List.set_cons_zero, List.set_cons_succ, Option.map_some, Option.map_none, Option.bind_some, Option.bind_none, cmp_eq_int, cmp_ne_int, cmp_eq_str, cmp_ne_str, cmp_eq_bl, cmp_ne_bl, cmp_lt_int, cmp_le_int, cmp_gt_int, cmp_ge_int, cmp_is_non, cmp_is_int, cmp_is_tup, cmp_isn_non, cmp_isn_int, cmp_isn_tup, cmp_is_bl, cmp_isn_bl, cmp_in_str, isi_bl, isi_int, isi_str, isi_tup, isi_lst, isi_non, truth_bl, len_tup, len_lst, len_fro, idx_tup, idx_lst, idx_fro, isStr, seqI_str, seqI_tup, seqI_lst, decide_true, decide_false, if_true, if_false, ↓reduceIte, eq_self, Bool.false_eq_true, Bool.true_or, Bool.or_true, Bool.false_or, Bool.or_false, Bool.true_and, Bool.and_true, Bool.false_and, Bool.and_false, Bool.not_true, Bool.not_false, reduceCtorEq, and_self, and_true, true_and, ite_self, size16, Nat.reduceAdd, Nat.reduceLeDiff, Nat.zero_le]; rfl⟩


theorem lp_find {α : Type} (p : α → Bool) : ∀ l : List α, lp (σ := Unit) (ρ := α) (fun _ x => if p x = true then .inr x else .inl ()) l () = match l.find? p with
    | some x => .inr x
    | none => .inl ()
  | [] => rfl
  | x :: l => by
    rw [lp, List.find?_cons]
    cases h : p x
    · rw [if_neg (by decide)]
      show lp _ l () = _
      rw [lp_find p l]
    · rw [if_pos rfl]
def metB (bk : List Bk) (q : Nd) : Bool := match bk.find? fun b => decide (b.1 = q.x) with
  | some b => hasS q.s b.2
  | none => false
theorem is_met_ok {G : Gam} (F : FIn G) (hf : List.lookup (Str.ofString "is_met") G.fns = some c_is_met) {bk : List Bk} (hb : ∀ b ∈ bk, b.2.sm) (w : Wk) (hw : w.2.Ok) (n : Nat) (S : Store) :
    callF G (n + 6) "is_met" [wkD w, .tup (bk.map bkD)] S = .ok (.bl (metB bk w.2), S) := by
  refine callF_pur0 hf rfl (by decide) rfl ?_
  have i1 : ∀ S, idxD S (wkD w) (.int 1) = some (.str w.2.x) := fun S => rfl
  have i2 : ∀ S, idxD S (wkD w) (.int 2) = some (spanD w.2.s) := fun S => rfl
  have L := exec_for_lp (c := G.cfg (n + 5)) (tg := .tp [2, 3]) (it := .seq (.var 1)) (b := c_is_met_b0) (S := S) (r := [some (wkD w), some (.tup (bk.map bkD)), none, none])
    bk bkD (w := fun _ => true) (fun (_ : Unit) r' S' => S' = S ∧ ∃ v2 v3, r' = [some (wkD w), some (.tup (bk.map bkD)), v2, v3]) (fun (b : Bk) d _ S' => d = .bl (hasS w.2.s b.2) ∧ S' = S) (fun _ b => if decide (b.1 = w.2.x) = true then .inr b else .inl ()) ()
    (by simp only [Rf.execs, Rf.execS, evalE, evalEs, evalO, evalT, evalL, evalC, evalI, bd_k, of_some, startE, bindT, wipeT, List.map_cons, List.map_nil, List.length_cons, List.length_nil, List.replicate, List.cons_append, List.nil_append, List.getElem?_cons_zero, List.getElem?_cons_succ, List.set_cons_zero, List.set_cons_succ, Option.map_some, Option.map_none, Option.bind_some, Option.bind_none, cmp_eq_int, cmp_ne_int, cmp_eq_str, cmp_ne_str, cmp_eq_bl, cmp_ne_bl, cmp_lt_int, cmp_le_int, cmp_gt_int, cmp_ge_int, cmp_is_non, cmp_is_int, cmp_is_tup, cmp_isn_non, cmp_isn_int, cmp_isn_tup, cmp_is_bl, cmp_isn_bl, cmp_in_str, isi_bl, isi_int, isi_str, isi_tup, isi_lst, isi_non, truth_bl, len_tup, len_lst, len_fro, idx_tup, idx_lst, idx_fro, isStr, seqI_str, seqI_tup, seqI_lst, decide_true, decide_false, if_true, if_false, ↓reduceIte, eq_self, Bool.false_eq_true, Bool.true_or, Bool.or_true, Bool.false_or, Bool.or_false, Bool.true_and, Bool.and_true, Bool.false_and, Bool.and_false, Bool.not_true, Bool.not_false, reduceCtorEq, and_self, and_true, true_and, ite_self, size16, Nat.reduceAdd, Nat.reduceLeDiff, Nat.zero_le]) (fun _ _ _ _ => rfl) (fun b hbm _ r1 S1 h => by
      obtain ⟨rfl, v2, v3, rfl⟩ := h
      refine ⟨[some (wkD w), some (.tup (bk.map bkD)), some (.str b.1), some b.2.d], rfl, ?_⟩
      have lo := cfg_ok (lies_in_ok F b.2 w.2.s (hb b hbm) hw.sm (by have := hw.ln; omega) n S1)
      by_cases q : b.1 = w.2.x
      · rw [decide_eq_true q, if_pos rfl]
        exact ⟨_, _, _, by simp only [c_is_met_b0, Rf.execs, Rf.execS, evalE, evalEs, evalO, evalT, evalL, evalC, evalI, bd_k, of_some, startE, bindT, wipeT, List.map_cons, List.map_nil, List.length_cons, List.length_nil, List.replicate, List.cons_append, List.nil_append, List.getElem?_cons_zero, List.getElem?_cons_succ, List.set_cons_zero, List.set_cons_succ, Option.map_some, Option.map_none, Option.bind_some, Option.bind_none, cmp_eq_int, cmp_ne_int, cmp_eq_str, cmp_ne_str, cmp_eq_bl, cmp_ne_bl, cmp_lt_int, cmp_le_int, cmp_gt_int, cmp_ge_int, cmp_is_non, cmp_is_int, cmp_is_tup, cmp_isn_non, cmp_isn_int, cmp_isn_tup, cmp_is_bl, cmp_isn_bl, cmp_in_str, isi_bl, isi_int, isi_str, isi_tup, isi_lst, isi_non, truth_bl, len_tup, len_lst, len_fro, idx_tup, idx_lst, idx_fro, isStr, seqI_str, seqI_tup, seqI_lst, decide_true, decide_false, if_true, if_false, ↓reduceIte, eq_self, Bool.false_eq_true, Bool.true_or, Bool.or_true, Bool.false_or, Bool.or_false, Bool.true_and, Bool.and_true, Bool.false_and, Bool.and_false, Bool.not_true, Bool.not_false, reduceCtorEq, and_self, and_true, true_and, ite_self, size16, Nat.reduceAdd, Nat.reduceLeDiff, Nat.zero_le, i1, i2, q, lo]; rfl, rfl, rfl⟩
      · rw [decide_eq_false q, if_neg (by decide)]
        exact ⟨_, _, by simp only [c_is_met_b0, Rf.execs, Rf.execS, evalE, evalEs, evalO, evalT, evalL, evalC, evalI, bd_k, of_some, startE, bindT, wipeT, List.map_cons, List.map_nil, List.length_cons, List.length_nil, List.replicate, List.cons_append, List.nil_append, List.getElem?_cons_zero, List.getElem?_cons_succ, List.set_cons_zero, List.set_cons_succ, Option.map_some, Option.map_none, Option.bind_some, Option.bind_none, cmp_eq_int, cmp_ne_int, cmp_eq_str, cmp_ne_str, cmp_eq_bl, cmp_ne_bl, cmp_lt_int, cmp_le_int, cmp_gt_int, cmp_ge_int, cmp_is_non, cmp_is_int, cmp_is_tup, cmp_isn_non, cmp_isn_int, cmp_isn_tup, cmp_is_bl, cmp_isn_bl, cmp_in_str, isi_bl, isi_int, isi_str, isi_tup, isi_lst, isi_non, truth_bl, len_tup, len_lst, len_fro, idx_tup, idx_lst, idx_fro, isStr, seqI_str, seqI_tup, seqI_lst, decide_true, decide_false, if_true, if_false, ↓reduceIte, eq_self, Bool.false_eq_true, Bool.true_or, Bool.or_true, Bool.false_or, Bool.or_false, Bool.true_and, Bool.and_true, Bool.false_and, Bool.and_false, Bool.not_true, Bool.not_false, reduceCtorEq, and_self, and_true, true_and, ite_self, size16, Nat.reduceAdd, Nat.reduceLeDiff, Nat.zero_le, i1, q]; rfl, rfl, _, _, rfl⟩) ⟨rfl, _, _, rfl⟩
  rw [lp_find] at L
  unfold metB
  cases e : bk.find? fun b => decide (b.1 = w.2.x) with
  | some b =>
    rw [e] at L
    obtain ⟨d, r', S', h, rfl, rfl⟩ := L
    exact ⟨_, execs_ret h⟩
  | none =>
    rw [e] at L
    obtain ⟨r', S', h, rfl, v2, v3, rfl⟩ := L
    exact ret_step h ⟨_, by simp only [Rf.execs, Rf.execS, evalE, evalEs, evalO, evalT, evalL, evalC, evalI, bd_k, of_some, startE, bindT, wipeT, List.map_cons, List.map_nil, List.length_cons, List.length_nil, List.replicate, List.cons_append, List.nil_append, List.getElem?_cons_zero, List.getElem?_cons_succ, List.set_cons_zero, List.set_cons_succ, Option.map_some, Option.map_none, Option.bind_some, Option.bind_none, cmp_eq_int, cmp_ne_int, cmp_eq_str, cmp_ne_str, cmp_eq_bl, cmp_ne_bl, cmp_lt_int, cmp_le_int, cmp_gt_int, cmp_ge_int, cmp_is_non, cmp_is_int, cmp_is_tup, cmp_isn_non, cmp_isn_int, cmp_isn_tup, cmp_is_bl, cmp_isn_bl, cmp_in_str, isi_bl, isi_int, isi_str, isi_tup, isi_lst, isi_non, truth_bl, len_tup, len_lst, len_fro, idx_tup, idx_lst, idx_fro, isStr, seqI_str, seqI_tup, seqI_lst, decide_true, decide_false, if_true, if_false, ↓reduceIte, eq_self, Bool.false_eq_true, Bool.true_or, Bool.or_true, Bool.false_or, Bool.or_false, Bool.true_and, Bool.and_true, Bool.false_and, Bool.and_false, Bool.not_true, Bool.not_false, reduceCtorEq, and_self, and_true, true_and, ite_self, size16, Nat.reduceAdd, Nat.reduceLeDiff, Nat.zero_le]; rfl⟩
theorem law_is_met_ok {G : Gam} (hk : List.lookup (Str.ofString "_law_key") G.fns = some c__law_key) (hl : List.lookup (Str.ofString "_law_lies") G.fns = some c__law_lies) (hf : List.lookup (Str.ofString "_law_is_met") G.fns = some c__law_is_met) {bk : List Bk} (hb : ∀ b ∈ bk, b.2.sm) (q : Nd) (hw : q.Ok) (n : Nat) (S : Store) :
    callF G (n + 3) "_law_is_met" [q.d, .tup (bk.map bkD)] S = .ok (.bl (metB bk q), S) := by
  refine callF_pur0 hf rfl (by decide) rfl ?_
  have i1 : ∀ S, idxD S q.d (.int 0) = some (.str q.x) := fun S => rfl
  have i2 : ∀ S, idxD S q.d (.int 1) = some (spanD q.s) := fun S => rfl
  have L := exec_for_lp (c := G.cfg (n + 2)) (tg := .tp [2, 3]) (it := .seq (.var 1)) (b := c__law_is_met_b0) (S := S) (r := [some q.d, some (.tup (bk.map bkD)), none, none])
    bk bkD (w := fun _ => true) (fun (_ : Unit) r' S' => S' = S ∧ ∃ v2 v3, r' = [some q.d, some (.tup (bk.map bkD)), v2, v3]) (fun (b : Bk) d _ S' => d = .bl (hasS q.s b.2) ∧ S' = S) (fun _ b => if decide (b.1 = q.x) = true then .inr b else .inl ()) ()
    (by simp only [Rf.execs, Rf.execS, evalE, evalEs, evalO, evalT, evalL, evalC, evalI, bd_k, of_some, startE, bindT, wipeT, List.map_cons, List.map_nil, List.length_cons, List.length_nil, List.replicate, List.cons_append, List.nil_append, List.getElem?_cons_zero, List.getElem?_cons_succ, List.set_cons_zero, List.set_cons_succ, Option.map_some, Option.map_none, Option.bind_some, Option.bind_none, cmp_eq_int, cmp_ne_int, cmp_eq_str, cmp_ne_str, cmp_eq_bl, cmp_ne_bl, cmp_lt_int, cmp_le_int, cmp_gt_int, cmp_ge_int, cmp_is_non, cmp_is_int, cmp_is_tup, cmp_isn_non, cmp_isn_int, cmp_isn_tup, cmp_is_bl, cmp_isn_bl, cmp_in_str, isi_bl, isi_int, isi_str, isi_tup, isi_lst, isi_non, truth_bl, len_tup, len_lst, len_fro, idx_tup, idx_lst, idx_fro, isStr, seqI_str, seqI_tup, seqI_lst, decide_true, decide_false, if_true, if_false, ↓reduceIte, eq_self, Bool.false_eq_true, Bool.true_or, Bool.or_true, Bool.false_or, Bool.or_false, Bool.true_and, Bool.and_true, Bool.false_and, Bool.and_false, Bool.not_true, Bool.not_false, reduceCtorEq, and_self, and_true, true_and, ite_self, size16, Nat.reduceAdd, Nat.reduceLeDiff, Nat.zero_le]) (fun _ _ _ _ => rfl) (fun b hbm _ r1 S1 h => by
      obtain ⟨rfl, v2, v3, rfl⟩ := h
      refine ⟨[some q.d, some (.tup (bk.map bkD)), some (.str b.1), some b.2.d], rfl, ?_⟩
      have lo := cfg_ok (law_lies_ok hk hl b.2 q.s (hb b hbm) hw.sm n S1)
      by_cases qq : b.1 = q.x
      · rw [decide_eq_true qq, if_pos rfl]
        exact ⟨_, _, _, by simp only [c__law_is_met_b0, Rf.execs, Rf.execS, evalE, evalEs, evalO, evalT, evalL, evalC, evalI, bd_k, of_some, startE, bindT, wipeT, List.map_cons, List.map_nil, List.length_cons, List.length_nil, List.replicate, List.cons_append, List.nil_append, List.getElem?_cons_zero, List.getElem?_cons_succ, List.set_cons_zero, List.set_cons_succ, Option.map_some, Option.map_none, Option.bind_some, Option.bind_none, cmp_eq_int, cmp_ne_int, cmp_eq_str, cmp_ne_str, cmp_eq_bl, cmp_ne_bl, cmp_lt_int, cmp_le_int, cmp_gt_int, cmp_ge_int, cmp_is_non, cmp_is_int, cmp_is_tup, cmp_isn_non, cmp_isn_int, cmp_isn_tup, cmp_is_bl, cmp_isn_bl, cmp_in_str, isi_bl, isi_int, isi_str, isi_tup, isi_lst, isi_non, truth_bl, len_tup, len_lst, len_fro, idx_tup, idx_lst, idx_fro, isStr, seqI_str, seqI_tup, seqI_lst, decide_true, decide_false, if_true, if_false, ↓reduceIte, eq_self, Bool.false_eq_true, Bool.true_or, Bool.or_true, Bool.false_or, Bool.or_false, Bool.true_and, Bool.and_true, Bool.false_and, Bool.and_false, Bool.not_true, Bool.not_false, reduceCtorEq, and_self, and_true, true_and, ite_self, size16, Nat.reduceAdd, Nat.reduceLeDiff, Nat.zero_le, i1, i2, qq, lo]; rfl, rfl, rfl⟩
      · rw [decide_eq_false qq, if_neg (by decide)]
        exact ⟨_, _, by simp only [c__law_is_met_b0, Rf.execs, Rf.execS, evalE, evalEs, evalO, evalT, evalL, evalC, evalI, bd_k, of_some, startE, bindT, wipeT, List.map_cons, List.map_nil, List.length_cons, List.length_nil, List.replicate, List.cons_append, List.nil_append, List.getElem?_cons_zero, List.getElem?_cons_succ, List.set_cons_zero, List.set_cons_succ, Option.map_some, Option.map_none, Option.bind_some, Option.bind_none, cmp_eq_int, cmp_ne_int, cmp_eq_str, cmp_ne_str, cmp_eq_bl, cmp_ne_bl, cmp_lt_int, cmp_le_int, cmp_gt_int, cmp_ge_int, cmp_is_non, cmp_is_int, cmp_is_tup, cmp_isn_non, cmp_isn_int, cmp_isn_tup, cmp_is_bl, cmp_isn_bl, cmp_in_str, isi_bl, isi_int, isi_str, isi_tup, isi_lst, isi_non, truth_bl, len_tup, len_lst, len_fro, idx_tup, idx_lst, idx_fro, isStr, seqI_str, seqI_tup, seqI_lst, decide_true, decide_false, if_true, if_false, ↓reduceIte, eq_self, Bool.false_eq_true, Bool.true_or, Bool.or_true, Bool.false_or, Bool.or_false, Bool.true_and, Bool.and_true, Bool.false_and, Bool.and_false, Bool.not_true, Bool.not_false, reduceCtorEq, and_self, and_true, true_and, ite_self, size16, Nat.reduceAdd, Nat.reduceLeDiff, Nat.zero_le, i1, qq]; rfl, rfl, _, _, rfl⟩) ⟨rfl, _, _, rfl⟩
  rw [lp_find] at L
  unfold metB
  cases e : bk.find? fun b => decide (b.1 = q.x) with
  | some b =>
    rw [e] at L
    obtain ⟨d, r', S', h, rfl, rfl⟩ := L
    exact ⟨_, execs_ret h⟩
  | none =>
    rw [e] at L
    obtain ⟨r', S', h, rfl, v2, v3, rfl⟩ := L
    exact ret_step h ⟨_, by simp only [Rf.execs, Rf.execS, evalE, evalEs, evalO, evalT, evalL, evalC, evalI, bd_k, of_some, startE, bindT, wipeT, List.map_cons, List.map_nil, List.length_cons, List.length_nil, List.replicate, List.cons_append, List.nil_append, List.getElem?_cons_zero, List.getElem?_cons_succ, List.set_cons_zero, List.set_cons_succ, Option.map_some, Option.map_none, Option.bind_some, Option.bind_none, cmp_eq_int, cmp_ne_int, cmp_eq_str, cmp_ne_str, cmp_eq_bl, cmp_ne_bl, cmp_lt_int, cmp_le_int, cmp_gt_int, cmp_ge_int, cmp_is_non, cmp_is_int, cmp_is_tup, cmp_isn_non, cmp_isn_int, cmp_isn_tup, cmp_is_bl, cmp_isn_bl, cmp_in_str, isi_bl, isi_int, isi_str, isi_tup, isi_lst, isi_non, truth_bl, len_tup, len_lst, len_fro, idx_tup, idx_lst, idx_fro, isStr, seqI_str, seqI_tup, seqI_lst, decide_true, decide_false, if_true, if_false, ↓reduceIte, eq_self, Bool.false_eq_true, Bool.true_or, Bool.or_true, Bool.false_or, Bool.or_false, Bool.true_and, Bool.and_true, Bool.false_and, Bool.and_false, Bool.not_true, Bool.not_false, reduceCtorEq, and_self, and_true, true_and, ite_self, size16, Nat.reduceAdd, Nat.reduceLeDiff, Nat.zero_le]; rfl⟩
def brkL (ws : List Nd) (es : List En) (bk : List Bk) : List Wk := (workL ws es bk).filter fun w => !metB bk w.2
structure FBrk (G : Gam) : Prop where
  wk : FWork G
  fin : FIn G
  met : List.lookup (Str.ofString "is_met") G.fns = some c_is_met
  brk : List.lookup (Str.ofString "broken") G.fns = some c_broken
  key : List.lookup (Str.ofString "_law_key") G.fns = some c__law_key
  lies : List.lookup (Str.ofString "_law_lies") G.fns = some c__law_lies
  lmet : List.lookup (Str.ofString "_law_is_met") G.fns = some c__law_is_met
  lbrk : List.lookup (Str.ofString "_law_broken") G.fns = some c__law_broken
theorem broken_ok {G : Gam} (F : FBrk G) {ws : List Nd} {es : List En} {bk : List Bk} (h : BOk ws es bk) (n : Nat) (S : Store) :
    callF G (n + 7) "broken" [.tup (es.map En.d), .tup (ws.map Nd.d), .tup (bk.map bkD)] S = .ok (.ref S.length, S ++ [.lst ((brkL ws es bk).map wkD)]) := by
  obtain ⟨w1, w2⟩ := h.work
  have nw := cfg_ok (needs_at_work_ok F.wk h (n + 4) S)
  have l0 : evalL (G.cfg (n + 6)) c_broken_l0 [some (.tup (es.map En.d)), some (.tup (ws.map Nd.d)), some (.tup (bk.map bkD)), none] S = .ok ((brkL ws es bk).map wkD, S) :=
    eval_compF (workL ws es bk) wkD _ _ (by simp only [Rf.execs, Rf.execS, evalE, evalEs, evalO, evalT, evalL, evalC, evalI, bd_k, of_some, startE, bindT, wipeT, List.map_cons, List.map_nil, List.length_cons, List.length_nil, List.replicate, List.cons_append, List.nil_append, List.getElem?_cons_zero, List.getElem?_cons_succ, List.set_cons_zero, List.set_cons_succ, Option.map_some, Option.map_none, Option.bind_some, Option.bind_none, cmp_eq_int, cmp_ne_int, cmp_eq_str, cmp_ne_str, cmp_eq_bl, cmp_ne_bl, cmp_lt_int, cmp_le_int, cmp_gt_int, cmp_ge_int, cmp_is_non, cmp_is_int, cmp_is_tup, cmp_isn_non, cmp_isn_int, cmp_isn_tup, cmp_is_bl, cmp_isn_bl, cmp_in_str, isi_bl, isi_int, isi_str, isi_tup, isi_lst, isi_non, truth_bl, len_tup, len_lst, len_fro, idx_tup, idx_lst, idx_fro, isStr, seqI_str, seqI_tup, seqI_lst, decide_true, decide_false, if_true, if_false, ↓reduceIte, eq_self, Bool.false_eq_true, Bool.true_or, Bool.or_true, Bool.false_or, Bool.or_false, Bool.true_and, Bool.and_true, Bool.false_and, Bool.and_false, Bool.not_true, Bool.not_false, reduceCtorEq, and_self, and_true, true_and, ite_self, size16, Nat.reduceAdd, Nat.reduceLeDiff, Nat.zero_le, nw]) (by rw [size16]; omega) fun w hw => ⟨_, rfl, by
      have m := cfg_ok (is_met_ok F.fin F.met h.b w (w1 w hw) n S)
      cases q : metB bk w.2 <;> (rw [q] at m; simp only [Rf.execs, Rf.execS, evalE, evalEs, evalO, evalT, evalL, evalC, evalI, bd_k, of_some, startE, bindT, wipeT, List.map_cons, List.map_nil, List.length_cons, List.length_nil, List.replicate, List.cons_append, List.nil_append, List.getElem?_cons_zero, List.getElem?_cons_succ, List.set_cons_zero, List.set_cons_succ, Option.map_some, Option.map_none, Option.bind_some, Option.bind_none, cmp_eq_int, cmp_ne_int, cmp_eq_str, cmp_ne_str, cmp_eq_bl, cmp_ne_bl, cmp_lt_int, cmp_le_int, cmp_gt_int, cmp_ge_int, cmp_is_non, cmp_is_int, cmp_is_tup, cmp_isn_non, cmp_isn_int, cmp_isn_tup, cmp_is_bl, cmp_isn_bl, cmp_in_str, isi_bl, isi_int, isi_str, isi_tup, isi_lst, isi_non, truth_bl, len_tup, len_lst, len_fro, idx_tup, idx_lst, idx_fro, isStr, seqI_str, seqI_tup, seqI_lst, decide_true, decide_false, if_true, if_false, ↓reduceIte, eq_self, Bool.false_eq_true, Bool.true_or, Bool.or_true, Bool.false_or, Bool.or_false, Bool.true_and, Bool.and_true, Bool.false_and, Bool.and_false, Bool.not_true, Bool.not_false, reduceCtorEq, and_self, and_true, true_and, ite_self, size16, Nat.reduceAdd, Nat.reduceLeDiff, Nat.zero_le, m]), fun _ => by simp only [Rf.execs, Rf.execS, evalE, evalEs, evalO, evalT, evalL, evalC, evalI, bd_k, of_some, startE, bindT, wipeT, List.map_cons, List.map_nil, List.length_cons, List.length_nil, List.replicate, List.cons_append, List.nil_append, List.getElem?_cons_zero, List.getElem?_cons_succ, List.set_cons_zero, List.set_cons_succ, Option.map_some, Option.map_none, Option.bind_some, Option.bind_none, cmp_eq_int, cmp_ne_int, cmp_eq_str, cmp_ne_str, cmp_eq_bl, cmp_ne_bl, cmp_lt_int, cmp_le_int, cmp_gt_int, cmp_ge_int, cmp_is_non, cmp_is_int, cmp_is_tup, cmp_isn_non, cmp_isn_int, cmp_isn_tup, cmp_is_bl, cmp_isn_bl, cmp_in_str, isi_bl, isi_int, isi_str, isi_tup, isi_lst, isi_non, truth_bl, len_tup, len_lst, len_fro, idx_tup, idx_lst, idx_fro, isStr, seqI_str, seqI_tup, seqI_lst, decide_true, decide_false, if_true, if_false, ↓reduceIte, eq_self, Bool.false_eq_true, Bool.true_or, Bool.or_true, Bool.false_or, Bool.or_false, Bool.true_and, Bool.and_true, Bool.false_and, Bool.and_false, Bool.not_true, Bool.not_false, reduceCtorEq, and_self, and_true, true_and, ite_self, size16, Nat.reduceAdd, Nat.reduceLeDiff, Nat.zero_le]⟩
  have ex : ∃ r', execs (G.cfg (n + 6)) c_broken.body (startE 4 [.tup (es.map En.d), .tup (ws.map Nd.d), .tup (bk.map bkD)]) S = .ok ((.rt (.ref S.length), r'), S ++ [.lst ((brkL ws es bk).map wkD)]) := by
    show ∃ r', execs (G.cfg (n + 6)) c_broken.body [some (.tup (es.map En.d)), some (.tup (ws.map Nd.d)), some (.tup (bk.map bkD)), none] S = _
    exact ⟨_, by simp only [c_broken, Rf.execs, Rf.execS, evalE, evalEs, evalO, evalT, evalL, evalC, evalI, bd_k, of_some, startE, bindT, wipeT, List.map_cons, List.map_nil, List.length_cons, List.length_nil, List.replicate, List.cons_append, List.nil_append, List.getElem?_cons_zero, List.getElem?_cons_succ, List.set_cons_zero, List.set_cons_succ, Option.map_some, Option.map_none, Option.bind_some, Option.bind_none, cmp_eq_int, cmp_ne_int, cmp_eq_str, cmp_ne_str, cmp_eq_bl, cmp_ne_bl, cmp_lt_int, cmp_le_int, cmp_gt_int, cmp_ge_int, cmp_is_non, cmp_is_int, cmp_is_tup, cmp_isn_non, cmp_isn_int, cmp_isn_tup, cmp_is_bl, cmp_isn_bl, cmp_in_str, isi_bl, isi_int, isi_str, isi_tup, isi_lst, isi_non, truth_bl, len_tup, len_lst, len_fro, idx_tup, idx_lst, idx_fro, isStr, seqI_str, seqI_tup, seqI_lst, decide_true, decide_false, if_true, if_false, ↓reduceIte, eq_self, Bool.false_eq_true, Bool.true_or, Bool.or_true, Bool.false_or, Bool.or_false, Bool.true_and, Bool.and_true, Bool.false_and, Bool.and_false, Bool.not_true, Bool.not_false, reduceCtorEq, and_self, and_true, true_and, ite_self, size16, Nat.reduceAdd, Nat.reduceLeDiff, Nat.zero_le, l0]; rfl⟩
  obtain ⟨r', ex⟩ := ex
  refine callF_eq F.brk rfl (by decide) ex rfl ?_
  exact fin_keep (fd := c_broken) rfl (S := S) [.lst ((brkL ws es bk).map wkD)] (j := 0) (D.purs_map _ wkD_pur _) rfl
theorem law_broken_ok {G : Gam} (F : FBrk G) {ws : List Nd} {es : List En} {bk : List Bk} (h : BOk ws es bk) (pw : es.Pairwise fun a b => ¬ a.same b) (n : Nat) (S : Store) :
    callF G (n + 4) "_law_broken" [.tup (es.map En.d), .tup (ws.map Nd.d), .tup (bk.map bkD)] S = .ok (.lst ((brkL ws es bk).map wkD), S) := by
  obtain ⟨w1, w2⟩ := h.work
  refine callF_pur0 F.lbrk rfl (by decide) (D.purs_map _ wkD_pur _) ?_
  have nw := cfg_ok (law_at_work_ok F.wk h pw (n + 2) S)
  have sl : ∀ w : Wk, slcD (wkD w) (some 1) none = some w.2.d := fun w => rfl
  have l0 : evalL (G.cfg (n + 3)) c__law_broken_l0 [some (.tup (es.map En.d)), some (.tup (ws.map Nd.d)), some (.tup (bk.map bkD)), none] S = .ok ((brkL ws es bk).map wkD, S) :=
    eval_compF (workL ws es bk) wkD _ _ (by simp only [Rf.execs, Rf.execS, evalE, evalEs, evalO, evalT, evalL, evalC, evalI, bd_k, of_some, startE, bindT, wipeT, List.map_cons, List.map_nil, List.length_cons, List.length_nil, List.replicate, List.cons_append, List.nil_append, List.getElem?_cons_zero, List.getElem?_cons_succ, List.set_cons_zero, List.set_cons_succ, Option.map_some, Option.map_none, Option.bind_some, Option.bind_none, cmp_eq_int, cmp_ne_int, cmp_eq_str, cmp_ne_str, cmp_eq_bl, cmp_ne_bl, cmp_lt_int, cmp_le_int, cmp_gt_int, cmp_ge_int, cmp_is_non, cmp_is_int, cmp_is_tup, cmp_isn_non, cmp_isn_int, cmp_isn_tup, cmp_is_bl, cmp_isn_bl, cmp_in_str, isi_bl, isi_int, isi_str, isi_tup, isi_lst, isi_non, truth_bl, len_tup, len_lst, len_fro, idx_tup, idx_lst, idx_fro, isStr, seqI_str, seqI_tup, seqI_lst, decide_true, decide_false, if_true, if_false, ↓reduceIte, eq_self, Bool.false_eq_true, Bool.true_or, Bool.or_true, Bool.false_or, Bool.or_false, Bool.true_and, Bool.and_true, Bool.false_and, Bool.and_false, Bool.not_true, Bool.not_false, reduceCtorEq, and_self, and_true, true_and, ite_self, size16, Nat.reduceAdd, Nat.reduceLeDiff, Nat.zero_le, nw]) (by rw [size16]; omega) fun w hw => ⟨_, rfl, by
      have m := cfg_ok (law_is_met_ok F.key F.lies F.lmet h.b w.2 (w1 w hw) n S)
      cases q : metB bk w.2 <;> (rw [q] at m; simp only [Rf.execs, Rf.execS, evalE, evalEs, evalO, evalT, evalL, evalC, evalI, bd_k, of_some, startE, bindT, wipeT, List.map_cons, List.map_nil, List.length_cons, List.length_nil, List.replicate, List.cons_append, List.nil_append, List.getElem?_cons_zero, List.getElem?_cons_succ, List.set_cons_zero, List.set_cons_succ, Option.map_some, Option.map_none, Option.bind_some, Option.bind_none, cmp_eq_int, cmp_ne_int, cmp_eq_str, cmp_ne_str, cmp_eq_bl, cmp_ne_bl, cmp_lt_int, cmp_le_int, cmp_gt_int, cmp_ge_int, cmp_is_non, cmp_is_int, cmp_is_tup, cmp_isn_non, cmp_isn_int, cmp_isn_tup, cmp_is_bl, cmp_isn_bl, cmp_in_str, isi_bl, isi_int, isi_str, isi_tup, isi_lst, isi_non, truth_bl, len_tup, len_lst, len_fro, idx_tup, idx_lst, idx_fro, isStr, seqI_str, seqI_tup, seqI_lst, decide_true, decide_false, if_true, if_false, ↓reduceIte, eq_self, Bool.false_eq_true, Bool.true_or, Bool.or_true, Bool.false_or, Bool.or_false, Bool.true_and, Bool.and_true, Bool.false_and, Bool.and_false, Bool.not_true, Bool.not_false, reduceCtorEq, and_self, and_true, true_and, ite_self, size16, Nat.reduceAdd, Nat.reduceLeDiff, Nat.zero_le, sl, m]), fun _ => by simp only [Rf.execs, Rf.execS, evalE, evalEs, evalO, evalT, evalL, evalC, evalI, bd_k, of_some, startE, bindT, wipeT, List.map_cons, List.map_nil, List.length_cons, List.length_nil, List.replicate, List.cons_append, List.nil_append, List.getElem?_cons_zero, List.getElem?_cons_succ, List.set_cons_zero, List.set_cons_succ, Option.map_some, Option.map_none, Option.bind_some, Option.bind_none, cmp_eq_int, cmp_ne_int, cmp_eq_str, cmp_ne_str, cmp_eq_bl, cmp_ne_bl, cmp_lt_int, cmp_le_int, cmp_gt_int, cmp_ge_int, cmp_is_non, cmp_is_int, cmp_is_tup, cmp_isn_non, cmp_isn_int, cmp_isn_tup, cmp_is_bl, cmp_isn_bl, cmp_in_str, isi_bl, isi_int, isi_str, isi_tup, isi_lst, isi_non, truth_bl, len_tup, len_lst, len_fro, idx_tup, idx_lst, idx_fro, isStr, seqI_str, seqI_tup, seqI_lst, decide_true, decide_false, if_true, if_false, ↓reduceIte, eq_self, Bool.false_eq_true, Bool.true_or, Bool.or_true, Bool.false_or, Bool.or_false, Bool.true_and, Bool.and_true, Bool.false_and, Bool.and_false, Bool.not_true, Bool.not_false, reduceCtorEq, and_self, and_true, true_and, ite_self, size16, Nat.reduceAdd, Nat.reduceLeDiff, Nat.zero_le]⟩
  show ∃ r', execs (G.cfg (n + 3)) c__law_broken.body [some (.tup (es.map En.d)), some (.tup (ws.map Nd.d)), some (.tup (bk.map bkD)), none] S = _
  exact ⟨_, by simp only [c__law_broken, Rf.execs, Rf.execS, evalE, evalEs, evalO, evalT, evalL, evalC, evalI, bd_k, of_some, startE, bindT, wipeT, List.map_cons, List.map_nil, List.length_cons, List.length_nil, List.replicate, List.cons_append, List.nil_append, List.getElem?_cons_zero, List.getElem?_cons_succ, List.set_cons_zero, List.set_cons_succ, Option.map_some, Option.map_none, Option.bind_some, Option.bind_none, cmp_eq_int, cmp_ne_int, cmp_eq_str, cmp_ne_str, cmp_eq_bl, cmp_ne_bl, cmp_lt_int, cmp_le_int, cmp_gt_int, cmp_ge_int, cmp_is_non, cmp_is_int, cmp_is_tup, cmp_isn_non, cmp_isn_int, cmp_isn_tup, cmp_is_bl, cmp_isn_bl, cmp_in_str, isi_bl, isi_int, isi_str, isi_tup, isi_lst, isi_non, truth_bl, len_tup, len_lst, len_fro, idx_tup, idx_lst, idx_fro, isStr, seqI_str, seqI_tup, seqI_lst, decide_true, decide_false, if_true, if_false, ↓reduceIte, eq_self, Bool.false_eq_true, Bool.true_or, Bool.or_true, Bool.false_or, Bool.or_false, Bool.true_and, Bool.and_true, Bool.false_and, Bool.and_false, Bool.not_true, Bool.not_false, reduceCtorEq, and_self, and_true, true_and, ite_self, size16, Nat.reduceAdd, Nat.reduceLeDiff, Nat.zero_le, l0]; rfl⟩
theorem wk_okd (n : Nat) (w : Wk) : D.okd (n + 6) (wkD w) = true := by
  unfold wkD
  rw [D.okd, D.okds, D.okds, D.okds, D.okds, okdE_span]; rfl
theorem wks_okd (n : Nat) : ∀ l : List Wk, D.okds (n + 6) (l.map wkD) = true
  | [] => by rw [List.map_nil, D.okds]
  | w :: l => by rw [List.map_cons, D.okds, wk_okd, wks_okd n l]; rfl
theorem wkl_okd (l : List Wk) : D.okd deep (.lst (l.map wkD)) = true := by
  show D.okd (33 + 7) _ = true
  rw [D.okd, wks_okd]
theorem wk_nil (S : Store) (o : D) (l : List Wk) (h : rs S o = .lst (l.map wkD)) : cmpD S .Eq o (.lst []) = some (decide (l = [])) := by
  show (if D.okd deep (rs S o) && D.okd deep (.lst []) then some (D.eqv (rs S o) (.lst [])) else none) = _
  rw [h, wkl_okd, show D.okd deep (.lst []) = true from rfl]
  cases l <;> rfl
theorem rs_end (S : Store) (xs : List D) : rs (S ++ [.lst xs]) (.ref S.length) = .lst xs := by
  have g : (S ++ [O.lst xs])[S.length]? = some (.lst xs) := by rw [List.getElem?_append_right (Nat.le_refl _), Nat.sub_self]; rfl
  simp only [rs, g]
end Rf


namespace Rf
open PySem L2 Cr


theorem forL_find {α : Type} {emb : α → D} {w : Store → Bool} {body : D → Env → Store → RS} {I : Nat → Env → Store → Prop} {J : D → Env → Store → Prop} (hw : ∀ s r S, I s r S → w S = true) (x : α) (B : List α) :
    ∀ (A : List α) (i0 : Nat) (r : Env) (S : Store), (∀ i (h : i < A.length) r S, I (i0 + i) r S → ∃ r' S', body (emb A[i]) r S = .ok ((.nx, r'), S') ∧ I (i0 + i + 1) r' S') →
      (∀ r S, I (i0 + A.length) r S → ∃ d r' S', body (emb x) r S = .ok ((.rt d, r'), S') ∧ J d r' S') → I i0 r S → ∃ d r' S', forL w body ((A ++ x :: B).map emb) r S = .ok ((.rt d, r'), S') ∧ J d r' S'
  | [], i0, r, S, h, k, i => by
    obtain ⟨d, r', S', hb, j⟩ := k r S i
    refine ⟨d, r', S', ?_, j⟩
    rw [List.nil_append, List.map_cons, forL, if_pos (hw _ r S i), hb]; rfl
  | a :: A, i0, r, S, h, k, i => by
    obtain ⟨r', S', hb, i'⟩ := h 0 (by simp) r S i
    obtain ⟨d, r2, S2, h2, j⟩ := forL_find hw x B A (i0 + 1) r' S' (fun j hj r S hi => by
      have := h (j + 1) (by simp; omega) r S (by rw [show i0 + (j + 1) = i0 + 1 + j by omega]; exact hi)
      rw [show i0 + (j + 1) = i0 + 1 + j by omega] at this
      exact this) (fun r S hi => k r S (by rw [List.length_cons, show i0 + (A.length + 1) = i0 + 1 + A.length by omega]; exact hi)) i'
    refine ⟨d, r2, S2, ?_, j⟩
    rw [List.cons_append, List.map_cons, forL, if_pos (hw _ r S i)]
    simp only [List.getElem_cons_zero] at hb
    rw [hb]
    exact h2
theorem exec_for_find {c : Cfg} {tg : CT} {it : CI} {b : CSs} {r : Env} {S S1 : Store} {α : Type} (A : List α) (x : α) (B : List α) (emb : α → D) {w : Store → Bool} (I : Nat → Env → Store → Prop) (J : D → Env → Store → Prop)
    (hi : evalI c it r S = .ok (((A ++ x :: B).map emb, w), S1)) (hw : ∀ s r S, I s r S → w S = true)
    (step : ∀ i (h : i < A.length) r S, I i r S → ∃ r1, bindT tg (emb A[i]) r = some r1 ∧ ∃ r' S', execs c b r1 S = .ok ((.nx, r'), S') ∧ I (i + 1) r' S')
    (last : ∀ r S, I A.length r S → ∃ r1, bindT tg (emb x) r = some r1 ∧ ∃ d r' S', execs c b r1 S = .ok ((.rt d, r'), S') ∧ J d r' S') (init : I 0 r S1) :
    ∃ d r' S', execS c (.for_ tg it b) r S = .ok ((.rt d, r'), S') ∧ J d r' S' := by
  rw [execS, hi, bd_k]
  refine forL_find hw x B A 0 r S1 (fun i h r S k => ?_) (fun r S k => ?_) init
  · obtain ⟨r1, e1, e2⟩ := step i h r S (by rw [Nat.zero_add] at k; exact k)
    rw [e1, Nat.zero_add]
    exact e2
  · obtain ⟨r1, e1, e2⟩ := last r S (by rw [Nat.zero_add] at k; exact k)
    rw [e1]
    exact e2
theorem find_split {α : Type} {p : α → Bool} : ∀ {l : List α} {x : α}, l.find? p = some x → p x = true ∧ (∀ y ∈ l.takeWhile (fun y => !p y), p y = false) ∧ ∃ B, l = l.takeWhile (fun y => !p y) ++ x :: B
  | [], _, h => by cases h
  | y :: l, x, h => by
    rw [List.find?_cons] at h
    cases q : p y with
    | true =>
      rw [q] at h; cases h
      exact ⟨q, by simp [q], l, by simp [q]⟩
    | false =>
      rw [q] at h
      obtain ⟨h1, h2, B, h3⟩ := find_split h
      refine ⟨h1, fun z hz => ?_, B, ?_⟩
      · rw [List.takeWhile_cons, q] at hz
        rcases List.mem_cons.mp hz with rfl | hz
        · exact q
        · exact h2 z hz
      · rw [List.takeWhile_cons, q]
        show y :: l = y :: (_ ++ x :: B)
        rw [← h3]
theorem freeze_two {S : Store} (T : List O) {j : Nat} {a : D} {xs : List D} (ha : D.pur a = true) (h : D.purs xs = true) (hj : T[j]? = some (.lst xs)) : freeze S (S ++ T) (.tup [a, .ref (S.length + j)]) = (.tup [a, .lst xs], S) := by
  have f : fzr (S ++ T) S.length 4 (S.length + j) = some (.lst xs) := by
    rw [fzr, if_neg (by omega), List.getElem?_append_right (by omega)]
    rw [show S.length + j - S.length = j by omega, hj]
    show (D.mapRs _ xs).map D.lst = _
    rw [D.mapRs_purs xs h]; rfl
  unfold freeze
  rw [if_pos (by simp)]
  have e : D.mapR (fzr (S ++ T) S.length 4) (.tup [a, .ref (S.length + j)]) = some (.tup [a, .lst xs]) := by
    rw [D.mapR, D.mapRs, D.mapR_pur a ha, D.mapRs, D.mapR, f, D.mapRs]; rfl
  rw [e]
theorem atI_zero {α : Type} (x : α) (r : List α) : atI (x :: r) 0 = some x := by
  rw [atI_int (by decide) (by simp only [List.length_cons]; omega)]; rfl
theorem mut_atk {Y : Store} {k : Nat} {xs : List D} (h : Y[k]? = some (.lst xs)) : isMut Y (.ref k) = true := by
  simp only [isMut, h]
theorem app_atk {Y : Store} {k : Nat} {xs : List D} (h : Y[k]? = some (.lst xs)) (hl : xs.length < sizeLine) (y : D) : mutD .append Y (.ref k) [y] = some (.non, Y.set k (.lst (xs ++ [y]))) := by
  simp only [mutD, h, if_pos hl]

def withB (bk : List Bk) (x : Str) (m : Make) : List Bk := bk.map fun b => (b.1, if b.1 = x then m else b.2)
theorem withB_names (bk : List Bk) (x : Str) (m : Make) : (withB bk x m).map (·.1) = bk.map (·.1) := by
  unfold withB
  rw [List.map_map]; rfl
theorem withB_len (bk : List Bk) (x : Str) (m : Make) : (withB bk x m).length = bk.length := by unfold withB; rw [List.length_map]
theorem withB_get (bk : List Bk) (x : Str) (m : Make) (i : Nat) (hi : i < bk.length) : (withB bk x m)[i]'(by rw [withB_len]; exact hi) = (bk[i].1, if bk[i].1 = x then m else bk[i].2) := by
  simp only [withB, List.getElem_map]
theorem bk_inj : ∀ {bk : List Bk}, (bk.map (·.1)).Nodup → ∀ {a b : Bk}, a ∈ bk → b ∈ bk → a.1 = b.1 → a = b
  | [], _, _, _, ha, _, _ => by cases ha
  | c :: r, nd, a, b, ha, hb, e => by
    rw [List.map_cons, List.nodup_cons] at nd
    rcases List.mem_cons.mp ha with h1 | h1
    · rcases List.mem_cons.mp hb with h2 | h2
      · rw [h1, h2]
      · exact absurd (List.mem_map.mpr ⟨b, h2, by rw [← e, h1]⟩) nd.1
    · rcases List.mem_cons.mp hb with h2 | h2
      · exact absurd (List.mem_map.mpr ⟨a, h1, by rw [e, h2]⟩) nd.1
      · exact bk_inj nd.2 h1 h2 e
theorem withB_self {bk : List Bk} (nd : (bk.map (·.1)).Nodup) {b : Bk} (hb : b ∈ bk) : withB bk b.1 b.2 = bk := by
  unfold withB
  refine (List.map_congr_left fun c hc => ?_).trans (List.map_id bk)
  by_cases q : c.1 = b.1
  · rw [if_pos q, bk_inj nd hc hb q]; rfl
  · rw [if_neg q]; rfl
theorem withB_mem {bk : List Bk} {x : Str} {m : Make} {c : Bk} (h : c ∈ withB bk x m) : ∃ b ∈ bk, b.1 = c.1 ∧ (c.2 = b.2 ∨ (c.1 = x ∧ c.2 = m)) := by
  obtain ⟨b, hb, rfl⟩ := List.mem_map.mp h
  refine ⟨b, hb, rfl, ?_⟩
  by_cases q : b.1 = x
  · exact .inr ⟨q, by simp [q]⟩
  · exact .inl (by simp [q])
theorem with_make_ok {G : Gam} (hf : List.lookup (Str.ofString "with_make") G.fns = some c_with_make) (bk : List Bk) (hl : bk.length ≤ 100) (x : Str) (m : Make) (n : Nat) (S : Store) :
    callF G (n + 1) "with_make" [.tup (bk.map bkD), .str x, m.d] S = .ok (.tup ((withB bk x m).map bkD), S) := by
  refine callF_pur0 hf rfl (by decide) (by rw [D.pur, D.purs_map _ bkD_pur]) ?_
  have l0 : evalL (G.cfg n) c_with_make_l0 [some (.tup (bk.map bkD)), some (.str x), some m.d, none, none] S = .ok (bk.map fun b => bkD (b.1, if b.1 = x then m else b.2), S) :=
    eval_comp bk bkD _ (by simp only [Rf.execs, Rf.execS, evalE, evalEs, evalO, evalT, evalL, evalC, evalI, bd_k, of_some, startE, bindT, wipeT, List.map_cons, List.map_nil, List.length_cons, List.length_nil, List.replicate, List.cons_append, List.nil_append, List.getElem?_cons_zero, List.getElem?_cons_succ, List.set_cons_zero, List.set_cons_succ, Option.map_some, Option.map_none, Option.bind_some, Option.bind_none, cmp_eq_int, cmp_ne_int, cmp_eq_str, cmp_ne_str, cmp_eq_bl, cmp_ne_bl, cmp_lt_int, cmp_le_int, cmp_gt_int, cmp_ge_int, cmp_is_non, cmp_is_int, cmp_is_tup, cmp_isn_non, cmp_isn_int, cmp_isn_tup, cmp_is_bl, cmp_isn_bl, cmp_in_str, isi_bl, isi_int, isi_str, isi_tup, isi_lst, isi_non, truth_bl, len_tup, len_lst, len_fro, idx_tup, idx_lst, idx_fro, isStr, seqI_str, seqI_tup, seqI_lst, decide_true, decide_false, if_true, if_false, ↓reduceIte, eq_self, Bool.false_eq_true, Bool.true_or, Bool.or_true, Bool.false_or, Bool.or_false, Bool.true_and, Bool.and_true, Bool.false_and, Bool.and_false, Bool.not_true, Bool.not_false, reduceCtorEq, and_self, and_true, true_and, ite_self, size16, Nat.reduceAdd, Nat.reduceLeDiff, Nat.zero_le]) (by rw [size16]; omega) fun b hb => ⟨[some (.tup (bk.map bkD)), some (.str x), some m.d, some (.str b.1), some b.2.d], rfl, by
      by_cases q : b.1 = x <;> simp only [Rf.execs, Rf.execS, evalE, evalEs, evalO, evalT, evalL, evalC, evalI, bd_k, of_some, startE, bindT, wipeT, List.map_cons, List.map_nil, List.length_cons, List.length_nil, List.replicate, List.cons_append, List.nil_append, List.getElem?_cons_zero, List.getElem?_cons_succ, List.set_cons_zero, List.set_cons_succ, Option.map_some, Option.map_none, Option.bind_some, Option.bind_none, cmp_eq_int, cmp_ne_int, cmp_eq_str, cmp_ne_str, cmp_eq_bl, cmp_ne_bl, cmp_lt_int, cmp_le_int, cmp_gt_int, cmp_ge_int, cmp_is_non, cmp_is_int, cmp_is_tup, cmp_isn_non, cmp_isn_int, cmp_isn_tup, cmp_is_bl, cmp_isn_bl, cmp_in_str, isi_bl, isi_int, isi_str, isi_tup, isi_lst, isi_non, truth_bl, len_tup, len_lst, len_fro, idx_tup, idx_lst, idx_fro, isStr, seqI_str, seqI_tup, seqI_lst, decide_true, decide_false, if_true, if_false, ↓reduceIte, eq_self, Bool.false_eq_true, Bool.true_or, Bool.or_true, Bool.false_or, Bool.or_false, Bool.true_and, Bool.and_true, Bool.false_and, Bool.and_false, Bool.not_true, Bool.not_false, reduceCtorEq, and_self, and_true, true_and, ite_self, size16, Nat.reduceAdd, Nat.reduceLeDiff, Nat.zero_le, q] <;> rfl⟩
  have e : (withB bk x m).map bkD = bk.map fun b => bkD (b.1, if b.1 = x then m else b.2) := by unfold withB; rw [List.map_map]; rfl
  have it : items S (.lst (bk.map fun b => bkD (b.1, if b.1 = x then m else b.2))) = some (bk.map fun b => bkD (b.1, if b.1 = x then m else b.2)) := rfl
  rw [e]
  have bt : biD .tuple S [.lst (bk.map fun b => bkD (b.1, if b.1 = x then m else b.2))] = some (.tup (bk.map fun b => bkD (b.1, if b.1 = x then m else b.2))) := rfl
  show ∃ r', execs (G.cfg n) c_with_make.body [some (.tup (bk.map bkD)), some (.str x), some m.d, none, none] S = _
  exact ⟨_, by simp only [c_with_make, Rf.execs, Rf.execS, evalE, evalEs, evalO, evalT, evalL, evalC, evalI, bd_k, of_some, startE, bindT, wipeT, List.map_cons, List.map_nil, List.length_cons, List.length_nil, List.replicate, List.cons_append, List.nil_append, List.getElem?_cons_zero, List.getElem?_cons_succ, List.set_cons_zero, List.set_cons_succ, Option.map_some, Option.map_none, Option.bind_some, Option.bind_none, cmp_eq_int, cmp_ne_int, cmp_eq_str, cmp_ne_str, cmp_eq_bl, cmp_ne_bl, cmp_lt_int, cmp_le_int, cmp_gt_int, cmp_ge_int, cmp_is_non, cmp_is_int, cmp_is_tup, cmp_isn_non, cmp_isn_int, cmp_isn_tup, cmp_is_bl, cmp_isn_bl, cmp_in_str, isi_bl, isi_int, isi_str, isi_tup, isi_lst, isi_non, truth_bl, len_tup, len_lst, len_fro, idx_tup, idx_lst, idx_fro, isStr, seqI_str, seqI_tup, seqI_lst, decide_true, decide_false, if_true, if_false, ↓reduceIte, eq_self, Bool.false_eq_true, Bool.true_or, Bool.or_true, Bool.false_or, Bool.or_false, Bool.true_and, Bool.and_true, Bool.false_and, Bool.and_false, Bool.not_true, Bool.not_false, reduceCtorEq, and_self, and_true, true_and, ite_self, size16, Nat.reduceAdd, Nat.reduceLeDiff, Nat.zero_le, l0, bt]; rfl⟩
theorem law_with_ok {G : Gam} (hf : List.lookup (Str.ofString "_law_with") G.fns = some c__law_with) (bk : List Bk) (hl : bk.length ≤ 100) (x : Str) (m : Make) (n : Nat) (S : Store) :
    callF G (n + 1) "_law_with" [.tup (bk.map bkD), .str x, m.d] S = .ok (.tup ((withB bk x m).map bkD), S) := by
  refine callF_pur hf rfl (by decide) (by rw [D.pur, D.purs_map _ bkD_pur]) ?_
  refine rat_step (r1 := [some (.tup (bk.map bkD)), some (.str x), some m.d, some (.ref S.length), none, none]) (S1 := S ++ [.lst []]) (by show execS _ _ [some (.tup (bk.map bkD)), some (.str x), some m.d, none, none, none] S = _; simp only [Rf.execs, Rf.execS, evalE, evalEs, evalO, evalT, evalL, evalC, evalI, bd_k, of_some, startE, bindT, wipeT, List.map_cons, List.map_nil, List.length_cons, List.length_nil, List.replicate, List.cons_append, List.nil_append, List.getElem?_cons_zero, List.getElem?_cons_succ, List.set_cons_zero, List.set_cons_succ, Option.map_some, Option.map_none, Option.bind_some, Option.bind_none, cmp_eq_int, cmp_ne_int, cmp_eq_str, cmp_ne_str, cmp_eq_bl, cmp_ne_bl, cmp_lt_int, cmp_le_int, cmp_gt_int, cmp_ge_int, cmp_is_non, cmp_is_int, cmp_is_tup, cmp_isn_non, cmp_isn_int, cmp_isn_tup, cmp_is_bl, cmp_isn_bl, cmp_in_str, isi_bl, isi_int, isi_str, isi_tup, isi_lst, isi_non, truth_bl, len_tup, len_lst, len_fro, idx_tup, idx_lst, idx_fro, isStr, seqI_str, seqI_tup, seqI_lst, decide_true, decide_false, if_true, if_false, ↓reduceIte, eq_self, Bool.false_eq_true, Bool.true_or, Bool.or_true, Bool.false_or, Bool.or_false, Bool.true_and, Bool.and_true, Bool.false_and, Bool.and_false, Bool.not_true, Bool.not_false, reduceCtorEq, and_self, and_true, true_and, ite_self, size16, Nat.reduceAdd, Nat.reduceLeDiff, Nat.zero_le]) ?_
  obtain ⟨r', S', h, rfl, v4, v5, rfl⟩ := exec_for_ix (c := G.cfg n) (tg := .tp [4, 5]) (it := .seq (.var 0)) (b := c__law_with_b0) (S := S ++ [.lst []]) (r := [some (.tup (bk.map bkD)), some (.str x), some m.d, some (.ref S.length), none, none])
    bk bkD (w := fun _ => true) (fun i r' S' => S' = S ++ [.lst (((withB bk x m).take i).map bkD)] ∧ ∃ v4 v5, r' = [some (.tup (bk.map bkD)), some (.str x), some m.d, some (.ref S.length), v4, v5])
    (by simp only [Rf.execs, Rf.execS, evalE, evalEs, evalO, evalT, evalL, evalC, evalI, bd_k, of_some, startE, bindT, wipeT, List.map_cons, List.map_nil, List.length_cons, List.length_nil, List.replicate, List.cons_append, List.nil_append, List.getElem?_cons_zero, List.getElem?_cons_succ, List.set_cons_zero, List.set_cons_succ, Option.map_some, Option.map_none, Option.bind_some, Option.bind_none, cmp_eq_int, cmp_ne_int, cmp_eq_str, cmp_ne_str, cmp_eq_bl, cmp_ne_bl, cmp_lt_int, cmp_le_int, cmp_gt_int, cmp_ge_int, cmp_is_non, cmp_is_int, cmp_is_tup, cmp_isn_non, cmp_isn_int, cmp_isn_tup, cmp_is_bl, cmp_isn_bl, cmp_in_str, isi_bl, isi_int, isi_str, isi_tup, isi_lst, isi_non, truth_bl, len_tup, len_lst, len_fro, idx_tup, idx_lst, idx_fro, isStr, seqI_str, seqI_tup, seqI_lst, decide_true, decide_false, if_true, if_false, ↓reduceIte, eq_self, Bool.false_eq_true, Bool.true_or, Bool.or_true, Bool.false_or, Bool.or_false, Bool.true_and, Bool.and_true, Bool.false_and, Bool.and_false, Bool.not_true, Bool.not_false, reduceCtorEq, and_self, and_true, true_and, ite_self, size16, Nat.reduceAdd, Nat.reduceLeDiff, Nat.zero_le]) (fun _ _ _ _ => rfl) (fun i hi r1 S1 hI => by
      obtain ⟨rfl, v4, v5, rfl⟩ := hI
      refine ⟨[some (.tup (bk.map bkD)), some (.str x), some m.d, some (.ref S.length), some (.str bk[i].1), some bk[i].2.d], rfl, [some (.tup (bk.map bkD)), some (.str x), some m.d, some (.ref S.length), some (.str bk[i].1), some (if bk[i].1 = x then m else bk[i].2).d], S ++ [.lst (((withB bk x m).take (i + 1)).map bkD)], ?_, rfl, _, _, rfl⟩
      have hl2 : i < (withB bk x m).length := by rw [withB_len]; exact hi
      have e : (withB bk x m).take (i + 1) = (withB bk x m).take i ++ [(bk[i].1, if bk[i].1 = x then m else bk[i].2)] := by
        rw [List.take_succ_eq_append_getElem hl2, withB_get bk x m i hi]
      have ap := app_end S (((withB bk x m).take i).map bkD) (bkD (bk[i].1, if bk[i].1 = x then m else bk[i].2)) (by rw [size16, List.length_map, List.length_take, withB_len]; omega)
      have mt := isMut_end S (((withB bk x m).take i).map bkD)
      rw [e, List.map_append]
      have eb : (.tup [.str bk[i].1, (if bk[i].1 = x then m else bk[i].2).d] : D) = bkD (bk[i].1, if bk[i].1 = x then m else bk[i].2) := rfl
      rw [← eb] at ap
      show _ = Res.ok ((Fl.nx, _), S ++ [O.lst (List.map bkD (List.take i (withB bk x m)) ++ [.tup [.str bk[i].1, (if bk[i].1 = x then m else bk[i].2).d]])])
      generalize bk[i] = b at *
      by_cases q : b.1 = x
      · simp only [q, if_true] at ap ⊢
        simp only [c__law_with_b0, Rf.execs, Rf.execS, evalE, evalEs, evalO, evalT, evalL, evalC, evalI, bd_k, of_some, startE, bindT, wipeT, List.map_cons, List.map_nil, List.length_cons, List.length_nil, List.replicate, List.cons_append, List.nil_append, List.getElem?_cons_zero, List.getElem?_cons_succ, List.set_cons_zero, List.set_cons_succ, Option.map_some, Option.map_none, Option.bind_some, Option.bind_none, cmp_eq_int, cmp_ne_int, cmp_eq_str, cmp_ne_str, cmp_eq_bl, cmp_ne_bl, cmp_lt_int, cmp_le_int, cmp_gt_int, cmp_ge_int, cmp_is_non, cmp_is_int, cmp_is_tup, cmp_isn_non, cmp_isn_int, cmp_isn_tup, cmp_is_bl, cmp_isn_bl, cmp_in_str, isi_bl, isi_int, isi_str, isi_tup, isi_lst, isi_non, truth_bl, len_tup, len_lst, len_fro, idx_tup, idx_lst, idx_fro, isStr, seqI_str, seqI_tup, seqI_lst, decide_true, decide_false, if_true, if_false, ↓reduceIte, eq_self, Bool.false_eq_true, Bool.true_or, Bool.or_true, Bool.false_or, Bool.or_false, Bool.true_and, Bool.and_true, Bool.false_and, Bool.and_false, Bool.not_true, Bool.not_false, reduceCtorEq, and_self, and_true, true_and, ite_self, size16, Nat.reduceAdd, Nat.reduceLeDiff, Nat.zero_le, q, mt, ap]
      · simp only [q, if_false] at ap ⊢
        simp only [c__law_with_b0, Rf.execs, Rf.execS, evalE, evalEs, evalO, evalT, evalL, evalC, evalI, bd_k, of_some, startE, bindT, wipeT, List.map_cons, List.map_nil, List.length_cons, List.length_nil, List.replicate, List.cons_append, List.nil_append, List.getElem?_cons_zero, List.getElem?_cons_succ, List.set_cons_zero, List.set_cons_succ, Option.map_some, Option.map_none, Option.bind_some, Option.bind_none, cmp_eq_int, cmp_ne_int, cmp_eq_str, cmp_ne_str, cmp_eq_bl, cmp_ne_bl, cmp_lt_int, cmp_le_int, cmp_gt_int, cmp_ge_int, cmp_is_non, cmp_is_int, cmp_is_tup, cmp_isn_non, cmp_isn_int, cmp_isn_tup, cmp_is_bl, cmp_isn_bl, cmp_in_str, isi_bl, isi_int, isi_str, isi_tup, isi_lst, isi_non, truth_bl, len_tup, len_lst, len_fro, idx_tup, idx_lst, idx_fro, isStr, seqI_str, seqI_tup, seqI_lst, decide_true, decide_false, if_true, if_false, ↓reduceIte, eq_self, Bool.false_eq_true, Bool.true_or, Bool.or_true, Bool.false_or, Bool.or_false, Bool.true_and, Bool.and_true, Bool.false_and, Bool.and_false, Bool.not_true, Bool.not_false, reduceCtorEq, and_self, and_true, true_and, ite_self, size16, Nat.reduceAdd, Nat.reduceLeDiff, Nat.zero_le, q, mt, ap]) ⟨by simp, _, _, rfl⟩
  rw [show bk.length = (withB bk x m).length from (withB_len bk x m).symm, List.take_length] at h
  refine rat_step (s := c__law_with_s0) h ?_
  have it : items (S ++ [.lst ((withB bk x m).map bkD)]) (.ref S.length) = some ((withB bk x m).map bkD) := items_pl S [.lst ((withB bk x m).map bkD)] 0 _ rfl
  have bt : biD .tuple (S ++ [.lst ((withB bk x m).map bkD)]) [.ref S.length] = some (.tup ((withB bk x m).map bkD)) := by
    show (items _ _).map D.tup = _
    rw [it]; rfl
  exact ⟨_, _, by simp only [Rf.execs, Rf.execS, evalE, evalEs, evalO, evalT, evalL, evalC, evalI, bd_k, of_some, startE, bindT, wipeT, List.map_cons, List.map_nil, List.length_cons, List.length_nil, List.replicate, List.cons_append, List.nil_append, List.getElem?_cons_zero, List.getElem?_cons_succ, List.set_cons_zero, List.set_cons_succ, Option.map_some, Option.map_none, Option.bind_some, Option.bind_none, cmp_eq_int, cmp_ne_int, cmp_eq_str, cmp_ne_str, cmp_eq_bl, cmp_ne_bl, cmp_lt_int, cmp_le_int, cmp_gt_int, cmp_ge_int, cmp_is_non, cmp_is_int, cmp_is_tup, cmp_isn_non, cmp_isn_int, cmp_isn_tup, cmp_is_bl, cmp_isn_bl, cmp_in_str, isi_bl, isi_int, isi_str, isi_tup, isi_lst, isi_non, truth_bl, len_tup, len_lst, len_fro, idx_tup, idx_lst, idx_fro, isStr, seqI_str, seqI_tup, seqI_lst, decide_true, decide_false, if_true, if_false, ↓reduceIte, eq_self, Bool.false_eq_true, Bool.true_or, Bool.or_true, Bool.false_or, Bool.or_false, Bool.true_and, Bool.and_true, Bool.false_and, Bool.and_false, Bool.not_true, Bool.not_false, reduceCtorEq, and_self, and_true, true_and, ite_self, size16, Nat.reduceAdd, Nat.reduceLeDiff, Nat.zero_le, bt]; rfl⟩


def sndE (es : List En) (bk : List Bk) : List En := es.map fun e => if (e.x, e.m) ∈ bk then ⟨e.x, e.m, e.ns.filter (metB bk)⟩ else e
def sndW (ws : List Nd) (bk : List Bk) : List Nd := ws.filter (metB bk)
theorem sndE_get (es : List En) (bk : List Bk) (i : Nat) (hi : i < es.length) : (sndE es bk)[i]'(by unfold sndE; rw [List.length_map]; exact hi) = (if (es[i].x, es[i].m) ∈ bk then ⟨es[i].x, es[i].m, es[i].ns.filter (metB bk)⟩ else es[i]) := by
  simp only [sndE, List.getElem_map]
theorem sndE_mem {es : List En} {bk : List Bk} {e : En} (h : e ∈ sndE es bk) : ∃ o ∈ es, e.x = o.x ∧ e.m = o.m ∧ (∀ q ∈ e.ns, q ∈ o.ns) ∧ e.ns.length ≤ o.ns.length ∧ ((o.x, o.m) ∈ bk → e.ns = o.ns.filter (metB bk)) := by
  obtain ⟨o, ho, rfl⟩ := List.mem_map.mp h
  refine ⟨o, ho, ?_⟩
  by_cases q : (o.x, o.m) ∈ bk
  · rw [if_pos q]
    exact ⟨rfl, rfl, fun q h => (List.mem_filter.mp h).1, List.length_filter_le _ _, fun _ => rfl⟩
  · rw [if_neg q]
    exact ⟨rfl, rfl, fun q h => h, Nat.le_refl _, fun h => absurd h q⟩
theorem sndE_pw {es : List En} {bk : List Bk} (h : es.Pairwise fun a b => ¬ a.same b) : (sndE es bk).Pairwise fun a b => ¬ a.same b := by
  unfold sndE
  rw [List.pairwise_map]
  refine h.imp fun {a b} k q => k ?_
  have f : ∀ o : En, (if (o.x, o.m) ∈ bk then (⟨o.x, o.m, o.ns.filter (metB bk)⟩ : En) else o).x = o.x ∧ (if (o.x, o.m) ∈ bk then (⟨o.x, o.m, o.ns.filter (metB bk)⟩ : En) else o).m = o.m := fun o => by
    split <;> exact ⟨rfl, rfl⟩
  obtain ⟨q1, q2⟩ := q
  rw [(f a).1, (f b).1] at q1
  rw [(f a).2, (f b).2] at q2
  exact ⟨q1, q2⟩
theorem ndsAt_none {x : Str} {m : Make} : ∀ {es : List En}, (∀ e ∈ es, ¬ (e.x = x ∧ e.m = m)) → ndsAt es x m = [] := fun {es} h => nfold_no x m es [] h
theorem snd_sound {ws : List Nd} {es : List En} {bk : List Bk} (pw : es.Pairwise fun a b => ¬ a.same b) : brkL (sndW ws bk) (sndE es bk) bk = [] := by
  unfold brkL
  rw [List.filter_eq_nil_iff]
  intro w hw
  have : metB bk w.2 = true := by
    unfold workL at hw
    rcases List.mem_append.mp hw with hw | hw
    · obtain ⟨q, hq, rfl⟩ := List.mem_map.mp hw
      exact (List.mem_filter.mp hq).2
    · obtain ⟨b, hb, hw⟩ := List.mem_flatMap.mp hw
      obtain ⟨q, hq, rfl⟩ := List.mem_map.mp hw
      by_cases k : ∃ e ∈ sndE es bk, e.x = b.1 ∧ e.m = b.2
      · obtain ⟨e, he, e1, e2⟩ := k
        have : ndsAt (sndE es bk) b.1 b.2 = e.ns := ndsAt_gen b.1 b.2 (sndE es bk) [] e (sndE_pw pw) he e1 e2
        rw [this] at hq
        obtain ⟨o, ho, o1, o2, _, _, o3⟩ := sndE_mem he
        have hb' : (o.x, o.m) ∈ bk := by rw [← o1, ← o2, e1, e2]; exact hb
        rw [o3 hb'] at hq
        exact (List.mem_filter.mp hq).2
      · rw [ndsAt_none fun e he h => k ⟨e, he, h⟩] at hq
        cases hq
  simp [this]
theorem in_bk (S : Store) (bk : List Bk) (x : Str) (m : Make) : cmpD S .In (.tup [.str x, m.d]) (.tup (bk.map bkD)) = some (decide ((x, m) ∈ bk)) := by
  have ok : ∀ b : Bk, D.okd deep (bkD b) = true := fun b => by
    show D.okd (39 + 1) (bkD b) = true
    unfold bkD
    rw [D.okd, D.okds, D.okds, D.okds, show D.okd 39 b.2.d = true from Make.okd 36 b.2]; rfl
  have oks : ∀ l : List Bk, D.okds deep (l.map bkD) = true := fun l => by
    induction l with
    | nil => rfl
    | cons b l ih => rw [List.map_cons, D.okds, ok b, ih]; rfl
  have eq : ∀ b : Bk, D.eqv (bkD b) (bkD (x, m)) = decide (b = (x, m)) := fun b => by
    obtain ⟨y, o⟩ := b
    show (D.eqv (.str y) (.str x) && (D.eqv o.d m.d && true)) = _
    rw [Make.eqv]
    show ((y == x) && (decide (o = m) && true)) = _
    by_cases q1 : y = x <;> by_cases q2 : o = m <;> simp [q1, q2]
  show inSeq S (bkD (x, m)) (.tup (bk.map bkD)) = _
  unfold inSeq
  show (if (D.okd deep (bkD (x, m)) && D.okds deep (bk.map bkD)) = true then some ((bk.map bkD).any fun y => D.eqv y (bkD (x, m))) else none) = _
  rw [ok, oks, show (true && true) = true from rfl, if_pos rfl, List.any_map]
  congr 1
  induction bk with
  | nil => rfl
  | cons b l ih =>
    rw [List.any_cons]
    show (D.eqv (bkD b) (bkD (x, m)) || _) = _
    rw [eq, ih]
    by_cases q : b = (x, m)
    · simp [q]
    · have q2 : ¬ (x, m) = b := fun h => q h.symm
      simp [q, q2]


theorem law_sounded_ok {G : Gam} (F : FBrk G) (hf : List.lookup (Str.ofString "_law_sounded") G.fns = some c__law_sounded) {ws : List Nd} {es : List En} {bk : List Bk} (B : BOk ws es bk) (n : Nat) (S : Store) :
    callF G (n + 4) "_law_sounded" [.tup (es.map En.d), .tup (ws.map Nd.d), .tup (bk.map bkD)] S = .ok (.tup [.tup ((sndE es bk).map En.d), .tup ((sndW ws bk).map Nd.d)], S) := by
  have wl := B.wl
  have el := B.el
  have nl := B.nl
  refine callF_pur hf rfl (by decide) (by rw [D.pur, D.purs, D.purs, D.purs, D.pur, D.pur, D.purs_map _ En.pur, D.purs_map _ Nd.pur]; rfl) ?_
  refine rat_step (r1 := [some (.tup (es.map En.d)), some (.tup (ws.map Nd.d)), some (.tup (bk.map bkD)), some (.ref S.length), none, none, none, none]) (S1 := S ++ [.lst []]) (by show execS _ _ [some (.tup (es.map En.d)), some (.tup (ws.map Nd.d)), some (.tup (bk.map bkD)), none, none, none, none, none] S = _; simp only [Rf.execs, Rf.execS, evalE, evalEs, evalO, evalT, evalL, evalC, evalI, bd_k, of_some, startE, bindT, wipeT, List.map_cons, List.map_nil, List.length_cons, List.length_nil, List.replicate, List.cons_append, List.nil_append, List.getElem?_cons_zero, List.getElem?_cons_succ, List.set_cons_zero, List.set_cons_succ, Option.map_some, Option.map_none, Option.bind_some, Option.bind_none, cmp_eq_int, cmp_ne_int, cmp_eq_str, cmp_ne_str, cmp_eq_bl, cmp_ne_bl, cmp_lt_int, cmp_le_int, cmp_gt_int, cmp_ge_int, cmp_is_non, cmp_is_int, cmp_is_tup, cmp_isn_non, cmp_isn_int, cmp_isn_tup, cmp_is_bl, cmp_isn_bl, cmp_in_str, isi_bl, isi_int, isi_str, isi_tup, isi_lst, isi_non, truth_bl, len_tup, len_lst, len_fro, idx_tup, idx_lst, idx_fro, isStr, seqI_str, seqI_tup, seqI_lst, decide_true, decide_false, if_true, if_false, ↓reduceIte, eq_self, Bool.false_eq_true, Bool.true_or, Bool.or_true, Bool.false_or, Bool.or_false, Bool.true_and, Bool.and_true, Bool.false_and, Bool.and_false, Bool.not_true, Bool.not_false, reduceCtorEq, and_self, and_true, true_and, ite_self, size16, Nat.reduceAdd, Nat.reduceLeDiff, Nat.zero_le]) ?_
  obtain ⟨r', S', h, rfl, v4, v5, v6, rfl⟩ := exec_for_ix (c := G.cfg (n + 3)) (tg := .tp [4, 5, 6]) (it := .seq (.var 0)) (b := c__law_sounded_b0) (S := S ++ [.lst []]) (r := [some (.tup (es.map En.d)), some (.tup (ws.map Nd.d)), some (.tup (bk.map bkD)), some (.ref S.length), none, none, none, none])
    es En.d (w := fun _ => true) (fun i r' S' => S' = S ++ [.lst (((sndE es bk).take i).map En.d)] ∧ ∃ v4 v5 v6, r' = [some (.tup (es.map En.d)), some (.tup (ws.map Nd.d)), some (.tup (bk.map bkD)), some (.ref S.length), v4, v5, v6, none])
    (by simp only [Rf.execs, Rf.execS, evalE, evalEs, evalO, evalT, evalL, evalC, evalI, bd_k, of_some, startE, bindT, wipeT, List.map_cons, List.map_nil, List.length_cons, List.length_nil, List.replicate, List.cons_append, List.nil_append, List.getElem?_cons_zero, List.getElem?_cons_succ, List.set_cons_zero, List.set_cons_succ, Option.map_some, Option.map_none, Option.bind_some, Option.bind_none, cmp_eq_int, cmp_ne_int, cmp_eq_str, cmp_ne_str, cmp_eq_bl, cmp_ne_bl, cmp_lt_int, cmp_le_int, cmp_gt_int, cmp_ge_int, cmp_is_non, cmp_is_int, cmp_is_tup, cmp_isn_non, cmp_isn_int, cmp_isn_tup, cmp_is_bl, cmp_isn_bl, cmp_in_str, isi_bl, isi_int, isi_str, isi_tup, isi_lst, isi_non, truth_bl, len_tup, len_lst, len_fro, idx_tup, idx_lst, idx_fro, isStr, seqI_str, seqI_tup, seqI_lst, decide_true, decide_false, if_true, if_false, ↓reduceIte, eq_self, Bool.false_eq_true, Bool.true_or, Bool.or_true, Bool.false_or, Bool.or_false, Bool.true_and, Bool.and_true, Bool.false_and, Bool.and_false, Bool.not_true, Bool.not_false, reduceCtorEq, and_self, and_true, true_and, ite_self, size16, Nat.reduceAdd, Nat.reduceLeDiff, Nat.zero_le]) (fun _ _ _ _ => rfl) (fun i hi r1 S1 hI => by
      obtain ⟨rfl, v4, v5, v6, rfl⟩ := hI
      have hl2 : i < (sndE es bk).length := by unfold sndE; rw [List.length_map]; exact hi
      have e : (sndE es bk).take (i + 1) = (sndE es bk).take i ++ [if (es[i].x, es[i].m) ∈ bk then ⟨es[i].x, es[i].m, es[i].ns.filter (metB bk)⟩ else es[i]] := by
        rw [List.take_succ_eq_append_getElem hl2, sndE_get es bk i hi]
      have ok := B.e es[i] (List.getElem_mem hi)
      have ln := nl es[i] (List.getElem_mem hi)
      rw [e, List.map_append]
      have tl : ((sndE es bk).take i).length ≤ 100 := by rw [List.length_take]; omega
      generalize (sndE es bk).take i = T at tl ⊢
      generalize es[i] = o at *
      have ib := in_bk (S ++ [.lst (T.map En.d)]) bk o.x o.m
      have mt := isMut_end S (T.map En.d)
      have ap := fun y => app_end S (T.map En.d) y (by rw [size16, List.length_map]; omega)
      refine ⟨[some (.tup (es.map En.d)), some (.tup (ws.map Nd.d)), some (.tup (bk.map bkD)), some (.ref S.length), some (.str o.x), some o.m.d, some (.tup (o.ns.map Nd.d)), none], rfl, ?_⟩
      by_cases q : (o.x, o.m) ∈ bk
      · rw [if_pos q]
        rw [decide_eq_true q] at ib
        have l0 : evalL (G.cfg (n + 3)) c__law_sounded_l0 [some (.tup (es.map En.d)), some (.tup (ws.map Nd.d)), some (.tup (bk.map bkD)), some (.ref S.length), some (.str o.x), some o.m.d, some (.tup (o.ns.map Nd.d)), none] (S ++ [.lst (T.map En.d)]) = .ok ((o.ns.filter (metB bk)).map Nd.d, S ++ [.lst (T.map En.d)]) :=
          eval_compF o.ns Nd.d _ _ (by simp only [Rf.execs, Rf.execS, evalE, evalEs, evalO, evalT, evalL, evalC, evalI, bd_k, of_some, startE, bindT, wipeT, List.map_cons, List.map_nil, List.length_cons, List.length_nil, List.replicate, List.cons_append, List.nil_append, List.getElem?_cons_zero, List.getElem?_cons_succ, List.set_cons_zero, List.set_cons_succ, Option.map_some, Option.map_none, Option.bind_some, Option.bind_none, cmp_eq_int, cmp_ne_int, cmp_eq_str, cmp_ne_str, cmp_eq_bl, cmp_ne_bl, cmp_lt_int, cmp_le_int, cmp_gt_int, cmp_ge_int, cmp_is_non, cmp_is_int, cmp_is_tup, cmp_isn_non, cmp_isn_int, cmp_isn_tup, cmp_is_bl, cmp_isn_bl, cmp_in_str, isi_bl, isi_int, isi_str, isi_tup, isi_lst, isi_non, truth_bl, len_tup, len_lst, len_fro, idx_tup, idx_lst, idx_fro, isStr, seqI_str, seqI_tup, seqI_lst, decide_true, decide_false, if_true, if_false, ↓reduceIte, eq_self, Bool.false_eq_true, Bool.true_or, Bool.or_true, Bool.false_or, Bool.or_false, Bool.true_and, Bool.and_true, Bool.false_and, Bool.and_false, Bool.not_true, Bool.not_false, reduceCtorEq, and_self, and_true, true_and, ite_self, size16, Nat.reduceAdd, Nat.reduceLeDiff, Nat.zero_le]) (by rw [size16]; omega) fun u hu => ⟨_, rfl, by
            have m := cfg_ok (law_is_met_ok F.key F.lies F.lmet B.b u (ok u hu) n (S ++ [.lst (T.map En.d)]))
            cases k : metB bk u <;> (rw [k] at m; simp only [Rf.execs, Rf.execS, evalE, evalEs, evalO, evalT, evalL, evalC, evalI, bd_k, of_some, startE, bindT, wipeT, List.map_cons, List.map_nil, List.length_cons, List.length_nil, List.replicate, List.cons_append, List.nil_append, List.getElem?_cons_zero, List.getElem?_cons_succ, List.set_cons_zero, List.set_cons_succ, Option.map_some, Option.map_none, Option.bind_some, Option.bind_none, cmp_eq_int, cmp_ne_int, cmp_eq_str, cmp_ne_str, cmp_eq_bl, cmp_ne_bl, cmp_lt_int, cmp_le_int, cmp_gt_int, cmp_ge_int, cmp_is_non, cmp_is_int, cmp_is_tup, cmp_isn_non, cmp_isn_int, cmp_isn_tup, cmp_is_bl, cmp_isn_bl, cmp_in_str, isi_bl, isi_int, isi_str, isi_tup, isi_lst, isi_non, truth_bl, len_tup, len_lst, len_fro, idx_tup, idx_lst, idx_fro, isStr, seqI_str, seqI_tup, seqI_lst, decide_true, decide_false, if_true, if_false, ↓reduceIte, eq_self, Bool.false_eq_true, Bool.true_or, Bool.or_true, Bool.false_or, Bool.or_false, Bool.true_and, Bool.and_true, Bool.false_and, Bool.and_false, Bool.not_true, Bool.not_false, reduceCtorEq, and_self, and_true, true_and, ite_self, size16, Nat.reduceAdd, Nat.reduceLeDiff, Nat.zero_le, m]), fun _ => by simp only [Rf.execs, Rf.execS, evalE, evalEs, evalO, evalT, evalL, evalC, evalI, bd_k, of_some, startE, bindT, wipeT, List.map_cons, List.map_nil, List.length_cons, List.length_nil, List.replicate, List.cons_append, List.nil_append, List.getElem?_cons_zero, List.getElem?_cons_succ, List.set_cons_zero, List.set_cons_succ, Option.map_some, Option.map_none, Option.bind_some, Option.bind_none, cmp_eq_int, cmp_ne_int, cmp_eq_str, cmp_ne_str, cmp_eq_bl, cmp_ne_bl, cmp_lt_int, cmp_le_int, cmp_gt_int, cmp_ge_int, cmp_is_non, cmp_is_int, cmp_is_tup, cmp_isn_non, cmp_isn_int, cmp_isn_tup, cmp_is_bl, cmp_isn_bl, cmp_in_str, isi_bl, isi_int, isi_str, isi_tup, isi_lst, isi_non, truth_bl, len_tup, len_lst, len_fro, idx_tup, idx_lst, idx_fro, isStr, seqI_str, seqI_tup, seqI_lst, decide_true, decide_false, if_true, if_false, ↓reduceIte, eq_self, Bool.false_eq_true, Bool.true_or, Bool.or_true, Bool.false_or, Bool.or_false, Bool.true_and, Bool.and_true, Bool.false_and, Bool.and_false, Bool.not_true, Bool.not_false, reduceCtorEq, and_self, and_true, true_and, ite_self, size16, Nat.reduceAdd, Nat.reduceLeDiff, Nat.zero_le]⟩
        have bt : biD .tuple (S ++ [.lst (T.map En.d)]) [.lst ((o.ns.filter (metB bk)).map Nd.d)] = some (.tup ((o.ns.filter (metB bk)).map Nd.d)) := rfl
        have ap := ap (.tup [.str o.x, o.m.d, .tup ((o.ns.filter (metB bk)).map Nd.d)])
        refine ⟨[some (.tup (es.map En.d)), some (.tup (ws.map Nd.d)), some (.tup (bk.map bkD)), some (.ref S.length), some (.str o.x), some o.m.d, some (.tup ((o.ns.filter (metB bk)).map Nd.d)), none], S ++ [.lst (T.map En.d ++ [.tup [.str o.x, o.m.d, .tup ((o.ns.filter (metB bk)).map Nd.d)]])], ?_, rfl, _, _, _, rfl⟩
        simp only [c__law_sounded_b0, Rf.execs, Rf.execS, evalE, evalEs, evalO, evalT, evalL, evalC, evalI, bd_k, of_some, startE, bindT, wipeT, List.map_cons, List.map_nil, List.length_cons, List.length_nil, List.replicate, List.cons_append, List.nil_append, List.getElem?_cons_zero, List.getElem?_cons_succ, List.set_cons_zero, List.set_cons_succ, Option.map_some, Option.map_none, Option.bind_some, Option.bind_none, cmp_eq_int, cmp_ne_int, cmp_eq_str, cmp_ne_str, cmp_eq_bl, cmp_ne_bl, cmp_lt_int, cmp_le_int, cmp_gt_int, cmp_ge_int, cmp_is_non, cmp_is_int, cmp_is_tup, cmp_isn_non, cmp_isn_int, cmp_isn_tup, cmp_is_bl, cmp_isn_bl, cmp_in_str, isi_bl, isi_int, isi_str, isi_tup, isi_lst, isi_non, truth_bl, len_tup, len_lst, len_fro, idx_tup, idx_lst, idx_fro, isStr, seqI_str, seqI_tup, seqI_lst, decide_true, decide_false, if_true, if_false, ↓reduceIte, eq_self, Bool.false_eq_true, Bool.true_or, Bool.or_true, Bool.false_or, Bool.or_false, Bool.true_and, Bool.and_true, Bool.false_and, Bool.and_false, Bool.not_true, Bool.not_false, reduceCtorEq, and_self, and_true, true_and, ite_self, size16, Nat.reduceAdd, Nat.reduceLeDiff, Nat.zero_le, ib, l0, bt, mt, ap]
      · rw [if_neg q]
        rw [decide_eq_false q] at ib
        have ap := ap (.tup [.str o.x, o.m.d, .tup (o.ns.map Nd.d)])
        refine ⟨[some (.tup (es.map En.d)), some (.tup (ws.map Nd.d)), some (.tup (bk.map bkD)), some (.ref S.length), some (.str o.x), some o.m.d, some (.tup (o.ns.map Nd.d)), none], S ++ [.lst (T.map En.d ++ [.tup [.str o.x, o.m.d, .tup (o.ns.map Nd.d)]])], ?_, rfl, _, _, _, rfl⟩
        simp only [c__law_sounded_b0, Rf.execs, Rf.execS, evalE, evalEs, evalO, evalT, evalL, evalC, evalI, bd_k, of_some, startE, bindT, wipeT, List.map_cons, List.map_nil, List.length_cons, List.length_nil, List.replicate, List.cons_append, List.nil_append, List.getElem?_cons_zero, List.getElem?_cons_succ, List.set_cons_zero, List.set_cons_succ, Option.map_some, Option.map_none, Option.bind_some, Option.bind_none, cmp_eq_int, cmp_ne_int, cmp_eq_str, cmp_ne_str, cmp_eq_bl, cmp_ne_bl, cmp_lt_int, cmp_le_int, cmp_gt_int, cmp_ge_int, cmp_is_non, cmp_is_int, cmp_is_tup, cmp_isn_non, cmp_isn_int, cmp_isn_tup, cmp_is_bl, cmp_isn_bl, cmp_in_str, isi_bl, isi_int, isi_str, isi_tup, isi_lst, isi_non, truth_bl, len_tup, len_lst, len_fro, idx_tup, idx_lst, idx_fro, isStr, seqI_str, seqI_tup, seqI_lst, decide_true, decide_false, if_true, if_false, ↓reduceIte, eq_self, Bool.false_eq_true, Bool.true_or, Bool.or_true, Bool.false_or, Bool.or_false, Bool.true_and, Bool.and_true, Bool.false_and, Bool.and_false, Bool.not_true, Bool.not_false, reduceCtorEq, and_self, and_true, true_and, ite_self, size16, Nat.reduceAdd, Nat.reduceLeDiff, Nat.zero_le, ib, mt, ap]) ⟨by simp, _, _, _, rfl⟩
  rw [show es.length = (sndE es bk).length from by unfold sndE; rw [List.length_map], List.take_length] at h
  refine rat_step (s := c__law_sounded_s0) h ?_
  have it : items (S ++ [.lst ((sndE es bk).map En.d)]) (.ref S.length) = some ((sndE es bk).map En.d) := items_pl S [.lst ((sndE es bk).map En.d)] 0 _ rfl
  have bt : biD .tuple (S ++ [.lst ((sndE es bk).map En.d)]) [.ref S.length] = some (.tup ((sndE es bk).map En.d)) := by
    show (items _ _).map D.tup = _
    rw [it]; rfl
  have l1 : evalL (G.cfg (n + 3)) c__law_sounded_l1 [some (.tup (es.map En.d)), some (.tup (ws.map Nd.d)), some (.tup (bk.map bkD)), some (.ref S.length), v4, v5, v6, none] (S ++ [.lst ((sndE es bk).map En.d)]) = .ok ((sndW ws bk).map Nd.d, S ++ [.lst ((sndE es bk).map En.d)]) :=
    eval_compF ws Nd.d _ _ (by simp only [Rf.execs, Rf.execS, evalE, evalEs, evalO, evalT, evalL, evalC, evalI, bd_k, of_some, startE, bindT, wipeT, List.map_cons, List.map_nil, List.length_cons, List.length_nil, List.replicate, List.cons_append, List.nil_append, List.getElem?_cons_zero, List.getElem?_cons_succ, List.set_cons_zero, List.set_cons_succ, Option.map_some, Option.map_none, Option.bind_some, Option.bind_none, cmp_eq_int, cmp_ne_int, cmp_eq_str, cmp_ne_str, cmp_eq_bl, cmp_ne_bl, cmp_lt_int, cmp_le_int, cmp_gt_int, cmp_ge_int, cmp_is_non, cmp_is_int, cmp_is_tup, cmp_isn_non, cmp_isn_int, cmp_isn_tup, cmp_is_bl, cmp_isn_bl, cmp_in_str, isi_bl, isi_int, isi_str, isi_tup, isi_lst, isi_non, truth_bl, len_tup, len_lst, len_fro, idx_tup, idx_lst, idx_fro, isStr, seqI_str, seqI_tup, seqI_lst, decide_true, decide_false, if_true, if_false, ↓reduceIte, eq_self, Bool.false_eq_true, Bool.true_or, Bool.or_true, Bool.false_or, Bool.or_false, Bool.true_and, Bool.and_true, Bool.false_and, Bool.and_false, Bool.not_true, Bool.not_false, reduceCtorEq, and_self, and_true, true_and, ite_self, size16, Nat.reduceAdd, Nat.reduceLeDiff, Nat.zero_le]) (by rw [size16]; omega) fun u hu => ⟨_, rfl, by
      have m := cfg_ok (law_is_met_ok F.key F.lies F.lmet B.b u (B.w u hu) n (S ++ [.lst ((sndE es bk).map En.d)]))
      cases k : metB bk u <;> (rw [k] at m; simp only [Rf.execs, Rf.execS, evalE, evalEs, evalO, evalT, evalL, evalC, evalI, bd_k, of_some, startE, bindT, wipeT, List.map_cons, List.map_nil, List.length_cons, List.length_nil, List.replicate, List.cons_append, List.nil_append, List.getElem?_cons_zero, List.getElem?_cons_succ, List.set_cons_zero, List.set_cons_succ, Option.map_some, Option.map_none, Option.bind_some, Option.bind_none, cmp_eq_int, cmp_ne_int, cmp_eq_str, cmp_ne_str, cmp_eq_bl, cmp_ne_bl, cmp_lt_int, cmp_le_int, cmp_gt_int, cmp_ge_int, cmp_is_non, cmp_is_int, cmp_is_tup, cmp_isn_non, cmp_isn_int, cmp_isn_tup, cmp_is_bl, cmp_isn_bl, cmp_in_str, isi_bl, isi_int, isi_str, isi_tup, isi_lst, isi_non, truth_bl, len_tup, len_lst, len_fro, idx_tup, idx_lst, idx_fro, isStr, seqI_str, seqI_tup, seqI_lst, decide_true, decide_false, if_true, if_false, ↓reduceIte, eq_self, Bool.false_eq_true, Bool.true_or, Bool.or_true, Bool.false_or, Bool.or_false, Bool.true_and, Bool.and_true, Bool.false_and, Bool.and_false, Bool.not_true, Bool.not_false, reduceCtorEq, and_self, and_true, true_and, ite_self, size16, Nat.reduceAdd, Nat.reduceLeDiff, Nat.zero_le, m]), fun _ => by simp only [Rf.execs, Rf.execS, evalE, evalEs, evalO, evalT, evalL, evalC, evalI, bd_k, of_some, startE, bindT, wipeT, List.map_cons, List.map_nil, List.length_cons, List.length_nil, List.replicate, List.cons_append, List.nil_append, List.getElem?_cons_zero, List.getElem?_cons_succ, List.set_cons_zero, List.set_cons_succ, Option.map_some, Option.map_none, Option.bind_some, Option.bind_none, cmp_eq_int, cmp_ne_int, cmp_eq_str, cmp_ne_str, cmp_eq_bl, cmp_ne_bl, cmp_lt_int, cmp_le_int, cmp_gt_int, cmp_ge_int, cmp_is_non, cmp_is_int, cmp_is_tup, cmp_isn_non, cmp_isn_int, cmp_isn_tup, cmp_is_bl, cmp_isn_bl, cmp_in_str, isi_bl, isi_int, isi_str, isi_tup, isi_lst, isi_non, truth_bl, len_tup, len_lst, len_fro, idx_tup, idx_lst, idx_fro, isStr, seqI_str, seqI_tup, seqI_lst, decide_true, decide_false, if_true, if_false, ↓reduceIte, eq_self, Bool.false_eq_true, Bool.true_or, Bool.or_true, Bool.false_or, Bool.or_false, Bool.true_and, Bool.and_true, Bool.false_and, Bool.and_false, Bool.not_true, Bool.not_false, reduceCtorEq, and_self, and_true, true_and, ite_self, size16, Nat.reduceAdd, Nat.reduceLeDiff, Nat.zero_le]⟩
  have bt2 : biD .tuple (S ++ [.lst ((sndE es bk).map En.d)]) [.lst ((sndW ws bk).map Nd.d)] = some (.tup ((sndW ws bk).map Nd.d)) := rfl
  exact ⟨_, _, by simp only [Rf.execs, Rf.execS, evalE, evalEs, evalO, evalT, evalL, evalC, evalI, bd_k, of_some, startE, bindT, wipeT, List.map_cons, List.map_nil, List.length_cons, List.length_nil, List.replicate, List.cons_append, List.nil_append, List.getElem?_cons_zero, List.getElem?_cons_succ, List.set_cons_zero, List.set_cons_succ, Option.map_some, Option.map_none, Option.bind_some, Option.bind_none, cmp_eq_int, cmp_ne_int, cmp_eq_str, cmp_ne_str, cmp_eq_bl, cmp_ne_bl, cmp_lt_int, cmp_le_int, cmp_gt_int, cmp_ge_int, cmp_is_non, cmp_is_int, cmp_is_tup, cmp_isn_non, cmp_isn_int, cmp_isn_tup, cmp_is_bl, cmp_isn_bl, cmp_in_str, isi_bl, isi_int, isi_str, isi_tup, isi_lst, isi_non, truth_bl, len_tup, len_lst, len_fro, idx_tup, idx_lst, idx_fro, isStr, seqI_str, seqI_tup, seqI_lst, decide_true, decide_false, if_true, if_false, ↓reduceIte, eq_self, Bool.false_eq_true, Bool.true_or, Bool.or_true, Bool.false_or, Bool.or_false, Bool.true_and, Bool.and_true, Bool.false_and, Bool.and_false, Bool.not_true, Bool.not_false, reduceCtorEq, and_self, and_true, true_and, ite_self, size16, Nat.reduceAdd, Nat.reduceLeDiff, Nat.zero_le, bt, l1, bt2]; rfl⟩


def okM (ws : List Nd) (es : List En) (bk : List Bk) (x : Str) (m : Make) : Bool := decide (brkL ws es (withB bk x m) = [])
def newM (ws : List Nd) (es : List En) (bk : List Bk) (x : Str) : Option Make := (descM (mkS es x)).find? (okM ws es bk x)

def whyD (ws : List Nd) (es : List En) (bk : List Bk) (x : Str) (m : Make) : D := .tup [m.d, wkD ((brkL ws es (withB bk x m)).headD ("", ⟨"", []⟩))]
def whysL (ws : List Nd) (es : List En) (bk : List Bk) (x : Str) : List D := ((descM (mkS es x)).takeWhile fun m => !okM ws es bk x m).map (whyD ws es bk x)
theorem whyD_pur (ws : List Nd) (es : List En) (bk : List Bk) (x : Str) (m : Make) : D.pur (whyD ws es bk x m) = true := by
  unfold whyD
  rw [D.pur, D.purs, D.purs, D.purs, m.pur, wkD_pur]; rfl
structure NwOk (ws : List Nd) (es : List En) (bk : List Bk) : Prop where
  B : BOk ws es bk
  mem : ∀ b ∈ bk, ∃ e ∈ es, e.x = b.1 ∧ e.m = b.2
  nd : (bk.map (·.1)).Nodup
  pw : es.Pairwise fun a b => ¬ a.same b
  sm : ∀ e ∈ es, e.m.sm
  el : es.length ≤ 40
theorem mkS_mem {es : List En} {x : Str} {m : Make} : m ∈ mkS es x ↔ ∃ e ∈ es, e.x = x ∧ e.m = m := by
  unfold mkS
  constructor
  · intro h
    obtain ⟨e, he, rfl⟩ := List.mem_map.mp h
    obtain ⟨h1, h2⟩ := List.mem_filter.mp he
    exact ⟨e, h1, of_decide_eq_true h2, rfl⟩
  · rintro ⟨e, he, h1, h2⟩
    exact List.mem_map.mpr ⟨e, List.mem_filter.mpr ⟨he, decide_eq_true h1⟩, h2⟩
theorem descM_mem {l : List Make} {m : Make} : m ∈ descM l ↔ m ∈ l := (descM_perm l).mem_iff
theorem NwOk.with {ws : List Nd} {es : List En} {bk : List Bk} (N : NwOk ws es bk) {x : Str} {m : Make} (hm : m ∈ mkS es x) : NwOk ws es (withB bk x m) := by
  obtain ⟨e0, he0, ex, em⟩ := mkS_mem.mp hm
  refine ⟨⟨N.B.w, N.B.e, fun b hb => ?_, N.B.wl, N.B.el, N.B.nl, by rw [withB_len]; exact N.B.bl⟩, fun b hb => ?_, by rw [withB_names]; exact N.nd, N.pw, N.sm, N.el⟩
  · obtain ⟨c, hc, h1, h2⟩ := withB_mem hb
    rcases h2 with h2 | h2
    · rw [h2]; exact N.B.b c hc
    · rw [h2.2, ← em]; exact N.sm e0 he0
  · obtain ⟨c, hc, h1, h2⟩ := withB_mem hb
    rcases h2 with h2 | h2
    · obtain ⟨e, he, k1, k2⟩ := N.mem c hc
      exact ⟨e, he, by rw [k1, h1], by rw [k2, h2]⟩
    · exact ⟨e0, he0, by rw [ex, h2.1], by rw [em, h2.2]⟩
structure FNw (G : Gam) : Prop where
  brk : FBrk G
  new : FNew G
  mks : List.lookup (Str.ofString "makes_of") G.fns = some c_makes_of
  wth : List.lookup (Str.ofString "with_make") G.fns = some c_with_make
  nws : List.lookup (Str.ofString "newest") G.fns = some c_newest
theorem dof_bk {bk : List Bk} (nd : (bk.map (·.1)).Nodup) : dofD (.tup (bk.map bkD)) = some (bk.map fun b => .str b.1, bk.map fun b => b.2.d) := by
  have pl : ∀ l : List Bk, pairL (l.map bkD) = some (l.map fun b => .str b.1, l.map fun b => b.2.d) := fun l => by
    induction l with
    | nil => rfl
    | cons b l ih =>
      rw [List.map_cons]
      show (pairL (l.map bkD)).map _ = _
      rw [ih]; rfl
  show (pairL (bk.map bkD)).bind _ = _
  rw [pl, Option.bind_some]
  have nd2 : (bk.map fun b => D.str b.1).Nodup := by
    rw [show (bk.map fun b => D.str b.1) = (bk.map (·.1)).map D.str from by rw [List.map_map]; rfl]
    unfold List.Nodup at nd ⊢
    rw [List.pairwise_map]
    exact nd.imp fun h e => h (by injection e)
  rw [if_pos nd2]
theorem newest_ok {G : Gam} (F : FNw G) {ws : List Nd} {es : List En} {bk : List Bk} (N : NwOk ws es bk) {x : Str} (hx : x ∈ bk.map (·.1)) {m : Make} (hm : newM ws es bk x = some m) (n : Nat) (S : Store) :
    callF G (n + 8) "newest" [.tup (es.map En.d), .tup (ws.map Nd.d), .tup (bk.map bkD), .str x] S = .ok (.tup [m.d, .lst (whysL ws es bk x)], S) := by
  have bl := N.B.bl
  obtain ⟨ks, hks⟩ : ∃ ks, ks = bk.map fun b => D.str b.1 := ⟨_, rfl⟩
  obtain ⟨vs, hvs⟩ : ∃ vs, vs = bk.map fun b => b.2.d := ⟨_, rfl⟩
  have df := dof_bk N.nd
  rw [← hks, ← hvs] at df
  have xk : (.str x : D) ∈ ks := by
    rw [hks]
    obtain ⟨b, hb, e⟩ := List.mem_map.mp hx
    exact List.mem_map.mpr ⟨b, hb, by rw [e]⟩
  obtain ⟨M, hM⟩ : ∃ M, M = descM (mkS es x) := ⟨_, rfl⟩
  obtain ⟨r0, hr0⟩ : ∃ r0 : Option D → Option D → Env, r0 = fun v6 v7 => [some (.tup (es.map En.d)), some (.tup (ws.map Nd.d)), some (.tup (bk.map bkD)), some (.str x), some (.ref S.length), some (.ref (S.length + 1)), v6, v7] := ⟨_, rfl⟩
  have ex : ∃ r' T, execs (G.cfg (n + 7)) c_newest.body [some (.tup (es.map En.d)), some (.tup (ws.map Nd.d)), some (.tup (bk.map bkD)), some (.str x), none, none, none, none] S = .ok ((.rt (.tup [m.d, .ref (S.length + 1)]), r'), S ++ ([.dks ks vs, .lst (whysL ws es bk x), .lst (M.map Make.d)] ++ T)) := by
    have s1 : execS (G.cfg (n + 7)) (.asg 4 (.dof (.var 2))) [some (.tup (es.map En.d)), some (.tup (ws.map Nd.d)), some (.tup (bk.map bkD)), some (.str x), none, none, none, none] S = .ok ((.nx, [some (.tup (es.map En.d)), some (.tup (ws.map Nd.d)), some (.tup (bk.map bkD)), some (.str x), some (.ref S.length), none, none, none]), S ++ [.dks ks vs]) := by
      simp only [Rf.execs, Rf.execS, evalE, evalEs, evalO, evalT, evalL, evalC, evalI, bd_k, of_some, startE, bindT, wipeT, List.map_cons, List.map_nil, List.length_cons, List.length_nil, List.replicate, List.cons_append, List.nil_append, List.getElem?_cons_zero, List.getElem?_cons_succ, List.set_cons_zero, List.set_cons_succ, Option.map_some, Option.map_none, Option.bind_some, Option.bind_none, cmp_eq_int, cmp_ne_int, cmp_eq_str, cmp_ne_str, cmp_eq_bl, cmp_ne_bl, cmp_lt_int, cmp_le_int, cmp_gt_int, cmp_ge_int, cmp_is_non, cmp_is_int, cmp_is_tup, cmp_isn_non, cmp_isn_int, cmp_isn_tup, cmp_is_bl, cmp_isn_bl, cmp_in_str, isi_bl, isi_int, isi_str, isi_tup, isi_lst, isi_non, truth_bl, len_tup, len_lst, len_fro, idx_tup, idx_lst, idx_fro, isStr, seqI_str, seqI_tup, seqI_lst, decide_true, decide_false, if_true, if_false, ↓reduceIte, eq_self, Bool.false_eq_true, Bool.true_or, Bool.or_true, Bool.false_or, Bool.or_false, Bool.true_and, Bool.and_true, Bool.false_and, Bool.and_false, Bool.not_true, Bool.not_false, reduceCtorEq, and_self, and_true, true_and, ite_self, size16, Nat.reduceAdd, Nat.reduceLeDiff, Nat.zero_le, df]
    have ni : cmpD (S ++ [.dks ks vs]) .NotIn (.str x) (.ref S.length) = some false := by
      show (inRef (S ++ [.dks ks vs]) (.str x) S.length).map (!·) = _
      have g : (S ++ [O.dks ks vs])[S.length]? = some (.dks ks vs) := by rw [List.getElem?_append_right (Nat.le_refl _), Nat.sub_self]; rfl
      unfold inRef
      rw [g]
      show (some (decide ((.str x : D) ∈ ks))).map (!·) = _
      rw [decide_eq_true xk]; rfl
    have s2 : execS (G.cfg (n + 7)) (.ite (.cmp .NotIn (.var 3) (.var 4)) (.cons .never .nil) .nil) [some (.tup (es.map En.d)), some (.tup (ws.map Nd.d)), some (.tup (bk.map bkD)), some (.str x), some (.ref S.length), none, none, none] (S ++ [.dks ks vs]) = .ok ((.nx, [some (.tup (es.map En.d)), some (.tup (ws.map Nd.d)), some (.tup (bk.map bkD)), some (.str x), some (.ref S.length), none, none, none]), S ++ [.dks ks vs]) := by
      simp only [Rf.execs, Rf.execS, evalE, evalEs, evalO, evalT, evalL, evalC, evalI, bd_k, of_some, startE, bindT, wipeT, List.map_cons, List.map_nil, List.length_cons, List.length_nil, List.replicate, List.cons_append, List.nil_append, List.getElem?_cons_zero, List.getElem?_cons_succ, List.set_cons_zero, List.set_cons_succ, Option.map_some, Option.map_none, Option.bind_some, Option.bind_none, cmp_eq_int, cmp_ne_int, cmp_eq_str, cmp_ne_str, cmp_eq_bl, cmp_ne_bl, cmp_lt_int, cmp_le_int, cmp_gt_int, cmp_ge_int, cmp_is_non, cmp_is_int, cmp_is_tup, cmp_isn_non, cmp_isn_int, cmp_isn_tup, cmp_is_bl, cmp_isn_bl, cmp_in_str, isi_bl, isi_int, isi_str, isi_tup, isi_lst, isi_non, truth_bl, len_tup, len_lst, len_fro, idx_tup, idx_lst, idx_fro, isStr, seqI_str, seqI_tup, seqI_lst, decide_true, decide_false, if_true, if_false, ↓reduceIte, eq_self, Bool.false_eq_true, Bool.true_or, Bool.or_true, Bool.false_or, Bool.or_false, Bool.true_and, Bool.and_true, Bool.false_and, Bool.and_false, Bool.not_true, Bool.not_false, reduceCtorEq, and_self, and_true, true_and, ite_self, size16, Nat.reduceAdd, Nat.reduceLeDiff, Nat.zero_le, ni]
    obtain ⟨S2, hS2⟩ : ∃ S2, S2 = S ++ [O.dks ks vs] ++ [.lst []] := ⟨_, rfl⟩
    have S2l : S2.length = S.length + 2 := by rw [hS2]; simp
    have s3 : execS (G.cfg (n + 7)) (.asg 5 (.new true (.disp .nil))) [some (.tup (es.map En.d)), some (.tup (ws.map Nd.d)), some (.tup (bk.map bkD)), some (.str x), some (.ref S.length), none, none, none] (S ++ [.dks ks vs]) = .ok ((.nx, r0 none none), S2) := by
      rw [hr0, hS2]
      simp only [Rf.execs, Rf.execS, evalE, evalEs, evalO, evalT, evalL, evalC, evalI, bd_k, of_some, startE, bindT, wipeT, List.map_cons, List.map_nil, List.length_cons, List.length_nil, List.replicate, List.cons_append, List.nil_append, List.getElem?_cons_zero, List.getElem?_cons_succ, List.set_cons_zero, List.set_cons_succ, Option.map_some, Option.map_none, Option.bind_some, Option.bind_none, cmp_eq_int, cmp_ne_int, cmp_eq_str, cmp_ne_str, cmp_eq_bl, cmp_ne_bl, cmp_lt_int, cmp_le_int, cmp_gt_int, cmp_ge_int, cmp_is_non, cmp_is_int, cmp_is_tup, cmp_isn_non, cmp_isn_int, cmp_isn_tup, cmp_is_bl, cmp_isn_bl, cmp_in_str, isi_bl, isi_int, isi_str, isi_tup, isi_lst, isi_non, truth_bl, len_tup, len_lst, len_fro, idx_tup, idx_lst, idx_fro, isStr, seqI_str, seqI_tup, seqI_lst, decide_true, decide_false, if_true, if_false, ↓reduceIte, eq_self, Bool.false_eq_true, Bool.true_or, Bool.or_true, Bool.false_or, Bool.or_false, Bool.true_and, Bool.and_true, Bool.false_and, Bool.and_false, Bool.not_true, Bool.not_false, reduceCtorEq, and_self, and_true, true_and, ite_self, size16, Nat.reduceAdd, Nat.reduceLeDiff, Nat.zero_le, List.length_append, Nat.zero_add]
    have mo := cfg_ok (makes_of_ok F.new F.mks es (by have := N.el; omega) N.sm x (n + 3) S2)
    rw [← hM] at mo
    have sq := seqI_end S2 (M.map Make.d)
    obtain ⟨W, hW⟩ : ∃ W : List Make → List D, W = fun l => l.map (whyD ws es bk x) := ⟨_, rfl⟩
    have Ml : M.length ≤ 40 := by
      rw [hM, descM_len]
      unfold mkS
      rw [List.length_map]
      exact Nat.le_trans (List.length_filter_le _ _) N.el
    obtain ⟨hp, hA, B, hB⟩ := find_split (show M.find? (okM ws es bk x) = some m by rw [hM]; exact hm)
    obtain ⟨A, hAA⟩ : ∃ A, A = M.takeWhile fun y => !okM ws es bk x y := ⟨_, rfl⟩
    rw [← hAA] at hA hB
    have Al : A.length ≤ 40 := by
      have := congrArg List.length hB
      rw [List.length_append] at this; omega
    have hmem : ∀ y, y ∈ A ∨ y = m → y ∈ mkS es x := fun y hy => by
      have : y ∈ M := by
        rw [hB]
        rcases hy with hy | hy
        · exact List.mem_append_left _ hy
        · rw [hy]; simp
      rw [hM] at this; exact descM_mem.mp this
    have a7 : ∀ y, y ∈ mkS es x → ∀ v7 S', execS (G.cfg (n + 7)) (.asg 7 (.call "broken" (.cons (.var 0) (.cons (.var 1) (.cons (.call "with_make" (.cons (.var 2) (.cons (.var 3) (.cons (.var 6) .nil)))) .nil))))) [some (.tup (es.map En.d)), some (.tup (ws.map Nd.d)), some (.tup (bk.map bkD)), some (.str x), some (.ref S.length), some (.ref (S.length + 1)), some y.d, v7] S' =
        .ok ((.nx, [some (.tup (es.map En.d)), some (.tup (ws.map Nd.d)), some (.tup (bk.map bkD)), some (.str x), some (.ref S.length), some (.ref (S.length + 1)), some y.d, some (.ref S'.length)]), S' ++ [.lst ((brkL ws es (withB bk x y)).map wkD)]) := fun y hy v7 S' => by
      have NW := N.with hy
      have wo := cfg_ok (with_make_ok F.wth bk bl x y (n + 6) S')
      have bo := cfg_ok (broken_ok F.brk NW.B n S')
      simp only [Rf.execs, Rf.execS, evalE, evalEs, evalO, evalT, evalL, evalC, evalI, bd_k, of_some, startE, bindT, wipeT, List.map_cons, List.map_nil, List.length_cons, List.length_nil, List.replicate, List.cons_append, List.nil_append, List.getElem?_cons_zero, List.getElem?_cons_succ, List.set_cons_zero, List.set_cons_succ, Option.map_some, Option.map_none, Option.bind_some, Option.bind_none, cmp_eq_int, cmp_ne_int, cmp_eq_str, cmp_ne_str, cmp_eq_bl, cmp_ne_bl, cmp_lt_int, cmp_le_int, cmp_gt_int, cmp_ge_int, cmp_is_non, cmp_is_int, cmp_is_tup, cmp_isn_non, cmp_isn_int, cmp_isn_tup, cmp_is_bl, cmp_isn_bl, cmp_in_str, isi_bl, isi_int, isi_str, isi_tup, isi_lst, isi_non, truth_bl, len_tup, len_lst, len_fro, idx_tup, idx_lst, idx_fro, isStr, seqI_str, seqI_tup, seqI_lst, decide_true, decide_false, if_true, if_false, ↓reduceIte, eq_self, Bool.false_eq_true, Bool.true_or, Bool.or_true, Bool.false_or, Bool.or_false, Bool.true_and, Bool.and_true, Bool.false_and, Bool.and_false, Bool.not_true, Bool.not_false, reduceCtorEq, and_self, and_true, true_and, ite_self, size16, Nat.reduceAdd, Nat.reduceLeDiff, Nat.zero_le, wo, bo]
    have L := exec_for_find (c := G.cfg (n + 7)) (tg := .nm 6) (it := .seq (.call "makes_of" (.cons (.var 0) (.cons (.var 3) .nil)))) (b := c_newest_b0) (S := S2) (S1 := S2 ++ [.lst (M.map Make.d)]) (r := r0 none none)
      A m B Make.d (w := fun S' => decide (S'[S2.length]? = some (.lst (M.map Make.d)))) (fun i r' S' => ∃ T v6 v7, r' = r0 v6 v7 ∧ S' = S ++ ([.dks ks vs, .lst (W (A.take i)), .lst (M.map Make.d)] ++ T))
      (fun d _ S' => d = .tup [m.d, .ref (S.length + 1)] ∧ ∃ T, S' = S ++ ([.dks ks vs, .lst (W A), .lst (M.map Make.d)] ++ T))
      (by rw [← hB, hr0]; simp only [Rf.execs, Rf.execS, evalE, evalEs, evalO, evalT, evalL, evalC, evalI, bd_k, of_some, startE, bindT, wipeT, List.map_cons, List.map_nil, List.length_cons, List.length_nil, List.replicate, List.cons_append, List.nil_append, List.getElem?_cons_zero, List.getElem?_cons_succ, List.set_cons_zero, List.set_cons_succ, Option.map_some, Option.map_none, Option.bind_some, Option.bind_none, cmp_eq_int, cmp_ne_int, cmp_eq_str, cmp_ne_str, cmp_eq_bl, cmp_ne_bl, cmp_lt_int, cmp_le_int, cmp_gt_int, cmp_ge_int, cmp_is_non, cmp_is_int, cmp_is_tup, cmp_isn_non, cmp_isn_int, cmp_isn_tup, cmp_is_bl, cmp_isn_bl, cmp_in_str, isi_bl, isi_int, isi_str, isi_tup, isi_lst, isi_non, truth_bl, len_tup, len_lst, len_fro, idx_tup, idx_lst, idx_fro, isStr, seqI_str, seqI_tup, seqI_lst, decide_true, decide_false, if_true, if_false, ↓reduceIte, eq_self, Bool.false_eq_true, Bool.true_or, Bool.or_true, Bool.false_or, Bool.or_false, Bool.true_and, Bool.and_true, Bool.false_and, Bool.and_false, Bool.not_true, Bool.not_false, reduceCtorEq, and_self, and_true, true_and, ite_self, size16, Nat.reduceAdd, Nat.reduceLeDiff, Nat.zero_le, mo, sq]) (fun s r' S' hI => by
        obtain ⟨T, v6, v7, _, rfl⟩ := hI
        rw [S2l, List.getElem?_append_right (by omega), show S.length + 2 - S.length = 2 by omega]
        exact decide_eq_true rfl) (fun i hi r' S' hI => by
        obtain ⟨T, v6, v7, rfl, hS'⟩ := hI
        have hy := hmem A[i] (.inl (List.getElem_mem hi))
        have q' := hA A[i] (List.getElem_mem hi)
        have tk : A.take (i + 1) = A.take i ++ [A[i]] := List.take_succ_eq_append_getElem hi
        rw [tk]
        have Ti : (A.take i).length ≤ 40 := by rw [List.length_take]; omega
        generalize A.take i = s at *
        generalize A[i] = y at *
        refine ⟨[some (.tup (es.map En.d)), some (.tup (ws.map Nd.d)), some (.tup (bk.map bkD)), some (.str x), some (.ref S.length), some (.ref (S.length + 1)), some y.d, v7], by rw [hr0]; rfl, ?_⟩
        have a7 := a7 y hy v7 S'
        have q : brkL ws es (withB bk x y) ≠ [] := of_decide_eq_false q'
        have wn := wk_nil (S' ++ [.lst ((brkL ws es (withB bk x y)).map wkD)]) (.ref S'.length) (brkL ws es (withB bk x y)) (rs_end _ _)
        rw [decide_eq_false q] at wn
        obtain ⟨b, l, hb⟩ : ∃ b l, brkL ws es (withB bk x y) = b :: l := by
          cases k : brkL ws es (withB bk x y) with
          | nil => exact absurd k q
          | cons b l => exact ⟨b, l, rfl⟩
        have ew : whyD ws es bk x y = .tup [y.d, wkD b] := by unfold whyD; rw [hb]; rfl
        rw [hb] at wn a7
        have ix : idxD (S' ++ [.lst ((b :: l).map wkD)]) (.ref S'.length) (.int 0) = some (wkD b) := by rw [idx_end]; exact atI_zero _ _
        have S'l : S'.length = S.length + 3 + T.length := by rw [hS']; simp; omega
        have g : (S' ++ [O.lst ((b :: l).map wkD)])[S.length + 1]? = some (.lst (W s)) := by
          rw [List.getElem?_append_left (by omega), hS', List.getElem?_append_right (by omega), show S.length + 1 - S.length = 1 by omega]; rfl
        have mt := mut_atk g
        have ap := app_atk g (by rw [hW, List.length_map, size16]; omega) (.tup [y.d, wkD b])
        have st : (S' ++ [O.lst ((b :: l).map wkD)]).set (S.length + 1) (.lst (W s ++ [.tup [y.d, wkD b]])) = S ++ ([.dks ks vs, .lst (W (s ++ [y])), .lst (M.map Make.d)] ++ (T ++ [.lst ((b :: l).map wkD)])) := by
          rw [hS', List.append_assoc, List.set_append_right _ _ (by omega), show S.length + 1 - S.length = 1 by omega]
          have : W (s ++ [y]) = W s ++ [.tup [y.d, wkD b]] := by rw [hW]; simp [ew]
          rw [this]
          simp
        rw [st] at ap
        refine ⟨[some (.tup (es.map En.d)), some (.tup (ws.map Nd.d)), some (.tup (bk.map bkD)), some (.str x), some (.ref S.length), some (.ref (S.length + 1)), some y.d, some (.ref S'.length)], _, ?_, T ++ [.lst ((b :: l).map wkD)], some y.d, some (.ref S'.length), by rw [hr0], rfl⟩
        refine (execs_step a7).trans ?_
        generalize (b :: l).map wkD = BD at *
        simp only [Rf.execs, Rf.execS, evalE, evalEs, evalO, evalT, evalL, evalC, evalI, bd_k, of_some, startE, bindT, wipeT, List.map_cons, List.map_nil, List.length_cons, List.length_nil, List.replicate, List.cons_append, List.nil_append, List.getElem?_cons_zero, List.getElem?_cons_succ, List.set_cons_zero, List.set_cons_succ, Option.map_some, Option.map_none, Option.bind_some, Option.bind_none, cmp_eq_int, cmp_ne_int, cmp_eq_str, cmp_ne_str, cmp_eq_bl, cmp_ne_bl, cmp_lt_int, cmp_le_int, cmp_gt_int, cmp_ge_int, cmp_is_non, cmp_is_int, cmp_is_tup, cmp_isn_non, cmp_isn_int, cmp_isn_tup, cmp_is_bl, cmp_isn_bl, cmp_in_str, isi_bl, isi_int, isi_str, isi_tup, isi_lst, isi_non, truth_bl, len_tup, len_lst, len_fro, idx_tup, idx_lst, idx_fro, isStr, seqI_str, seqI_tup, seqI_lst, decide_true, decide_false, if_true, if_false, ↓reduceIte, eq_self, Bool.false_eq_true, Bool.true_or, Bool.or_true, Bool.false_or, Bool.or_false, Bool.true_and, Bool.and_true, Bool.false_and, Bool.and_false, Bool.not_true, Bool.not_false, reduceCtorEq, and_self, and_true, true_and, ite_self, size16, Nat.reduceAdd, Nat.reduceLeDiff, Nat.zero_le, wn, mt, ix, ap]) (fun r' S' hI => by
        obtain ⟨T, v6, v7, rfl, hS'⟩ := hI
        rw [List.take_length] at hS'
        have a7 := a7 m (hmem m (.inr rfl)) v7 S'
        have wn := wk_nil (S' ++ [.lst ((brkL ws es (withB bk x m)).map wkD)]) (.ref S'.length) (brkL ws es (withB bk x m)) (rs_end _ _)
        have q : brkL ws es (withB bk x m) = [] := of_decide_eq_true hp
        rw [q] at wn a7
        rw [decide_eq_true rfl] at wn
        refine ⟨[some (.tup (es.map En.d)), some (.tup (ws.map Nd.d)), some (.tup (bk.map bkD)), some (.str x), some (.ref S.length), some (.ref (S.length + 1)), some m.d, v7], by rw [hr0]; rfl, .tup [m.d, .ref (S.length + 1)], [some (.tup (es.map En.d)), some (.tup (ws.map Nd.d)), some (.tup (bk.map bkD)), some (.str x), some (.ref S.length), some (.ref (S.length + 1)), some m.d, some (.ref S'.length)], S' ++ [.lst []], ?_, rfl, T ++ [.lst []], by rw [hS']; simp⟩
        refine (execs_step a7).trans ?_
        simp only [List.map_nil] at wn ⊢
        simp only [Rf.execs, Rf.execS, evalE, evalEs, evalO, evalT, evalL, evalC, evalI, bd_k, of_some, startE, bindT, wipeT, List.map_cons, List.map_nil, List.length_cons, List.length_nil, List.replicate, List.cons_append, List.nil_append, List.getElem?_cons_zero, List.getElem?_cons_succ, List.set_cons_zero, List.set_cons_succ, Option.map_some, Option.map_none, Option.bind_some, Option.bind_none, cmp_eq_int, cmp_ne_int, cmp_eq_str, cmp_ne_str, cmp_eq_bl, cmp_ne_bl, cmp_lt_int, cmp_le_int, cmp_gt_int, cmp_ge_int, cmp_is_non, cmp_is_int, cmp_is_tup, cmp_isn_non, cmp_isn_int, cmp_isn_tup, cmp_is_bl, cmp_isn_bl, cmp_in_str, isi_bl, isi_int, isi_str, isi_tup, isi_lst, isi_non, truth_bl, len_tup, len_lst, len_fro, idx_tup, idx_lst, idx_fro, isStr, seqI_str, seqI_tup, seqI_lst, decide_true, decide_false, if_true, if_false, ↓reduceIte, eq_self, Bool.false_eq_true, Bool.true_or, Bool.or_true, Bool.false_or, Bool.or_false, Bool.true_and, Bool.and_true, Bool.false_and, Bool.and_false, Bool.not_true, Bool.not_false, reduceCtorEq, and_self, and_true, true_and, ite_self, size16, Nat.reduceAdd, Nat.reduceLeDiff, Nat.zero_le, wn]) ⟨[], none, none, rfl, by rw [hS2, hW]; simp⟩
    obtain ⟨d, r', S', h, rfl, T, rfl⟩ := L
    refine ⟨r', T, ?_⟩
    have e : W A = whysL ws es bk x := by rw [hW, hAA, hM]; rfl
    rw [e] at h
    exact (execs_step s1).trans ((execs_step s2).trans ((execs_step s3).trans (execs_ret (s := c_newest_s0) h)))
  obtain ⟨r', T, ex⟩ := ex
  refine callF_eq F.nws rfl (by decide) ex rfl ?_
  show freeze S (S ++ ([.dks ks vs, .lst (whysL ws es bk x), .lst (M.map Make.d)] ++ T)) (.tup [m.d, .ref (S.length + 1)]) = _
  exact freeze_two _ m.pur (D.purs_map _ (whyD_pur ws es bk x) _) rfl
end Rf


namespace Rf
open PySem L2 Cr


theorem forL_brq {α : Type} {emb : α → D} {w : Store → Bool} {body : D → Env → Store → RS} {I : Nat → Env → Store → Prop} {J : Env → Store → Prop} (hw : ∀ s r S, I s r S → w S = true) :
    ∀ (xs : List α) (i0 : Nat) (r : Env) (S : Store), (∀ i (h : i < xs.length) r S, I (i0 + i) r S → (∃ r' S', body (emb xs[i]) r S = .ok ((.nx, r'), S') ∧ I (i0 + i + 1) r' S') ∨ ∃ r' S', body (emb xs[i]) r S = .ok ((.bk, r'), S') ∧ J r' S') → I i0 r S →
      ∃ r' S', forL w body (xs.map emb) r S = .ok ((.nx, r'), S') ∧ (I (i0 + xs.length) r' S' ∨ J r' S')
  | [], i0, r, S, h, i => ⟨r, S, by rw [List.map_nil, forL, if_pos (hw _ r S i)], .inl i⟩
  | x :: xs, i0, r, S, h, i => by
    rcases h 0 (by simp) r S i with ⟨r', S', hb, i'⟩ | ⟨r', S', hb, j⟩
    · obtain ⟨r2, S2, h2, k⟩ := forL_brq hw xs (i0 + 1) r' S' (fun j hj r S hi => by
        have := h (j + 1) (by simp; omega) r S (by rw [show i0 + (j + 1) = i0 + 1 + j by omega]; exact hi)
        rw [show i0 + (j + 1) = i0 + 1 + j by omega] at this
        exact this) i'
      refine ⟨r2, S2, ?_, ?_⟩
      · rw [List.map_cons, forL, if_pos (hw _ r S i)]
        simp only [List.getElem_cons_zero] at hb
        rw [hb]; exact h2
      · rw [List.length_cons, show i0 + (xs.length + 1) = i0 + 1 + xs.length by omega]; exact k
    · refine ⟨r', S', ?_, .inr j⟩
      rw [List.map_cons, forL, if_pos (hw _ r S i)]
      simp only [List.getElem_cons_zero] at hb
      rw [hb]; rfl
theorem exec_for_brq {c : Cfg} {tg : CT} {it : CI} {b : CSs} {r : Env} {S : Store} {α : Type} (xs : List α) (emb : α → D) {w : Store → Bool} (I : Nat → Env → Store → Prop) (J : Env → Store → Prop)
    (hi : evalI c it r S = .ok ((xs.map emb, w), S)) (hw : ∀ s r S, I s r S → w S = true)
    (step : ∀ i (h : i < xs.length) r S, I i r S → ∃ r1, bindT tg (emb xs[i]) r = some r1 ∧ ((∃ r' S', execs c b r1 S = .ok ((.nx, r'), S') ∧ I (i + 1) r' S') ∨ ∃ r' S', execs c b r1 S = .ok ((.bk, r'), S') ∧ J r' S')) (init : I 0 r S) :
    ∃ r' S', execS c (.for_ tg it b) r S = .ok ((.nx, r'), S') ∧ (I xs.length r' S' ∨ J r' S') := by
  rw [execS, hi, bd_k]
  have := forL_brq (I := I) (J := J) hw xs 0 r S (body := fun x r S2 => match bindT tg x r with
      | some r' => execs c b r' S2
      | none => .bad) (emb := emb) (fun i h r S hi => by
    rw [Nat.zero_add] at hi ⊢
    obtain ⟨r1, e1, h1⟩ := step i h r S hi
    rw [e1]
    exact h1) init
  simp only [Nat.zero_add] at this
  exact this
theorem whileN_meas {test : Env → Store → Res (Bool × Store)} {body : Env → Store → RS} {I : Nat → Env → Store → Prop} {J : Env → Store → Prop}
    (step : ∀ μ r S, I μ r S → (test r S = .ok (false, S) ∧ J r S) ∨ (test r S = .ok (true, S) ∧ ∃ r' S' μ', μ' < μ ∧ body r S = .ok ((.nx, r'), S') ∧ I μ' r' S')) : ∀ (k μ : Nat) (r : Env) (S : Store), μ < k → I μ r S → ∃ r' S', whileN test body k r S = .ok ((.nx, r'), S') ∧ J r' S'
  | 0, μ, r, S, h, _ => by omega
  | k + 1, μ, r, S, h, i => by
    rw [whileN]
    rcases step μ r S i with ⟨e, j⟩ | ⟨e, r', S', μ', hl, hb, i'⟩
    · exact ⟨r, S, by rw [e, bd_k, if_neg (by decide)], j⟩
    · obtain ⟨r2, S2, h2, j⟩ := whileN_meas step k μ' r' S' (by omega) i'
      refine ⟨r2, S2, ?_, j⟩
      rw [e, bd_k, if_pos rfl, hb, bd_k]
      exact h2
theorem exec_while_m {c : Cfg} {k : Nat} {t : CE} {b : CSs} {r : Env} {S : Store} {I : Nat → Env → Store → Prop} {J : Env → Store → Prop} (μ : Nat) (hμ : μ < k)
    (step : ∀ μ r S, I μ r S → (evalT c t r S = .ok (false, S) ∧ J r S) ∨ (evalT c t r S = .ok (true, S) ∧ ∃ r' S' μ', μ' < μ ∧ execs c b r S = .ok ((.nx, r'), S') ∧ I μ' r' S')) (h : I μ r S) : ∃ r' S', execS c (.while_ k t b) r S = .ok ((.nx, r'), S') ∧ J r' S' := by
  rw [execS]
  exact whileN_meas step k μ r S hμ h


structure Sd (ws : List Nd) (es : List En) (bk : List Bk) : Prop where
  N : NwOk ws es bk
  snd : brkL ws es bk = []
theorem newM_some {ws : List Nd} {es : List En} {bk : List Bk} (Q : Sd ws es bk) {b : Bk} (hb : b ∈ bk) : ∃ m, newM ws es bk b.1 = some m ∧ m ∈ mkS es b.1 ∧ Sd ws es (withB bk b.1 m) ∧ m.lt b.2 = false := by
  obtain ⟨e, he, e1, e2⟩ := Q.N.mem b hb
  have bm : b.2 ∈ mkS es b.1 := mkS_mem.mpr ⟨e, he, e1, e2⟩
  have bo : okM ws es bk b.1 b.2 = true := by
    unfold okM
    rw [withB_self Q.N.nd hb]
    exact decide_eq_true Q.snd
  have bd := descM_mem.mpr bm
  cases h : newM ws es bk b.1 with
  | none =>
    have := List.find?_eq_none.mp h b.2 bd
    exact absurd bo this
  | some m =>
    obtain ⟨hp, hA, B, hB⟩ := find_split h
    have mm : m ∈ mkS es b.1 := descM_mem.mp (by rw [hB]; simp)
    refine ⟨m, rfl, mm, ⟨Q.N.with mm, of_decide_eq_true hp⟩, ?_⟩
    have pw := descM_srt (mkS es b.1)
    rw [hB] at pw bd
    rcases List.mem_append.mp bd with q | q
    · rw [hA _ q] at bo; cases bo
    · rcases List.mem_cons.mp q with q | q
      · rw [q, Make.irr]
      · have := (List.pairwise_cons.mp (List.pairwise_append.mp pw).2.1).1 _ q
        exact this
def newB (ws : List Nd) (es : List En) (bk : List Bk) (b : Bk) : Make := (newM ws es bk b.1).getD b.2
theorem newB_ok {ws : List Nd} {es : List En} {bk : List Bk} (Q : Sd ws es bk) {b : Bk} (hb : b ∈ bk) : newM ws es bk b.1 = some (newB ws es bk b) ∧ Sd ws es (withB bk b.1 (newB ws es bk b)) ∧ (newB ws es bk b).lt b.2 = false ∧ newB ws es bk b ∈ mkS es b.1 := by
  obtain ⟨m, h, h1, h2, h3⟩ := newM_some Q hb
  have e : newB ws es bk b = m := by unfold newB; rw [h]; rfl
  rw [e]
  exact ⟨h, h2, h3, h1⟩
def stpB (ws : List Nd) (es : List En) (bk : List Bk) : List Bk := match bk.find? fun b => !decide (newB ws es bk b = b.2) with
  | none => bk
  | some b => withB bk b.1 (newB ws es bk b)
theorem stpB_sd {ws : List Nd} {es : List En} {bk : List Bk} (Q : Sd ws es bk) : Sd ws es (stpB ws es bk) := by
  unfold stpB
  split
  · exact Q
  · rename_i b h
    exact (newB_ok Q (List.mem_of_find?_eq_some h)).2.1
theorem stpB_len (ws : List Nd) (es : List En) (bk : List Bk) : (stpB ws es bk).length = bk.length := by
  unfold stpB
  split
  · rfl
  · exact withB_len _ _ _


def rk (es : List En) (b : Bk) : Nat := (mkS es b.1).countP fun m => b.2.lt m
def rkS (es : List En) (bk : List Bk) : Nat := (bk.map (rk es)).sum
theorem countP_lt {α : Type} {p q : α → Bool} : ∀ {l : List α}, (∀ x ∈ l, p x = true → q x = true) → (∃ x ∈ l, q x = true ∧ p x = false) → l.countP p < l.countP q
  | [], _, ⟨_, h, _⟩ => by cases h
  | y :: l, h, ⟨x, hx, h1, h2⟩ => by
    rw [List.countP_cons, List.countP_cons]
    have le : l.countP p ≤ l.countP q := List.countP_mono_left fun z hz => h z (by simp [hz])
    rcases List.mem_cons.mp hx with e | hx
    · subst e
      rw [h1, h2]
      simp; omega
    · have ih := countP_lt (fun z hz => h z (by simp [hz])) ⟨x, hx, h1, h2⟩
      have := h y (by simp)
      cases k : p y with
      | false => simp; omega
      | true => rw [this k]; simp; omega
theorem sum_lt {α : Type} {f g : α → Nat} : ∀ {l : List α}, (∀ x ∈ l, f x ≤ g x) → (∃ x ∈ l, f x < g x) → (l.map f).sum < (l.map g).sum
  | [], _, ⟨_, h, _⟩ => by cases h
  | y :: l, h, ⟨x, hx, hl⟩ => by
    rw [List.map_cons, List.sum_cons, List.map_cons, List.sum_cons]
    have h1 := h y (by simp)
    have le : ∀ l : List α, (∀ x ∈ l, f x ≤ g x) → (l.map f).sum ≤ (l.map g).sum := fun l => by
      induction l with
      | nil => intro _; exact Nat.le_refl _
      | cons z l ih =>
        intro h
        rw [List.map_cons, List.sum_cons, List.map_cons, List.sum_cons]
        have := h z (by simp)
        have := ih fun x hx => h x (by simp [hx])
        omega
    rcases List.mem_cons.mp hx with e | hx
    · subst e
      have := le l fun z hz => h z (by simp [hz])
      omega
    · have := sum_lt (fun z hz => h z (by simp [hz])) ⟨x, hx, hl⟩
      omega
theorem rk_with {ws : List Nd} {es : List En} {bk : List Bk} (Q : Sd ws es bk) {b : Bk} (hb : b ∈ bk) (ne : newB ws es bk b ≠ b.2) : rkS es (withB bk b.1 (newB ws es bk b)) < rkS es bk := by
  obtain ⟨h1, h2, h3, h4⟩ := newB_ok Q hb
  have lt : b.2.lt (newB ws es bk b) = true := by
    rcases Make.total ne with q | q
    · rw [h3] at q; cases q
    · exact q
  have one : rk es (b.1, newB ws es bk b) < rk es b := countP_lt (fun x _ hx => Make.trans lt hx) ⟨_, h4, lt, Make.irr _⟩
  unfold rkS withB
  rw [List.map_map]
  refine sum_lt (fun c hc => ?_) ⟨b, hb, ?_⟩
  · show rk es (c.1, if c.1 = b.1 then newB ws es bk b else c.2) ≤ rk es c
    by_cases q : c.1 = b.1
    · rw [bk_inj Q.N.nd hc hb q, if_pos rfl]
      exact Nat.le_of_lt one
    · rw [if_neg q]; exact Nat.le_refl _
  · show rk es (b.1, if b.1 = b.1 then newB ws es bk b else b.2) < rk es b
    rw [if_pos rfl]; exact one
theorem rkS_le {es : List En} : ∀ {bk : List Bk}, (bk.map (·.1)).Nodup → rkS es bk ≤ es.length := by
  intro bk nd
  have h1 : rkS es bk ≤ (bk.map fun b => (es.filter fun e => decide (e.x = b.1)).length).sum := by
    unfold rkS
    clear nd
    induction bk with
    | nil => exact Nat.le_refl _
    | cons b l ih =>
      rw [List.map_cons, List.sum_cons, List.map_cons, List.sum_cons]
      have : rk es b ≤ (es.filter fun e => decide (e.x = b.1)).length := by
        unfold rk
        refine Nat.le_trans List.countP_le_length ?_
        unfold mkS; rw [List.length_map]; exact Nat.le_refl _
      omega
  refine Nat.le_trans h1 ?_
  clear h1
  induction es with
  | nil =>
    have : ∀ l : List Bk, (l.map fun b => (([] : List En).filter fun e => decide (e.x = b.1)).length).sum = 0 := fun l => by
      induction l with
      | nil => rfl
      | cons b l ih => rw [List.map_cons, List.sum_cons, ih]; rfl
    rw [this]; exact Nat.le_refl _
  | cons e es ih =>
    have one : ∀ l : List Bk, (l.map (·.1)).Nodup → (l.map fun b => ((e :: es).filter fun e => decide (e.x = b.1)).length).sum ≤ (l.map fun b => (es.filter fun e => decide (e.x = b.1)).length).sum + (if e.x ∈ l.map (·.1) then 1 else 0) := fun l => by
      induction l with
      | nil => intro _; simp
      | cons b l ih =>
        intro nd
        rw [List.map_cons, List.nodup_cons] at nd
        have ih := ih nd.2
        rw [List.map_cons, List.sum_cons, List.map_cons, List.sum_cons, List.filter_cons, List.map_cons]
        by_cases q : e.x = b.1
        · have nq : ¬ e.x ∈ l.map (·.1) := fun h => nd.1 (q ▸ h)
          rw [if_neg nq] at ih
          rw [if_pos (by simp [q]), if_pos (by simp [q])]
          rw [List.length_cons]; omega
        · rw [if_neg (by simp [q])]
          by_cases k : e.x ∈ l.map (·.1)
          · rw [if_pos k] at ih
            rw [if_pos (List.mem_cons_of_mem _ k)]; omega
          · rw [if_neg k] at ih
            rw [if_neg (by rw [List.mem_cons]; exact fun h => h.elim q k)]; omega
    have := one bk nd
    rw [List.length_cons]
    have : (if e.x ∈ bk.map (·.1) then 1 else 0) ≤ 1 := by split <;> omega
    omega


def itB (ws : List Nd) (es : List En) : Nat → List Bk → List Bk
  | 0, bk => bk
  | k + 1, bk => itB ws es k (stpB ws es bk)
theorem itB_add (ws : List Nd) (es : List En) : ∀ (i j : Nat) (bk : List Bk), itB ws es (i + j) bk = itB ws es j (itB ws es i bk)
  | 0, j, bk => by rw [Nat.zero_add]; rfl
  | i + 1, j, bk => by rw [Nat.add_right_comm]; exact itB_add ws es i j (stpB ws es bk)
theorem itB_fix {ws : List Nd} {es : List En} {bk : List Bk} (h : stpB ws es bk = bk) : ∀ k, itB ws es k bk = bk
  | 0 => rfl
  | k + 1 => by rw [itB, h]; exact itB_fix h k
theorem itB_succ (ws : List Nd) (es : List En) (k : Nat) (bk : List Bk) : itB ws es (k + 1) bk = stpB ws es (itB ws es k bk) := itB_add ws es k 1 bk
theorem itB_sd {ws : List Nd} {es : List En} : ∀ (k : Nat) {bk : List Bk}, Sd ws es bk → Sd ws es (itB ws es k bk)
  | 0, _, h => h
  | k + 1, _, h => itB_sd k (stpB_sd h)
theorem itB_len (ws : List Nd) (es : List En) : ∀ (k : Nat) (bk : List Bk), (itB ws es k bk).length = bk.length
  | 0, _ => rfl
  | k + 1, bk => by rw [itB, itB_len ws es k, stpB_len]
theorem step_rk {ws : List Nd} {es : List En} {bk : List Bk} (Q : Sd ws es bk) : stpB ws es bk = bk ∨ rkS es (stpB ws es bk) < rkS es bk := by
  cases h : bk.find? fun b => !decide (newB ws es bk b = b.2) with
  | none => left; unfold stpB; rw [h]
  | some b =>
    right
    have e : stpB ws es bk = withB bk b.1 (newB ws es bk b) := by unfold stpB; rw [h]
    rw [e]
    have := List.find?_some h
    exact rk_with Q (List.mem_of_find?_eq_some h) (by simpa using this)
theorem itB_end {ws : List Nd} {es : List En} : ∀ (k : Nat) {bk : List Bk}, Sd ws es bk → rkS es bk ≤ k → stpB ws es (itB ws es k bk) = itB ws es k bk
  | 0, bk, Q, h => by
    rcases step_rk Q with q | q
    · exact q
    · omega
  | k + 1, bk, Q, h => by
    rcases step_rk Q with q | q
    · rw [itB_fix q]; exact q
    · exact itB_end k (stpB_sd Q) (by omega)
def liftL (ws : List Nd) (es : List En) (bk : List Bk) : List Bk := itB ws es 41 bk
theorem lift_fix {ws : List Nd} {es : List En} {bk : List Bk} (Q : Sd ws es bk) : stpB ws es (liftL ws es bk) = liftL ws es bk := itB_end 41 Q (Nat.le_trans (rkS_le Q.N.nd) (by have := Q.N.el; omega))
theorem lift_of {ws : List Nd} {es : List En} {bk : List Bk} (Q : Sd ws es bk) {j : Nat} (h : stpB ws es (itB ws es j bk) = itB ws es j bk) : itB ws es j bk = liftL ws es bk := by
  rcases Nat.le_total j 41 with q | q
  · have := itB_add ws es j (41 - j) bk
    rw [show j + (41 - j) = 41 by omega, itB_fix h] at this
    exact this.symm
  · have := itB_add ws es 41 (j - 41) bk
    rw [show 41 + (j - 41) = j by omega, itB_fix (show stpB ws es (itB ws es 41 bk) = itB ws es 41 bk from lift_fix Q)] at this
    exact this


structure FLf (G : Gam) : Prop where
  nw : FNw G
  lft : List.lookup (Str.ofString "lifted") G.fns = some c_lifted
theorem lifted_ok {G : Gam} (F : FLf G) {ws : List Nd} {es : List En} {bk : List Bk} (Q : Sd ws es bk) (n : Nat) (S : Store) :
    callF G (n + 9) "lifted" [.tup (es.map En.d), .tup (ws.map Nd.d), .tup (bk.map bkD)] S = .ok (.tup ((liftL ws es bk).map bkD), S) := by
  refine callF_pur0 F.lft rfl (by decide) (by rw [D.pur, D.purs_map _ bkD_pur]) ?_
  have bl := Q.N.B.bl
  have el := Q.N.el
  have rl := rkS_le (es := es) Q.N.nd
  show ∃ r', execs (G.cfg (n + 8)) c_lifted.body [some (.tup (es.map En.d)), some (.tup (ws.map Nd.d)), some (.tup (bk.map bkD)), none, none, none, none] S = _
  refine ret_step (r1 := [some (.tup (es.map En.d)), some (.tup (ws.map Nd.d)), some (.tup (bk.map bkD)), some (.int 0), none, none, none]) (S1 := S) (by simp only [Rf.execs, Rf.execS, evalE, evalEs, evalO, evalT, evalL, evalC, evalI, bd_k, of_some, startE, bindT, wipeT, List.map_cons, List.map_nil, List.length_cons, List.length_nil, List.replicate, List.cons_append, List.nil_append, List.getElem?_cons_zero, List.getElem?_cons_succ, List.set_cons_zero, List.set_cons_succ, Option.map_some, Option.map_none, Option.bind_some, Option.bind_none, cmp_eq_int, cmp_ne_int, cmp_eq_str, cmp_ne_str, cmp_eq_bl, cmp_ne_bl, cmp_lt_int, cmp_le_int, cmp_gt_int, cmp_ge_int, cmp_is_non, cmp_is_int, cmp_is_tup, cmp_isn_non, cmp_isn_int, cmp_isn_tup, cmp_is_bl, cmp_isn_bl, cmp_in_str, isi_bl, isi_int, isi_str, isi_tup, isi_lst, isi_non, truth_bl, len_tup, len_lst, len_fro, idx_tup, idx_lst, idx_fro, isStr, seqI_str, seqI_tup, seqI_lst, decide_true, decide_false, if_true, if_false, ↓reduceIte, eq_self, Bool.false_eq_true, Bool.true_or, Bool.or_true, Bool.false_or, Bool.or_false, Bool.true_and, Bool.and_true, Bool.false_and, Bool.and_false, Bool.not_true, Bool.not_false, reduceCtorEq, and_self, and_true, true_and, ite_self, size16, Nat.reduceAdd, Nat.reduceLeDiff, Nat.zero_le]) ?_
  obtain ⟨r', S', h, rfl, v3, v4, v5, v6, rfl⟩ := exec_while_m (c := G.cfg (n + 8)) (k := 100000) (t := .cmp .Lt (.var 3) (.bi .len (.cons (.var 2) .nil))) (b := c_lifted_b0) (r := [some (.tup (es.map En.d)), some (.tup (ws.map Nd.d)), some (.tup (bk.map bkD)), some (.int 0), none, none, none]) (S := S)
    (I := fun μ r' S' => S' = S ∧ ∃ (j a : Nat) (b2 : List Bk) (v4 v5 v6 : Option D), b2 = itB ws es j bk ∧ a ≤ b2.length ∧ (∀ i (h : i < b2.length), i < a → newB ws es b2 b2[i] = b2[i].2) ∧ μ = rkS es b2 * 200 + (b2.length - a) ∧
      r' = [some (.tup (es.map En.d)), some (.tup (ws.map Nd.d)), some (.tup (b2.map bkD)), some (.int (a : Int)), v4, v5, v6])
    (J := fun r' S' => S' = S ∧ ∃ v3 v4 v5 v6, r' = [some (.tup (es.map En.d)), some (.tup (ws.map Nd.d)), some (.tup ((liftL ws es bk).map bkD)), v3, v4, v5, v6])
    (rkS es bk * 200 + bk.length) (by omega) (fun μ r' S' hI => by
      obtain ⟨rfl, j, a, b2, v4, v5, v6, hb2, ha, hd, rfl, rfl⟩ := hI
      have D' : Sd ws es b2 := by rw [hb2]; exact itB_sd j Q
      have ln : b2.length = bk.length := by rw [hb2]; exact itB_len ws es j bk
      have e1 : itB ws es (j + 1) bk = stpB ws es b2 := by rw [hb2]; exact itB_succ ws es j bk
      have fixj : stpB ws es b2 = b2 → b2 = liftL ws es bk := fun h => by
        rw [hb2] at h ⊢
        exact lift_of Q h
      by_cases q : a = b2.length
      · left
        have lt : decide ((a : Int) < ((b2.map bkD).length : Int)) = false := decide_eq_false (by rw [List.length_map]; omega)
        refine ⟨by simp only [Rf.execs, Rf.execS, evalE, evalEs, evalO, evalT, evalL, evalC, evalI, bd_k, of_some, startE, bindT, wipeT, List.map_cons, List.map_nil, List.length_cons, List.length_nil, List.replicate, List.cons_append, List.nil_append, List.getElem?_cons_zero, List.getElem?_cons_succ, List.set_cons_zero, List.set_cons_succ, Option.map_some, Option.map_none, Option.bind_some, Option.bind_none, cmp_eq_int, cmp_ne_int, cmp_eq_str, cmp_ne_str, cmp_eq_bl, cmp_ne_bl, cmp_lt_int, cmp_le_int, cmp_gt_int, cmp_ge_int, cmp_is_non, cmp_is_int, cmp_is_tup, cmp_isn_non, cmp_isn_int, cmp_isn_tup, cmp_is_bl, cmp_isn_bl, cmp_in_str, isi_bl, isi_int, isi_str, isi_tup, isi_lst, isi_non, truth_bl, len_tup, len_lst, len_fro, idx_tup, idx_lst, idx_fro, isStr, seqI_str, seqI_tup, seqI_lst, decide_true, decide_false, if_true, if_false, ↓reduceIte, eq_self, Bool.false_eq_true, Bool.true_or, Bool.or_true, Bool.false_or, Bool.or_false, Bool.true_and, Bool.and_true, Bool.false_and, Bool.and_false, Bool.not_true, Bool.not_false, reduceCtorEq, and_self, and_true, true_and, ite_self, size16, Nat.reduceAdd, Nat.reduceLeDiff, Nat.zero_le, lt], rfl, _, v4, v5, v6, by
          have fx : stpB ws es b2 = b2 := by
            unfold stpB
            have : b2.find? (fun b => !decide (newB ws es b2 b = b.2)) = none := List.find?_eq_none.mpr fun b hb => by
              obtain ⟨i, hi, rfl⟩ := List.mem_iff_getElem.mp hb
              simp [hd i hi (by omega)]
            rw [this]
          rw [← fixj fx]⟩
      · right
        have al : a < b2.length := by omega
        have lt : decide ((a : Int) < ((b2.map bkD).length : Int)) = true := decide_eq_true (by rw [List.length_map]; omega)
        have hb : b2[a] ∈ b2 := List.getElem_mem al
        obtain ⟨m1, m2, m3, m4⟩ := newB_ok D' hb
        have ix : atI (b2.map bkD) (a : Int) = some (bkD b2[a]) := by
          rw [atI_map, atI_int (by omega) (by omega), Int.toNat_natCast, List.getElem?_eq_getElem al]; rfl
        have hx : b2[a].1 ∈ b2.map (·.1) := List.mem_map.mpr ⟨_, hb, rfl⟩
        have nw := cfg_ok (newest_ok F.nw D'.N hx m1 n S')
        have i0 : ∀ W, idxD S' (.tup [(newB ws es b2 b2[a]).d, W]) (.int 0) = some (newB ws es b2 b2[a]).d := fun W => rfl
        have eq := Make.eq_ok S' (newB ws es b2 b2[a]) b2[a].2
        have wm := cfg_ok (with_make_ok F.nw.wth b2 (by omega) b2[a].1 (newB ws es b2 b2[a]) (n + 7) S')
        have fd : (∀ i (h : i < b2.length), i < a → newB ws es b2 b2[i] = b2[i].2) → newB ws es b2 b2[a] ≠ b2[a].2 → stpB ws es b2 = withB b2 b2[a].1 (newB ws es b2 b2[a]) := fun hd ne => by
          have : b2.find? (fun b => !decide (newB ws es b2 b = b.2)) = some b2[a] := List.find?_eq_some_iff_getElem.mpr ⟨by simpa using ne, a, al, rfl, fun j hj => by simp [hd j (by omega) hj]⟩
          unfold stpB
          rw [this]
        have dc := rk_with D' hb
        have en : ∀ v4 v5 v6, execS (G.cfg (n + 8)) (.asgt [4, 5] (.idx (.var 2) (.var 3))) [some (.tup (es.map En.d)), some (.tup (ws.map Nd.d)), some (.tup (b2.map bkD)), some (.int (a : Int)), v4, v5, v6] S' = .ok ((.nx, [some (.tup (es.map En.d)), some (.tup (ws.map Nd.d)), some (.tup (b2.map bkD)), some (.int (a : Int)), some (.str b2[a].1), some b2[a].2.d, v6]), S') := fun v4 v5 v6 => by
          simp only [Rf.execs, Rf.execS, evalE, evalEs, evalO, evalT, evalL, evalC, evalI, bd_k, of_some, startE, bindT, wipeT, List.map_cons, List.map_nil, List.length_cons, List.length_nil, List.replicate, List.cons_append, List.nil_append, List.getElem?_cons_zero, List.getElem?_cons_succ, List.set_cons_zero, List.set_cons_succ, Option.map_some, Option.map_none, Option.bind_some, Option.bind_none, cmp_eq_int, cmp_ne_int, cmp_eq_str, cmp_ne_str, cmp_eq_bl, cmp_ne_bl, cmp_lt_int, cmp_le_int, cmp_gt_int, cmp_ge_int, cmp_is_non, cmp_is_int, cmp_is_tup, cmp_isn_non, cmp_isn_int, cmp_isn_tup, cmp_is_bl, cmp_isn_bl, cmp_in_str, isi_bl, isi_int, isi_str, isi_tup, isi_lst, isi_non, truth_bl, len_tup, len_lst, len_fro, idx_tup, idx_lst, idx_fro, isStr, seqI_str, seqI_tup, seqI_lst, decide_true, decide_false, if_true, if_false, ↓reduceIte, eq_self, Bool.false_eq_true, Bool.true_or, Bool.or_true, Bool.false_or, Bool.or_false, Bool.true_and, Bool.and_true, Bool.false_and, Bool.and_false, Bool.not_true, Bool.not_false, reduceCtorEq, and_self, and_true, true_and, ite_self, size16, Nat.reduceAdd, Nat.reduceLeDiff, Nat.zero_le, ix]; rfl
        have s6 : execS (G.cfg (n + 8)) (.asg 6 (.idx (.call "newest" (.cons (.var 0) (.cons (.var 1) (.cons (.var 2) (.cons (.var 4) .nil))))) (.int 0))) [some (.tup (es.map En.d)), some (.tup (ws.map Nd.d)), some (.tup (b2.map bkD)), some (.int (a : Int)), some (.str b2[a].1), some b2[a].2.d, v6] S' = .ok ((.nx, [some (.tup (es.map En.d)), some (.tup (ws.map Nd.d)), some (.tup (b2.map bkD)), some (.int (a : Int)), some (.str b2[a].1), some b2[a].2.d, some (newB ws es b2 b2[a]).d]), S') := by
          simp only [Rf.execs, Rf.execS, evalE, evalEs, evalO, evalT, evalL, evalC, evalI, bd_k, of_some, startE, bindT, wipeT, List.map_cons, List.map_nil, List.length_cons, List.length_nil, List.replicate, List.cons_append, List.nil_append, List.getElem?_cons_zero, List.getElem?_cons_succ, List.set_cons_zero, List.set_cons_succ, Option.map_some, Option.map_none, Option.bind_some, Option.bind_none, cmp_eq_int, cmp_ne_int, cmp_eq_str, cmp_ne_str, cmp_eq_bl, cmp_ne_bl, cmp_lt_int, cmp_le_int, cmp_gt_int, cmp_ge_int, cmp_is_non, cmp_is_int, cmp_is_tup, cmp_isn_non, cmp_isn_int, cmp_isn_tup, cmp_is_bl, cmp_isn_bl, cmp_in_str, isi_bl, isi_int, isi_str, isi_tup, isi_lst, isi_non, truth_bl, len_tup, len_lst, len_fro, idx_tup, idx_lst, idx_fro, isStr, seqI_str, seqI_tup, seqI_lst, decide_true, decide_false, if_true, if_false, ↓reduceIte, eq_self, Bool.false_eq_true, Bool.true_or, Bool.or_true, Bool.false_or, Bool.or_false, Bool.true_and, Bool.and_true, Bool.false_and, Bool.and_false, Bool.not_true, Bool.not_false, reduceCtorEq, and_self, and_true, true_and, ite_self, size16, Nat.reduceAdd, Nat.reduceLeDiff, Nat.zero_le, nw, i0]; try rfl
        refine ⟨by simp only [Rf.execs, Rf.execS, evalE, evalEs, evalO, evalT, evalL, evalC, evalI, bd_k, of_some, startE, bindT, wipeT, List.map_cons, List.map_nil, List.length_cons, List.length_nil, List.replicate, List.cons_append, List.nil_append, List.getElem?_cons_zero, List.getElem?_cons_succ, List.set_cons_zero, List.set_cons_succ, Option.map_some, Option.map_none, Option.bind_some, Option.bind_none, cmp_eq_int, cmp_ne_int, cmp_eq_str, cmp_ne_str, cmp_eq_bl, cmp_ne_bl, cmp_lt_int, cmp_le_int, cmp_gt_int, cmp_ge_int, cmp_is_non, cmp_is_int, cmp_is_tup, cmp_isn_non, cmp_isn_int, cmp_isn_tup, cmp_is_bl, cmp_isn_bl, cmp_in_str, isi_bl, isi_int, isi_str, isi_tup, isi_lst, isi_non, truth_bl, len_tup, len_lst, len_fro, idx_tup, idx_lst, idx_fro, isStr, seqI_str, seqI_tup, seqI_lst, decide_true, decide_false, if_true, if_false, ↓reduceIte, eq_self, Bool.false_eq_true, Bool.true_or, Bool.or_true, Bool.false_or, Bool.or_false, Bool.true_and, Bool.and_true, Bool.false_and, Bool.and_false, Bool.not_true, Bool.not_false, reduceCtorEq, and_self, and_true, true_and, ite_self, size16, Nat.reduceAdd, Nat.reduceLeDiff, Nat.zero_le, lt], ?_⟩
        by_cases k : newB ws es b2 b2[a] = b2[a].2
        · refine ⟨[some (.tup (es.map En.d)), some (.tup (ws.map Nd.d)), some (.tup (b2.map bkD)), some (.int ((a + 1 : Nat) : Int)), some (.str b2[a].1), some b2[a].2.d, some (newB ws es b2 b2[a]).d], S', rkS es b2 * 200 + (b2.length - (a + 1)), by omega, ?_, rfl, j, a + 1, b2, _, _, _, hb2, by omega, fun i h hi => ?_, rfl, rfl⟩
          · rw [decide_eq_true k] at eq
            refine (execs_step (en _ _ _)).trans ((execs_step s6).trans ?_)
            simp only [Rf.execs, Rf.execS, evalE, evalEs, evalO, evalT, evalL, evalC, evalI, bd_k, of_some, startE, bindT, wipeT, List.map_cons, List.map_nil, List.length_cons, List.length_nil, List.replicate, List.cons_append, List.nil_append, List.getElem?_cons_zero, List.getElem?_cons_succ, List.set_cons_zero, List.set_cons_succ, Option.map_some, Option.map_none, Option.bind_some, Option.bind_none, cmp_eq_int, cmp_ne_int, cmp_eq_str, cmp_ne_str, cmp_eq_bl, cmp_ne_bl, cmp_lt_int, cmp_le_int, cmp_gt_int, cmp_ge_int, cmp_is_non, cmp_is_int, cmp_is_tup, cmp_isn_non, cmp_isn_int, cmp_isn_tup, cmp_is_bl, cmp_isn_bl, cmp_in_str, isi_bl, isi_int, isi_str, isi_tup, isi_lst, isi_non, truth_bl, len_tup, len_lst, len_fro, idx_tup, idx_lst, idx_fro, isStr, seqI_str, seqI_tup, seqI_lst, decide_true, decide_false, if_true, if_false, ↓reduceIte, eq_self, Bool.false_eq_true, Bool.true_or, Bool.or_true, Bool.false_or, Bool.or_false, Bool.true_and, Bool.and_true, Bool.false_and, Bool.and_false, Bool.not_true, Bool.not_false, reduceCtorEq, and_self, and_true, true_and, ite_self, size16, Nat.reduceAdd, Nat.reduceLeDiff, Nat.zero_le, eq, add_int]; rfl
          · by_cases q2 : i = a
            · subst q2; exact k
            · exact hd i h (by omega)
        · have dc := dc k
          have fd := fd hd k
          have wl := withB_len b2 b2[a].1 (newB ws es b2 b2[a])
          refine ⟨[some (.tup (es.map En.d)), some (.tup (ws.map Nd.d)), some (.tup ((withB b2 b2[a].1 (newB ws es b2 b2[a])).map bkD)), some (.int ((0 : Nat) : Int)), some (.str b2[a].1), some b2[a].2.d, some (newB ws es b2 b2[a]).d], S', rkS es (withB b2 b2[a].1 (newB ws es b2 b2[a])) * 200 + ((withB b2 b2[a].1 (newB ws es b2 b2[a])).length - 0), by omega, ?_, rfl, j + 1, 0, _, _, _, _, by rw [e1, fd], Nat.zero_le _, fun i h hi => by omega, rfl, rfl⟩
          rw [decide_eq_false k] at eq
          refine (execs_step (en _ _ _)).trans ((execs_step s6).trans ?_)
          simp only [Rf.execs, Rf.execS, evalE, evalEs, evalO, evalT, evalL, evalC, evalI, bd_k, of_some, startE, bindT, wipeT, List.map_cons, List.map_nil, List.length_cons, List.length_nil, List.replicate, List.cons_append, List.nil_append, List.getElem?_cons_zero, List.getElem?_cons_succ, List.set_cons_zero, List.set_cons_succ, Option.map_some, Option.map_none, Option.bind_some, Option.bind_none, cmp_eq_int, cmp_ne_int, cmp_eq_str, cmp_ne_str, cmp_eq_bl, cmp_ne_bl, cmp_lt_int, cmp_le_int, cmp_gt_int, cmp_ge_int, cmp_is_non, cmp_is_int, cmp_is_tup, cmp_isn_non, cmp_isn_int, cmp_isn_tup, cmp_is_bl, cmp_isn_bl, cmp_in_str, isi_bl, isi_int, isi_str, isi_tup, isi_lst, isi_non, truth_bl, len_tup, len_lst, len_fro, idx_tup, idx_lst, idx_fro, isStr, seqI_str, seqI_tup, seqI_lst, decide_true, decide_false, if_true, if_false, ↓reduceIte, eq_self, Bool.false_eq_true, Bool.true_or, Bool.or_true, Bool.false_or, Bool.or_false, Bool.true_and, Bool.and_true, Bool.false_and, Bool.and_false, Bool.not_true, Bool.not_false, reduceCtorEq, and_self, and_true, true_and, ite_self, size16, Nat.reduceAdd, Nat.reduceLeDiff, Nat.zero_le, eq, wm]; rfl) ⟨rfl, 0, 0, bk, none, none, none, rfl, Nat.zero_le _, fun i h h2 => by omega, by omega, rfl⟩
  refine ret_step (s := c_lifted_s0) h ?_
  exact ⟨_, by simp only [Rf.execs, Rf.execS, evalE, evalEs, evalO, evalT, evalL, evalC, evalI, bd_k, of_some, startE, bindT, wipeT, List.map_cons, List.map_nil, List.length_cons, List.length_nil, List.replicate, List.cons_append, List.nil_append, List.getElem?_cons_zero, List.getElem?_cons_succ, List.set_cons_zero, List.set_cons_succ, Option.map_some, Option.map_none, Option.bind_some, Option.bind_none, cmp_eq_int, cmp_ne_int, cmp_eq_str, cmp_ne_str, cmp_eq_bl, cmp_ne_bl, cmp_lt_int, cmp_le_int, cmp_gt_int, cmp_ge_int, cmp_is_non, cmp_is_int, cmp_is_tup, cmp_isn_non, cmp_isn_int, cmp_isn_tup, cmp_is_bl, cmp_isn_bl, cmp_in_str, isi_bl, isi_int, isi_str, isi_tup, isi_lst, isi_non, truth_bl, len_tup, len_lst, len_fro, idx_tup, idx_lst, idx_fro, isStr, seqI_str, seqI_tup, seqI_lst, decide_true, decide_false, if_true, if_false, ↓reduceIte, eq_self, Bool.false_eq_true, Bool.true_or, Bool.or_true, Bool.false_or, Bool.or_false, Bool.true_and, Bool.and_true, Bool.false_and, Bool.and_false, Bool.not_true, Bool.not_false, reduceCtorEq, and_self, and_true, true_and, ite_self, size16, Nat.reduceAdd, Nat.reduceLeDiff, Nat.zero_le]; rfl⟩
end Rf


namespace Rf
open PySem L2 Cr
structure FLnw (G : Gam) : Prop where
  brk : FBrk G
  mks : List.lookup (Str.ofString "_law_makes") G.fns = some c__law_makes_v1
  wth : List.lookup (Str.ofString "_law_with") G.fns = some c__law_with
theorem rev_end (S : Store) (xs : List D) : mutD .reverse (S ++ [.lst xs]) (.ref S.length) [] = some (.non, S ++ [.lst xs.reverse]) := by
  have g : (S ++ [O.lst xs])[S.length]? = some (.lst xs) := by rw [List.getElem?_append_right (Nat.le_refl _), Nat.sub_self]; rfl
  show (match (S ++ [O.lst xs])[S.length]? with
    | some (.lst xs') => some (D.non, (S ++ [O.lst xs]).set S.length (.lst xs'.reverse))
    | _ => none) = _
  rw [g]
  show some (D.non, (S ++ [O.lst xs]).set S.length (.lst xs.reverse)) = _
  rw [List.set_append_right _ _ (Nat.le_refl _), Nat.sub_self]; rfl
theorem law_makes_d {G : Gam} (hk : List.lookup (Str.ofString "_law_key") G.fns = some c__law_key) (hf : List.lookup (Str.ofString "_law_makes") G.fns = some c__law_makes_v1) (es : List En) (hl : es.length ≤ 100) (hs : ∀ e ∈ es, e.m.sm) (x : Str) (n : Nat) (S : Store) :
    callF G (n + 2) "_law_makes" [.tup (es.map En.d), .str x] S = .ok (.lst ((descM (mkS es x)).map Make.d), S) := by
  have sm : ∀ m ∈ mkS es x, m.sm := fun m hm => by
    obtain ⟨e, he, rfl⟩ := List.mem_map.mp hm
    exact hs e ((List.mem_filter.mp he).1)
  have l1 : evalL (G.cfg (n + 1)) c__law_makes_v1_l0 [some (.tup (es.map En.d)), some (.str x), none, none] S = .ok ((mkS es x).map Make.d, S) := by
    have e : (mkS es x).map Make.d = (es.filter fun e => decide (e.x = x)).map fun e => e.m.d := by unfold mkS; rw [List.map_map]; rfl
    rw [e]
    exact eval_compF es En.d _ _ (by simp only [Rf.execs, Rf.execS, evalE, evalEs, evalO, evalT, evalL, evalC, evalI, bd_k, of_some, startE, bindT, wipeT, List.map_cons, List.map_nil, List.length_cons, List.length_nil, List.replicate, List.cons_append, List.nil_append, List.getElem?_cons_zero, List.getElem?_cons_succ, List.set_cons_zero, List.set_cons_succ, Option.map_some, Option.map_none, Option.bind_some, Option.bind_none, cmp_eq_int, cmp_ne_int, cmp_eq_str, cmp_ne_str, cmp_eq_bl, cmp_ne_bl, cmp_lt_int, cmp_le_int, cmp_gt_int, cmp_ge_int, cmp_is_non, cmp_is_int, cmp_is_tup, cmp_isn_non, cmp_isn_int, cmp_isn_tup, cmp_is_bl, cmp_isn_bl, cmp_in_str, isi_bl, isi_int, isi_str, isi_tup, isi_lst, isi_non, truth_bl, len_tup, len_lst, len_fro, idx_tup, idx_lst, idx_fro, isStr, seqI_str, seqI_tup, seqI_lst, decide_true, decide_false, if_true, if_false, ↓reduceIte, eq_self, Bool.false_eq_true, Bool.true_or, Bool.or_true, Bool.false_or, Bool.or_false, Bool.true_and, Bool.and_true, Bool.false_and, Bool.and_false, Bool.not_true, Bool.not_false, reduceCtorEq, and_self, and_true, true_and, ite_self, size16, Nat.reduceAdd, Nat.reduceLeDiff, Nat.zero_le]) (by rw [size16]; omega) fun o ho => ⟨_, rfl, by simp only [Rf.execs, Rf.execS, evalE, evalEs, evalO, evalT, evalL, evalC, evalI, bd_k, of_some, startE, bindT, wipeT, List.map_cons, List.map_nil, List.length_cons, List.length_nil, List.replicate, List.cons_append, List.nil_append, List.getElem?_cons_zero, List.getElem?_cons_succ, List.set_cons_zero, List.set_cons_succ, Option.map_some, Option.map_none, Option.bind_some, Option.bind_none, cmp_eq_int, cmp_ne_int, cmp_eq_str, cmp_ne_str, cmp_eq_bl, cmp_ne_bl, cmp_lt_int, cmp_le_int, cmp_gt_int, cmp_ge_int, cmp_is_non, cmp_is_int, cmp_is_tup, cmp_isn_non, cmp_isn_int, cmp_isn_tup, cmp_is_bl, cmp_isn_bl, cmp_in_str, isi_bl, isi_int, isi_str, isi_tup, isi_lst, isi_non, truth_bl, len_tup, len_lst, len_fro, idx_tup, idx_lst, idx_fro, isStr, seqI_str, seqI_tup, seqI_lst, decide_true, decide_false, if_true, if_false, ↓reduceIte, eq_self, Bool.false_eq_true, Bool.true_or, Bool.or_true, Bool.false_or, Bool.or_false, Bool.true_and, Bool.and_true, Bool.false_and, Bool.and_false, Bool.not_true, Bool.not_false, reduceCtorEq, and_self, and_true, true_and, ite_self, size16, Nat.reduceAdd, Nat.reduceLeDiff, Nat.zero_le, en_at0], fun _ => by simp only [Rf.execs, Rf.execS, evalE, evalEs, evalO, evalT, evalL, evalC, evalI, bd_k, of_some, startE, bindT, wipeT, List.map_cons, List.map_nil, List.length_cons, List.length_nil, List.replicate, List.cons_append, List.nil_append, List.getElem?_cons_zero, List.getElem?_cons_succ, List.set_cons_zero, List.set_cons_succ, Option.map_some, Option.map_none, Option.bind_some, Option.bind_none, cmp_eq_int, cmp_ne_int, cmp_eq_str, cmp_ne_str, cmp_eq_bl, cmp_ne_bl, cmp_lt_int, cmp_le_int, cmp_gt_int, cmp_ge_int, cmp_is_non, cmp_is_int, cmp_is_tup, cmp_isn_non, cmp_isn_int, cmp_isn_tup, cmp_is_bl, cmp_isn_bl, cmp_in_str, isi_bl, isi_int, isi_str, isi_tup, isi_lst, isi_non, truth_bl, len_tup, len_lst, len_fro, idx_tup, idx_lst, idx_fro, isStr, seqI_str, seqI_tup, seqI_lst, decide_true, decide_false, if_true, if_false, ↓reduceIte, eq_self, Bool.false_eq_true, Bool.true_or, Bool.or_true, Bool.false_or, Bool.or_false, Bool.true_and, Bool.and_true, Bool.false_and, Bool.and_false, Bool.not_true, Bool.not_false, reduceCtorEq, and_self, and_true, true_and, ite_self, size16, Nat.reduceAdd, Nat.reduceLeDiff, Nat.zero_le, en_at1]⟩
  have la : litems S (.lst ((mkS es x).map Make.d)) = some ((mkS es x).map Make.d) := rfl
  have e1 := compL_map (f := fun x S2 => ((G.cfg (n + 1)).call (Str.ofString "_law_key") [x] S2).bd fun k S3 => if S3 = S2 then Res.ok (some k, S3) else .bad) (S := S) (emb := Make.d) (g := Make.lkey) (mkS es x) fun m hm => by
    rw [cfg_ok (law_key_ok hk m (sm m hm) n S)]
    simp only [Rf.execs, Rf.execS, evalE, evalEs, evalO, evalT, evalL, evalC, evalI, bd_k, of_some, startE, bindT, wipeT, List.map_cons, List.map_nil, List.length_cons, List.length_nil, List.replicate, List.cons_append, List.nil_append, List.getElem?_cons_zero, List.getElem?_cons_succ, List.set_cons_zero, List.set_cons_succ, Option.map_some, Option.map_none, Option.bind_some, Option.bind_none, cmp_eq_int, cmp_ne_int, cmp_eq_str, cmp_ne_str, cmp_eq_bl, cmp_ne_bl, cmp_lt_int, cmp_le_int, cmp_gt_int, cmp_ge_int, cmp_is_non, cmp_is_int, cmp_is_tup, cmp_isn_non, cmp_isn_int, cmp_isn_tup, cmp_is_bl, cmp_isn_bl, cmp_in_str, isi_bl, isi_int, isi_str, isi_tup, isi_lst, isi_non, truth_bl, len_tup, len_lst, len_fro, idx_tup, idx_lst, idx_fro, isStr, seqI_str, seqI_tup, seqI_lst, decide_true, decide_false, if_true, if_false, ↓reduceIte, eq_self, Bool.false_eq_true, Bool.true_or, Bool.or_true, Bool.false_or, Bool.or_false, Bool.true_and, Bool.and_true, Bool.false_and, Bool.and_false, Bool.not_true, Bool.not_false, reduceCtorEq, and_self, and_true, true_and, ite_self, if_true]
  have gk : evalE (G.cfg (n + 1)) (.new true (.sortk (Str.ofString "_law_key") (.new false c__law_makes_v1_l0))) [some (.tup (es.map En.d)), some (.str x), none, none] S = .ok (.ref S.length, S ++ [.lst ((ascM (mkS es x)).map Make.d)]) := by
    simp only [Rf.execs, Rf.execS, evalE, evalEs, evalO, evalT, evalL, evalC, evalI, bd_k, of_some, startE, bindT, wipeT, List.map_cons, List.map_nil, List.length_cons, List.length_nil, List.replicate, List.cons_append, List.nil_append, List.getElem?_cons_zero, List.getElem?_cons_succ, List.set_cons_zero, List.set_cons_succ, Option.map_some, Option.map_none, Option.bind_some, Option.bind_none, cmp_eq_int, cmp_ne_int, cmp_eq_str, cmp_ne_str, cmp_eq_bl, cmp_ne_bl, cmp_lt_int, cmp_le_int, cmp_gt_int, cmp_ge_int, cmp_is_non, cmp_is_int, cmp_is_tup, cmp_isn_non, cmp_isn_int, cmp_isn_tup, cmp_is_bl, cmp_isn_bl, cmp_in_str, isi_bl, isi_int, isi_str, isi_tup, isi_lst, isi_non, truth_bl, len_tup, len_lst, len_fro, idx_tup, idx_lst, idx_fro, isStr, seqI_str, seqI_tup, seqI_lst, decide_true, decide_false, if_true, if_false, ↓reduceIte, eq_self, Bool.false_eq_true, Bool.true_or, Bool.or_true, Bool.false_or, Bool.or_false, Bool.true_and, Bool.and_true, Bool.false_and, Bool.and_false, Bool.not_true, Bool.not_false, reduceCtorEq, and_self, and_true, true_and, ite_self, size16, Nat.reduceAdd, Nat.reduceLeDiff, Nat.zero_le, l1, la, e1, lkeyM.sortT]
  have rv := rev_end S ((ascM (mkS es x)).map Make.d)
  have er : ((ascM (mkS es x)).map Make.d).reverse = (descM (mkS es x)).map Make.d := by rw [← List.map_reverse]; rfl
  rw [er] at rv
  have mt := isMut_end S ((ascM (mkS es x)).map Make.d)
  have ex : ∃ r', execs (G.cfg (n + 1)) c__law_makes_v1.body (startE 4 [.tup (es.map En.d), .str x]) S = .ok ((.rt (.ref S.length), r'), S ++ [.lst ((descM (mkS es x)).map Make.d)]) := by
    show ∃ r', execs (G.cfg (n + 1)) c__law_makes_v1.body [some (.tup (es.map En.d)), some (.str x), none, none] S = _
    refine ret_step (r1 := [some (.tup (es.map En.d)), some (.str x), some (.ref S.length), none]) (S1 := S ++ [.lst ((ascM (mkS es x)).map Make.d)]) (by rw [Rf.execS]; exact (by rw [gk]; rfl)) ?_
    exact ⟨_, by simp only [Rf.execs, Rf.execS, evalE, evalEs, evalO, evalT, evalL, evalC, evalI, bd_k, of_some, startE, bindT, wipeT, List.map_cons, List.map_nil, List.length_cons, List.length_nil, List.replicate, List.cons_append, List.nil_append, List.getElem?_cons_zero, List.getElem?_cons_succ, List.set_cons_zero, List.set_cons_succ, Option.map_some, Option.map_none, Option.bind_some, Option.bind_none, cmp_eq_int, cmp_ne_int, cmp_eq_str, cmp_ne_str, cmp_eq_bl, cmp_ne_bl, cmp_lt_int, cmp_le_int, cmp_gt_int, cmp_ge_int, cmp_is_non, cmp_is_int, cmp_is_tup, cmp_isn_non, cmp_isn_int, cmp_isn_tup, cmp_is_bl, cmp_isn_bl, cmp_in_str, isi_bl, isi_int, isi_str, isi_tup, isi_lst, isi_non, truth_bl, len_tup, len_lst, len_fro, idx_tup, idx_lst, idx_fro, isStr, seqI_str, seqI_tup, seqI_lst, decide_true, decide_false, if_true, if_false, ↓reduceIte, eq_self, Bool.false_eq_true, Bool.true_or, Bool.or_true, Bool.false_or, Bool.or_false, Bool.true_and, Bool.and_true, Bool.false_and, Bool.and_false, Bool.not_true, Bool.not_false, reduceCtorEq, and_self, and_true, true_and, ite_self, size16, Nat.reduceAdd, Nat.reduceLeDiff, Nat.zero_le, mt, rv]; rfl⟩
  obtain ⟨r', ex⟩ := ex
  exact callF_eq hf rfl (by decide) ex rfl (freeze_ref0 [] (D.purs_map _ Make.pur _))
theorem law_newest_d {G : Gam} (F : FLnw G) (hf : List.lookup (Str.ofString "_law_newest") G.fns = some c__law_newest) {ws : List Nd} {es : List En} {bk : List Bk} (N : NwOk ws es bk) {x : Str} {m : Make} (hm : newM ws es bk x = some m) (n : Nat) (S : Store) :
    callF G (n + 5) "_law_newest" [.tup (es.map En.d), .tup (ws.map Nd.d), .tup (bk.map bkD), .str x] S = .ok (m.d, S) := by
  refine callF_pur0 hf rfl (by decide) m.pur ?_
  have bl := N.B.bl
  have mo := cfg_ok (law_makes_d F.brk.key F.mks es (by have := N.el; omega) N.sm x (n + 2) S)
  obtain ⟨hp, hA, B, hB⟩ := find_split hm
  obtain ⟨A, hAA⟩ : ∃ A, A = (descM (mkS es x)).takeWhile fun y => !okM ws es bk x y := ⟨_, rfl⟩
  rw [← hAA] at hA hB
  have hmem : ∀ y, y ∈ A ∨ y = m → y ∈ mkS es x := fun y hy => by
    have : y ∈ descM (mkS es x) := by
      rw [hB]
      rcases hy with hy | hy
      · exact List.mem_append_left _ hy
      · rw [hy]; simp
    exact descM_mem.mp this
  rw [hB] at mo
  have cond : ∀ y, y ∈ mkS es x → evalT (G.cfg (n + 4)) (.cmp .Eq (.call "_law_broken" (.cons (.var 0) (.cons (.var 1) (.cons (.call "_law_with" (.cons (.var 2) (.cons (.var 3) (.cons (.var 4) .nil)))) .nil)))) (.new false (.disp .nil))) [some (.tup (es.map En.d)), some (.tup (ws.map Nd.d)), some (.tup (bk.map bkD)), some (.str x), some y.d] S = .ok (okM ws es bk x y, S) := fun y hy => by
    have wo := cfg_ok (law_with_ok F.wth bk bl x y (n + 3) S)
    have bo := cfg_ok (law_broken_ok F.brk (N.with hy).B N.pw n S)
    have wn := wk_nil S (.lst ((brkL ws es (withB bk x y)).map wkD)) (brkL ws es (withB bk x y)) rfl
    simp only [Rf.execs, Rf.execS, evalE, evalEs, evalO, evalT, evalL, evalC, evalI, bd_k, of_some, startE, bindT, wipeT, List.map_cons, List.map_nil, List.length_cons, List.length_nil, List.replicate, List.cons_append, List.nil_append, List.getElem?_cons_zero, List.getElem?_cons_succ, List.set_cons_zero, List.set_cons_succ, Option.map_some, Option.map_none, Option.bind_some, Option.bind_none, cmp_eq_int, cmp_ne_int, cmp_eq_str, cmp_ne_str, cmp_eq_bl, cmp_ne_bl, cmp_lt_int, cmp_le_int, cmp_gt_int, cmp_ge_int, cmp_is_non, cmp_is_int, cmp_is_tup, cmp_isn_non, cmp_isn_int, cmp_isn_tup, cmp_is_bl, cmp_isn_bl, cmp_in_str, isi_bl, isi_int, isi_str, isi_tup, isi_lst, isi_non, truth_bl, len_tup, len_lst, len_fro, idx_tup, idx_lst, idx_fro, isStr, seqI_str, seqI_tup, seqI_lst, decide_true, decide_false, if_true, if_false, ↓reduceIte, eq_self, Bool.false_eq_true, Bool.true_or, Bool.or_true, Bool.false_or, Bool.or_false, Bool.true_and, Bool.and_true, Bool.false_and, Bool.and_false, Bool.not_true, Bool.not_false, reduceCtorEq, and_self, and_true, true_and, ite_self, size16, Nat.reduceAdd, Nat.reduceLeDiff, Nat.zero_le, wo, bo, wn]; rfl
  have L := exec_for_find (c := G.cfg (n + 4)) (tg := .nm 4) (it := .seq (.call "_law_makes" (.cons (.var 0) (.cons (.var 3) .nil)))) (b := c__law_newest_b0) (S := S) (S1 := S) (r := [some (.tup (es.map En.d)), some (.tup (ws.map Nd.d)), some (.tup (bk.map bkD)), some (.str x), none])
    A m B Make.d (w := fun _ => true) (fun _ r' S' => S' = S ∧ ∃ v4, r' = [some (.tup (es.map En.d)), some (.tup (ws.map Nd.d)), some (.tup (bk.map bkD)), some (.str x), v4]) (fun d _ S' => d = m.d ∧ S' = S)
    (by simp only [Rf.execs, Rf.execS, evalE, evalEs, evalO, evalT, evalL, evalC, evalI, bd_k, of_some, startE, bindT, wipeT, List.map_cons, List.map_nil, List.length_cons, List.length_nil, List.replicate, List.cons_append, List.nil_append, List.getElem?_cons_zero, List.getElem?_cons_succ, List.set_cons_zero, List.set_cons_succ, Option.map_some, Option.map_none, Option.bind_some, Option.bind_none, cmp_eq_int, cmp_ne_int, cmp_eq_str, cmp_ne_str, cmp_eq_bl, cmp_ne_bl, cmp_lt_int, cmp_le_int, cmp_gt_int, cmp_ge_int, cmp_is_non, cmp_is_int, cmp_is_tup, cmp_isn_non, cmp_isn_int, cmp_isn_tup, cmp_is_bl, cmp_isn_bl, cmp_in_str, isi_bl, isi_int, isi_str, isi_tup, isi_lst, isi_non, truth_bl, len_tup, len_lst, len_fro, idx_tup, idx_lst, idx_fro, isStr, seqI_str, seqI_tup, seqI_lst, decide_true, decide_false, if_true, if_false, ↓reduceIte, eq_self, Bool.false_eq_true, Bool.true_or, Bool.or_true, Bool.false_or, Bool.or_false, Bool.true_and, Bool.and_true, Bool.false_and, Bool.and_false, Bool.not_true, Bool.not_false, reduceCtorEq, and_self, and_true, true_and, ite_self, size16, Nat.reduceAdd, Nat.reduceLeDiff, Nat.zero_le, mo]) (fun _ _ _ _ => rfl) (fun i hi r' S' hI => by
      obtain ⟨rfl, v4, rfl⟩ := hI
      have c := cond A[i] (hmem _ (.inl (List.getElem_mem hi)))
      rw [hA _ (List.getElem_mem hi)] at c
      exact ⟨[some (.tup (es.map En.d)), some (.tup (ws.map Nd.d)), some (.tup (bk.map bkD)), some (.str x), some A[i].d], rfl, _, _, by
        simp only [c__law_newest_b0, Rf.execs, Rf.execS, c, bd_k, Bool.false_eq_true, ↓reduceIte]; rfl, rfl, _, rfl⟩) (fun r' S' hI => by
      obtain ⟨rfl, v4, rfl⟩ := hI
      have c := cond m (hmem _ (.inr rfl))
      rw [hp] at c
      exact ⟨[some (.tup (es.map En.d)), some (.tup (ws.map Nd.d)), some (.tup (bk.map bkD)), some (.str x), some m.d], rfl, m.d, _, _, by
        simp only [c__law_newest_b0, Rf.execs, Rf.execS, c, bd_k, ↓reduceIte, evalE, List.getElem?_cons_zero, List.getElem?_cons_succ]; rfl, rfl, rfl⟩) ⟨rfl, _, rfl⟩
  obtain ⟨d, r', S', h, rfl, rfl⟩ := L
  exact ⟨_, execs_ret (s := c__law_newest_s0) h⟩
structure FLst (G : Gam) : Prop where
  nw : FLnw G
  new : List.lookup (Str.ofString "_law_newest") G.fns = some c__law_newest
  stp : List.lookup (Str.ofString "_law_step") G.fns = some c__law_step
theorem law_step_ok {G : Gam} (F : FLst G) {ws : List Nd} {es : List En} {bk : List Bk} (Q : Sd ws es bk) (n : Nat) (S : Store) :
    callF G (n + 6) "_law_step" [.tup (es.map En.d), .tup (ws.map Nd.d), .tup (bk.map bkD)] S = .ok (.tup ((stpB ws es bk).map bkD), S) := by
  refine callF_pur0 F.stp rfl (by decide) (by rw [D.pur, D.purs_map _ bkD_pur]) ?_
  have bl := Q.N.B.bl
  have body : ∀ b ∈ bk, ∀ v5 S', execS (G.cfg (n + 5)) (.asg 5 (.call "_law_newest" (.cons (.var 0) (.cons (.var 1) (.cons (.var 2) (.cons (.var 3) .nil)))))) [some (.tup (es.map En.d)), some (.tup (ws.map Nd.d)), some (.tup (bk.map bkD)), some (.str b.1), some b.2.d, v5] S' =
      .ok ((.nx, [some (.tup (es.map En.d)), some (.tup (ws.map Nd.d)), some (.tup (bk.map bkD)), some (.str b.1), some b.2.d, some (newB ws es bk b).d]), S') := fun b hb v5 S' => by
    have nw := cfg_ok (law_newest_d F.nw F.new Q.N (newB_ok Q hb).1 n S')
    simp only [Rf.execs, Rf.execS, evalE, evalEs, evalO, evalT, evalL, evalC, evalI, bd_k, of_some, startE, bindT, wipeT, List.map_cons, List.map_nil, List.length_cons, List.length_nil, List.replicate, List.cons_append, List.nil_append, List.getElem?_cons_zero, List.getElem?_cons_succ, List.set_cons_zero, List.set_cons_succ, Option.map_some, Option.map_none, Option.bind_some, Option.bind_none, cmp_eq_int, cmp_ne_int, cmp_eq_str, cmp_ne_str, cmp_eq_bl, cmp_ne_bl, cmp_lt_int, cmp_le_int, cmp_gt_int, cmp_ge_int, cmp_is_non, cmp_is_int, cmp_is_tup, cmp_isn_non, cmp_isn_int, cmp_isn_tup, cmp_is_bl, cmp_isn_bl, cmp_in_str, isi_bl, isi_int, isi_str, isi_tup, isi_lst, isi_non, truth_bl, len_tup, len_lst, len_fro, idx_tup, idx_lst, idx_fro, isStr, seqI_str, seqI_tup, seqI_lst, decide_true, decide_false, if_true, if_false, ↓reduceIte, eq_self, Bool.false_eq_true, Bool.true_or, Bool.or_true, Bool.false_or, Bool.or_false, Bool.true_and, Bool.and_true, Bool.false_and, Bool.and_false, Bool.not_true, Bool.not_false, reduceCtorEq, and_self, and_true, true_and, ite_self, size16, Nat.reduceAdd, Nat.reduceLeDiff, Nat.zero_le, nw]
  unfold stpB
  cases hf : bk.find? fun b => !decide (newB ws es bk b = b.2) with
  | none =>
    have all : ∀ b ∈ bk, newB ws es bk b = b.2 := fun b hb => by simpa using List.find?_eq_none.mp hf b hb
    obtain ⟨r', S', h, rfl, v3, v4, v5, rfl⟩ := exec_for_ix (c := G.cfg (n + 5)) (tg := .tp [3, 4]) (it := .seq (.var 2)) (b := c__law_step_b0) (S := S) (r := [some (.tup (es.map En.d)), some (.tup (ws.map Nd.d)), some (.tup (bk.map bkD)), none, none, none])
      bk bkD (w := fun _ => true) (fun _ r' S' => S' = S ∧ ∃ v3 v4 v5, r' = [some (.tup (es.map En.d)), some (.tup (ws.map Nd.d)), some (.tup (bk.map bkD)), v3, v4, v5])
      (by simp only [Rf.execs, Rf.execS, evalE, evalEs, evalO, evalT, evalL, evalC, evalI, bd_k, of_some, startE, bindT, wipeT, List.map_cons, List.map_nil, List.length_cons, List.length_nil, List.replicate, List.cons_append, List.nil_append, List.getElem?_cons_zero, List.getElem?_cons_succ, List.set_cons_zero, List.set_cons_succ, Option.map_some, Option.map_none, Option.bind_some, Option.bind_none, cmp_eq_int, cmp_ne_int, cmp_eq_str, cmp_ne_str, cmp_eq_bl, cmp_ne_bl, cmp_lt_int, cmp_le_int, cmp_gt_int, cmp_ge_int, cmp_is_non, cmp_is_int, cmp_is_tup, cmp_isn_non, cmp_isn_int, cmp_isn_tup, cmp_is_bl, cmp_isn_bl, cmp_in_str, isi_bl, isi_int, isi_str, isi_tup, isi_lst, isi_non, truth_bl, len_tup, len_lst, len_fro, idx_tup, idx_lst, idx_fro, isStr, seqI_str, seqI_tup, seqI_lst, decide_true, decide_false, if_true, if_false, ↓reduceIte, eq_self, Bool.false_eq_true, Bool.true_or, Bool.or_true, Bool.false_or, Bool.or_false, Bool.true_and, Bool.and_true, Bool.false_and, Bool.and_false, Bool.not_true, Bool.not_false, reduceCtorEq, and_self, and_true, true_and, ite_self, size16, Nat.reduceAdd, Nat.reduceLeDiff, Nat.zero_le]) (fun _ _ _ _ => rfl) (fun i hi r' S' hI => by
        obtain ⟨rfl, v3, v4, v5, rfl⟩ := hI
        have hb := List.getElem_mem hi
        have ne := Make.ne_ok S' (newB ws es bk bk[i]) bk[i].2
        rw [decide_eq_true (all _ hb)] at ne
        have bd := body _ hb v5 S'
        generalize bk[i] = b at *
        refine ⟨[some (.tup (es.map En.d)), some (.tup (ws.map Nd.d)), some (.tup (bk.map bkD)), some (.str b.1), some b.2.d, v5], rfl, _, _, (execs_step bd).trans (by simp only [Rf.execs, Rf.execS, evalE, evalEs, evalO, evalT, evalL, evalC, evalI, bd_k, of_some, startE, bindT, wipeT, List.map_cons, List.map_nil, List.length_cons, List.length_nil, List.replicate, List.cons_append, List.nil_append, List.getElem?_cons_zero, List.getElem?_cons_succ, List.set_cons_zero, List.set_cons_succ, Option.map_some, Option.map_none, Option.bind_some, Option.bind_none, cmp_eq_int, cmp_ne_int, cmp_eq_str, cmp_ne_str, cmp_eq_bl, cmp_ne_bl, cmp_lt_int, cmp_le_int, cmp_gt_int, cmp_ge_int, cmp_is_non, cmp_is_int, cmp_is_tup, cmp_isn_non, cmp_isn_int, cmp_isn_tup, cmp_is_bl, cmp_isn_bl, cmp_in_str, isi_bl, isi_int, isi_str, isi_tup, isi_lst, isi_non, truth_bl, len_tup, len_lst, len_fro, idx_tup, idx_lst, idx_fro, isStr, seqI_str, seqI_tup, seqI_lst, decide_true, decide_false, if_true, if_false, ↓reduceIte, eq_self, Bool.false_eq_true, Bool.true_or, Bool.or_true, Bool.false_or, Bool.or_false, Bool.true_and, Bool.and_true, Bool.false_and, Bool.and_false, Bool.not_true, Bool.not_false, reduceCtorEq, and_self, and_true, true_and, ite_self, size16, Nat.reduceAdd, Nat.reduceLeDiff, Nat.zero_le, ne]; rfl), rfl, _, _, _, rfl⟩) ⟨rfl, _, _, _, rfl⟩
    refine ret_step (s := c__law_step_s0) h ?_
    exact ⟨_, by simp only [Rf.execs, Rf.execS, evalE, evalEs, evalO, evalT, evalL, evalC, evalI, bd_k, of_some, startE, bindT, wipeT, List.map_cons, List.map_nil, List.length_cons, List.length_nil, List.replicate, List.cons_append, List.nil_append, List.getElem?_cons_zero, List.getElem?_cons_succ, List.set_cons_zero, List.set_cons_succ, Option.map_some, Option.map_none, Option.bind_some, Option.bind_none, cmp_eq_int, cmp_ne_int, cmp_eq_str, cmp_ne_str, cmp_eq_bl, cmp_ne_bl, cmp_lt_int, cmp_le_int, cmp_gt_int, cmp_ge_int, cmp_is_non, cmp_is_int, cmp_is_tup, cmp_isn_non, cmp_isn_int, cmp_isn_tup, cmp_is_bl, cmp_isn_bl, cmp_in_str, isi_bl, isi_int, isi_str, isi_tup, isi_lst, isi_non, truth_bl, len_tup, len_lst, len_fro, idx_tup, idx_lst, idx_fro, isStr, seqI_str, seqI_tup, seqI_lst, decide_true, decide_false, if_true, if_false, ↓reduceIte, eq_self, Bool.false_eq_true, Bool.true_or, Bool.or_true, Bool.false_or, Bool.or_false, Bool.true_and, Bool.and_true, Bool.false_and, Bool.and_false, Bool.not_true, Bool.not_false, reduceCtorEq, and_self, and_true, true_and, ite_self, size16, Nat.reduceAdd, Nat.reduceLeDiff, Nat.zero_le]; rfl⟩
  | some b =>
    obtain ⟨hp, hA, B, hB⟩ := find_split hf
    obtain ⟨A, hAA⟩ : ∃ A, A = bk.takeWhile fun y => !(!decide (newB ws es bk y = y.2)) := ⟨_, rfl⟩
    rw [← hAA] at hA hB
    have hmem : ∀ y, y ∈ A ∨ y = b → y ∈ bk := fun y hy => by
      rw [hB]
      rcases hy with hy | hy
      · exact List.mem_append_left _ hy
      · rw [hy]; simp
    have L := exec_for_find (c := G.cfg (n + 5)) (tg := .tp [3, 4]) (it := .seq (.var 2)) (b := c__law_step_b0) (S := S) (S1 := S) (r := [some (.tup (es.map En.d)), some (.tup (ws.map Nd.d)), some (.tup (bk.map bkD)), none, none, none])
      A b B bkD (w := fun _ => true) (fun _ r' S' => S' = S ∧ ∃ v3 v4 v5, r' = [some (.tup (es.map En.d)), some (.tup (ws.map Nd.d)), some (.tup (bk.map bkD)), v3, v4, v5]) (fun d _ S' => d = .tup ((withB bk b.1 (newB ws es bk b)).map bkD) ∧ S' = S)
      (by rw [← hB]; simp only [Rf.execs, Rf.execS, evalE, evalEs, evalO, evalT, evalL, evalC, evalI, bd_k, of_some, startE, bindT, wipeT, List.map_cons, List.map_nil, List.length_cons, List.length_nil, List.replicate, List.cons_append, List.nil_append, List.getElem?_cons_zero, List.getElem?_cons_succ, List.set_cons_zero, List.set_cons_succ, Option.map_some, Option.map_none, Option.bind_some, Option.bind_none, cmp_eq_int, cmp_ne_int, cmp_eq_str, cmp_ne_str, cmp_eq_bl, cmp_ne_bl, cmp_lt_int, cmp_le_int, cmp_gt_int, cmp_ge_int, cmp_is_non, cmp_is_int, cmp_is_tup, cmp_isn_non, cmp_isn_int, cmp_isn_tup, cmp_is_bl, cmp_isn_bl, cmp_in_str, isi_bl, isi_int, isi_str, isi_tup, isi_lst, isi_non, truth_bl, len_tup, len_lst, len_fro, idx_tup, idx_lst, idx_fro, isStr, seqI_str, seqI_tup, seqI_lst, decide_true, decide_false, if_true, if_false, ↓reduceIte, eq_self, Bool.false_eq_true, Bool.true_or, Bool.or_true, Bool.false_or, Bool.or_false, Bool.true_and, Bool.and_true, Bool.false_and, Bool.and_false, Bool.not_true, Bool.not_false, reduceCtorEq, and_self, and_true, true_and, ite_self, size16, Nat.reduceAdd, Nat.reduceLeDiff, Nat.zero_le]) (fun _ _ _ _ => rfl) (fun i hi r' S' hI => by
        obtain ⟨rfl, v3, v4, v5, rfl⟩ := hI
        have hb := hmem _ (.inl (List.getElem_mem hi))
        have eq : newB ws es bk A[i] = A[i].2 := by simpa using hA _ (List.getElem_mem hi)
        have ne := Make.ne_ok S' (newB ws es bk A[i]) A[i].2
        rw [decide_eq_true eq] at ne
        have bd := body _ hb v5 S'
        generalize A[i] = b at *
        refine ⟨[some (.tup (es.map En.d)), some (.tup (ws.map Nd.d)), some (.tup (bk.map bkD)), some (.str b.1), some b.2.d, v5], rfl, _, _, (execs_step bd).trans (by simp only [Rf.execs, Rf.execS, evalE, evalEs, evalO, evalT, evalL, evalC, evalI, bd_k, of_some, startE, bindT, wipeT, List.map_cons, List.map_nil, List.length_cons, List.length_nil, List.replicate, List.cons_append, List.nil_append, List.getElem?_cons_zero, List.getElem?_cons_succ, List.set_cons_zero, List.set_cons_succ, Option.map_some, Option.map_none, Option.bind_some, Option.bind_none, cmp_eq_int, cmp_ne_int, cmp_eq_str, cmp_ne_str, cmp_eq_bl, cmp_ne_bl, cmp_lt_int, cmp_le_int, cmp_gt_int, cmp_ge_int, cmp_is_non, cmp_is_int, cmp_is_tup, cmp_isn_non, cmp_isn_int, cmp_isn_tup, cmp_is_bl, cmp_isn_bl, cmp_in_str, isi_bl, isi_int, isi_str, isi_tup, isi_lst, isi_non, truth_bl, len_tup, len_lst, len_fro, idx_tup, idx_lst, idx_fro, isStr, seqI_str, seqI_tup, seqI_lst, decide_true, decide_false, if_true, if_false, ↓reduceIte, eq_self, Bool.false_eq_true, Bool.true_or, Bool.or_true, Bool.false_or, Bool.or_false, Bool.true_and, Bool.and_true, Bool.false_and, Bool.and_false, Bool.not_true, Bool.not_false, reduceCtorEq, and_self, and_true, true_and, ite_self, size16, Nat.reduceAdd, Nat.reduceLeDiff, Nat.zero_le, ne]; rfl), rfl, _, _, _, rfl⟩) (fun r' S' hI => by
        obtain ⟨rfl, v3, v4, v5, rfl⟩ := hI
        have hb := hmem _ (.inr rfl)
        have nq : ¬ newB ws es bk b = b.2 := by simpa using hp
        have ne := Make.ne_ok S' (newB ws es bk b) b.2
        rw [decide_eq_false nq] at ne
        have bd := body _ hb v5 S'
        have wo := cfg_ok (law_with_ok F.nw.wth bk bl b.1 (newB ws es bk b) (n + 4) S')
        refine ⟨[some (.tup (es.map En.d)), some (.tup (ws.map Nd.d)), some (.tup (bk.map bkD)), some (.str b.1), some b.2.d, v5], rfl, _, _, _, (execs_step bd).trans (by simp only [Rf.execs, Rf.execS, evalE, evalEs, evalO, evalT, evalL, evalC, evalI, bd_k, of_some, startE, bindT, wipeT, List.map_cons, List.map_nil, List.length_cons, List.length_nil, List.replicate, List.cons_append, List.nil_append, List.getElem?_cons_zero, List.getElem?_cons_succ, List.set_cons_zero, List.set_cons_succ, Option.map_some, Option.map_none, Option.bind_some, Option.bind_none, cmp_eq_int, cmp_ne_int, cmp_eq_str, cmp_ne_str, cmp_eq_bl, cmp_ne_bl, cmp_lt_int, cmp_le_int, cmp_gt_int, cmp_ge_int, cmp_is_non, cmp_is_int, cmp_is_tup, cmp_isn_non, cmp_isn_int, cmp_isn_tup, cmp_is_bl, cmp_isn_bl, cmp_in_str, isi_bl, isi_int, isi_str, isi_tup, isi_lst, isi_non, truth_bl, len_tup, len_lst, len_fro, idx_tup, idx_lst, idx_fro, isStr, seqI_str, seqI_tup, seqI_lst, decide_true, decide_false, if_true, if_false, ↓reduceIte, eq_self, Bool.false_eq_true, Bool.true_or, Bool.or_true, Bool.false_or, Bool.or_false, Bool.true_and, Bool.and_true, Bool.false_and, Bool.and_false, Bool.not_true, Bool.not_false, reduceCtorEq, and_self, and_true, true_and, ite_self, size16, Nat.reduceAdd, Nat.reduceLeDiff, Nat.zero_le, ne, wo]; rfl), rfl, rfl⟩) ⟨rfl, _, _, _, rfl⟩
    obtain ⟨d, r', S', h, rfl, rfl⟩ := L
    exact ⟨_, execs_ret (s := c__law_step_s0) h⟩
theorem bks_eq (S : Store) (a b : List Bk) : cmpD S .Eq (.tup (a.map bkD)) (.tup (b.map bkD)) = some (decide (a = b)) ∧ cmpD S .NotEq (.tup (a.map bkD)) (.tup (b.map bkD)) = some (!decide (a = b)) := by
  have ok1 : ∀ b : Bk, D.okd 39 (bkD b) = true := fun b => by
    show D.okd (38 + 1) (bkD b) = true
    unfold bkD
    rw [D.okd, D.okds, D.okds, D.okds, show D.okd 38 b.2.d = true from Make.okd 35 b.2]; rfl
  have oks : ∀ l : List Bk, D.okds 39 (l.map bkD) = true := fun l => by
    induction l with
    | nil => rfl
    | cons b l ih => rw [List.map_cons, D.okds, ok1 b, ih]; rfl
  have ok : ∀ l : List Bk, D.okd deep (.tup (l.map bkD)) = true := fun l => oks l
  have eq1 : ∀ a b : Bk, D.eqv (bkD a) (bkD b) = decide (a = b) := fun a b => by
    obtain ⟨y, o⟩ := a
    obtain ⟨x, m⟩ := b
    show (D.eqv (.str y) (.str x) && (D.eqv o.d m.d && true)) = _
    rw [Make.eqv]
    show ((y == x) && (decide (o = m) && true)) = _
    by_cases q1 : y = x <;> by_cases q2 : o = m <;> simp [q1, q2]
  have eqs : ∀ a b : List Bk, D.eqvs (a.map bkD) (b.map bkD) = decide (a = b) := fun a => by
    induction a with
    | nil => intro b; cases b <;> rfl
    | cons x a ih =>
      intro b
      cases b with
      | nil => rfl
      | cons y b =>
        show (D.eqv (bkD x) (bkD y) && D.eqvs (a.map bkD) (b.map bkD)) = _
        rw [eq1, ih]
        by_cases q1 : x = y <;> by_cases q2 : a = b <;> simp [q1, q2]
  constructor
  · show (if D.okd deep (.tup (a.map bkD)) && D.okd deep (.tup (b.map bkD)) then some (D.eqvs (a.map bkD) (b.map bkD)) else none) = _
    rw [ok, ok, eqs]; rfl
  · show (if D.okd deep (.tup (a.map bkD)) && D.okd deep (.tup (b.map bkD)) then some (!D.eqvs (a.map bkD) (b.map bkD)) else none) = _
    rw [ok, ok, eqs]; rfl
theorem snd_sd {ws : List Nd} {es : List En} {bk : List Bk} (wo : ∀ q ∈ ws, q.Ok) (wl : ws.length ≤ 100) (ho : ShOk es) (el : es.length ≤ 40) (bo : BkOk es bk) : BOk ws es bk ∧ Sd (sndW ws bk) (sndE es bk) bk := by
  have B : BOk ws es bk := ⟨wo, fun e he => (ho.gd e he).ok.nd, fun b hb => by
    obtain ⟨e, he, _, e2⟩ := bo.mem b hb
    rw [← e2]; exact (ho.gd e he).ok.sm, wl, by omega, fun e he => by have := (ho.gd e he).ln; omega, by have := bo.ln; omega⟩
  have sl : (sndE es bk).length = es.length := by unfold sndE; rw [List.length_map]
  have B2 : BOk (sndW ws bk) (sndE es bk) bk := ⟨fun q hq => wo q (List.mem_filter.mp hq).1, fun e he q hq => by
    obtain ⟨o, h1, _, _, h2, _⟩ := sndE_mem he
    exact (ho.gd o h1).ok.nd q (h2 q hq), B.b, Nat.le_trans (List.length_filter_le _ _) wl, by omega, fun e he => by
    obtain ⟨o, h1, _, _, _, h2, _⟩ := sndE_mem he
    have := (ho.gd o h1).ln
    omega, B.bl⟩
  refine ⟨B, ⟨⟨B2, fun b hb => ?_, bo.nd, sndE_pw ho.pw, fun e he => ?_, by omega⟩, snd_sound ho.pw⟩⟩
  · obtain ⟨e, he, e1, e2⟩ := bo.mem b hb
    refine ⟨_, List.mem_map.mpr ⟨e, he, rfl⟩, ?_⟩
    split
    · exact ⟨e1, e2⟩
    · exact ⟨e1, e2⟩
  · obtain ⟨o, h1, _, h2, _⟩ := sndE_mem he
    rw [h2]; exact (ho.gd o h1).ok.sm
namespace K45
structure Fn (G : Gam) : Prop where
  sh : FSh G
  wts : List.lookup (Str.ofString "_law_wants") G.fns = some c__law_wants
  bok : List.lookup (Str.ofString "_law_book") G.fns = some c__law_book
  lf : FLf G
  snd : List.lookup (Str.ofString "_law_sounded") G.fns = some c__law_sounded
  st : FLst G
  law : List.lookup (Str.ofString "law") G.fns = some c_law_v24
theorem law_ok {G : Gam} (F : Fn G) {ns : List Int} (h63 : ns.length ≤ 63) (n : Nat) : ∃ S, callF G (n + 18) "law" [.fro ns] [] = .ok (.bl true, S) := by
  obtain ⟨es, ho, hl, he⟩ := shelf_ex F.sh h63
  refine ⟨[], callF_pur0 F.law rfl (by decide) rfl ?_⟩
  show ∃ r', execs (G.cfg (n + 17)) c_law_v24.body [some (.fro ns), none, none, none, none, none, none, none, none, none, none, none] [] = _
  refine ret_step (r1 := [some (.fro ns), some (.tup (es.map En.d)), none, none, none, none, none, none, none, none, none, none]) (S1 := []) ?_ ?_
  · simp only [Rf.execs, Rf.execS, evalE, evalEs, evalO, evalT, evalL, evalC, evalI, bd_k, of_some, startE, bindT, wipeT, List.map_cons, List.map_nil, List.length_cons, List.length_nil, List.replicate, List.cons_append, List.nil_append, List.getElem?_cons_zero, List.getElem?_cons_succ, List.set_cons_zero, List.set_cons_succ, Option.map_some, Option.map_none, Option.bind_some, Option.bind_none, cmp_eq_int, cmp_ne_int, cmp_eq_str, cmp_ne_str, cmp_eq_bl, cmp_ne_bl, cmp_lt_int, cmp_le_int, cmp_gt_int, cmp_ge_int, cmp_is_non, cmp_is_int, cmp_is_tup, cmp_isn_non, cmp_isn_int, cmp_isn_tup, cmp_is_bl, cmp_isn_bl, cmp_in_str, isi_bl, isi_int, isi_str, isi_tup, isi_lst, isi_non, truth_bl, len_tup, len_lst, len_fro, idx_tup, idx_lst, idx_fro, isStr, seqI_str, seqI_tup, seqI_lst, decide_true, decide_false, if_true, if_false, ↓reduceIte, eq_self, Bool.false_eq_true, Bool.true_or, Bool.or_true, Bool.false_or, Bool.or_false, Bool.true_and, Bool.and_true, Bool.false_and, Bool.and_false, Bool.not_true, Bool.not_false, reduceCtorEq, and_self, and_true, true_and, ite_self, size16, Nat.reduceAdd, Nat.reduceLeDiff, Nat.zero_le, cfg_ok (he (n + 12) [])]; try rfl
  obtain ⟨M0, hM⟩ : ∃ M : Nat, M = max 2 ((ns.map D.int).drop 41 |>.take 20).length := ⟨_, rfl⟩
  have M20 : M0 ≤ 20 := by rw [hM, List.length_take]; omega
  have rt : ritems [] (.fro ns) = some (ns.map D.int) := rfl
  have mx : ∀ xs : List D, biD .max [] [.int 2, .int (xs.length : Int)] = some (.int ((max 2 xs.length : Nat) : Int)) := fun xs => by
    show some (D.int (if (xs.length : Int) > 2 then (xs.length : Int) else 2)) = _
    congr 2
    split <;> omega
  have cu : (cutD (ns.map D.int) (some 41) (some 61)).length = ((ns.map D.int).drop 41 |>.take 20).length := by
    unfold cutD
    rw [show (41 : Int) = ((41 : Nat) : Int) from rfl, show (61 : Int) = ((61 : Nat) : Int) from rfl, HT.sIx_nat, HT.sIx_nat, List.length_take, List.length_drop, List.length_take, List.length_drop, List.length_map]
    omega
  refine ret_step (r1 := [some (.fro ns), some (.tup (es.map En.d)), some (.int (M0 : Int)), none, none, none, none, none, none, none, none, none]) (S1 := []) ?_ ?_
  · have e1 := mx (cutD (ns.map D.int) (some 41) (some 61))
    rw [cu, ← hM] at e1
    have e2 : ((cutD (ns.map D.int) (some 41) (some 61)).length : Int) = (((ns.map D.int).drop 41 |>.take 20).length : Int) := by rw [cu]
    generalize ((ns.map D.int).drop 41 |>.take 20).length = W at e1 e2
    simp only [Rf.execs, Rf.execS, evalE, evalEs, evalO, evalT, evalL, evalC, evalI, bd_k, of_some, startE, bindT, wipeT, List.map_cons, List.map_nil, List.length_cons, List.length_nil, List.replicate, List.cons_append, List.nil_append, List.getElem?_cons_zero, List.getElem?_cons_succ, List.set_cons_zero, List.set_cons_succ, Option.map_some, Option.map_none, Option.bind_some, Option.bind_none, cmp_eq_int, cmp_ne_int, cmp_eq_str, cmp_ne_str, cmp_eq_bl, cmp_ne_bl, cmp_lt_int, cmp_le_int, cmp_gt_int, cmp_ge_int, cmp_is_non, cmp_is_int, cmp_is_tup, cmp_isn_non, cmp_isn_int, cmp_isn_tup, cmp_is_bl, cmp_isn_bl, cmp_in_str, isi_bl, isi_int, isi_str, isi_tup, isi_lst, isi_non, truth_bl, len_tup, len_lst, len_fro, idx_tup, idx_lst, idx_fro, isStr, seqI_str, seqI_tup, seqI_lst, decide_true, decide_false, if_true, if_false, ↓reduceIte, eq_self, Bool.false_eq_true, Bool.true_or, Bool.or_true, Bool.false_or, Bool.or_false, Bool.true_and, Bool.and_true, Bool.false_and, Bool.and_false, Bool.not_true, Bool.not_false, reduceCtorEq, and_self, and_true, true_and, ite_self, size16, Nat.reduceAdd, Nat.reduceLeDiff, Nat.zero_le, rt, e2, e1]
  obtain ⟨M, Ml, hM2⟩ : ∃ M : Nat, M ≤ 20 ∧ execS (G.cfg (n + 17)) (.ite (.cmp .Gt (.bi .len (.cons (.var 1) .nil)) (.int 9)) (.cons (.asg 2 (.bi .min (.cons (.var 2) (.cons (.int 4) .nil)))) .nil) .nil) [some (.fro ns), some (.tup (es.map En.d)), some (.int (M0 : Int)), none, none, none, none, none, none, none, none, none] [] =
      .ok ((.nx, [some (.fro ns), some (.tup (es.map En.d)), some (.int (M : Int)), none, none, none, none, none, none, none, none, none]), []) := by
    by_cases q : (9 : Int) < ((es.map En.d).length : Int)
    · refine ⟨min M0 4, by omega, ?_⟩
      have mn : biD .min ([] : Store) [.int (M0 : Int), .int 4] = some (.int ((min M0 4 : Nat) : Int)) := by
        show some (D.int (if (4 : Int) < (M0 : Int) then 4 else (M0 : Int))) = _
        congr 2
        split <;> omega
      simp only [Rf.execs, Rf.execS, evalE, evalEs, evalO, evalT, evalL, evalC, evalI, bd_k, of_some, startE, bindT, wipeT, List.map_cons, List.map_nil, List.length_cons, List.length_nil, List.replicate, List.cons_append, List.nil_append, List.getElem?_cons_zero, List.getElem?_cons_succ, List.set_cons_zero, List.set_cons_succ, Option.map_some, Option.map_none, Option.bind_some, Option.bind_none, cmp_eq_int, cmp_ne_int, cmp_eq_str, cmp_ne_str, cmp_eq_bl, cmp_ne_bl, cmp_lt_int, cmp_le_int, cmp_gt_int, cmp_ge_int, cmp_is_non, cmp_is_int, cmp_is_tup, cmp_isn_non, cmp_isn_int, cmp_isn_tup, cmp_is_bl, cmp_isn_bl, cmp_in_str, isi_bl, isi_int, isi_str, isi_tup, isi_lst, isi_non, truth_bl, len_tup, len_lst, len_fro, idx_tup, idx_lst, idx_fro, isStr, seqI_str, seqI_tup, seqI_lst, decide_true, decide_false, if_true, if_false, ↓reduceIte, eq_self, Bool.false_eq_true, Bool.true_or, Bool.or_true, Bool.false_or, Bool.or_false, Bool.true_and, Bool.and_true, Bool.false_and, Bool.and_false, Bool.not_true, Bool.not_false, reduceCtorEq, and_self, and_true, true_and, ite_self, size16, Nat.reduceAdd, Nat.reduceLeDiff, Nat.zero_le, decide_eq_true q, mn]
    · exact ⟨M0, M20, by simp only [Rf.execs, Rf.execS, evalE, evalEs, evalO, evalT, evalL, evalC, evalI, bd_k, of_some, startE, bindT, wipeT, List.map_cons, List.map_nil, List.length_cons, List.length_nil, List.replicate, List.cons_append, List.nil_append, List.getElem?_cons_zero, List.getElem?_cons_succ, List.set_cons_zero, List.set_cons_succ, Option.map_some, Option.map_none, Option.bind_some, Option.bind_none, cmp_eq_int, cmp_ne_int, cmp_eq_str, cmp_ne_str, cmp_eq_bl, cmp_ne_bl, cmp_lt_int, cmp_le_int, cmp_gt_int, cmp_ge_int, cmp_is_non, cmp_is_int, cmp_is_tup, cmp_isn_non, cmp_isn_int, cmp_isn_tup, cmp_is_bl, cmp_isn_bl, cmp_in_str, isi_bl, isi_int, isi_str, isi_tup, isi_lst, isi_non, truth_bl, len_tup, len_lst, len_fro, idx_tup, idx_lst, idx_fro, isStr, seqI_str, seqI_tup, seqI_lst, decide_true, decide_false, if_true, if_false, ↓reduceIte, eq_self, Bool.false_eq_true, Bool.true_or, Bool.or_true, Bool.false_or, Bool.or_false, Bool.true_and, Bool.and_true, Bool.false_and, Bool.and_false, Bool.not_true, Bool.not_false, reduceCtorEq, and_self, and_true, true_and, ite_self, size16, Nat.reduceAdd, Nat.reduceLeDiff, Nat.zero_le, decide_eq_false q]⟩
  refine ret_step hM2 ?_
  obtain ⟨r', S', h, rfl, v3, v4, v5, v6, v7, v8, v9, v10, v11, rfl⟩ := exec_for_ix (c := G.cfg (n + 17)) (tg := .nm 3) (it := .range (.cons (.var 2) .nil)) (b := c_law_v24_b1) (S := []) (r := [some (.fro ns), some (.tup (es.map En.d)), some (.int (M : Int)), none, none, none, none, none, none, none, none, none])
    (List.range M) (fun (j : Nat) => .int (j : Int)) (w := fun _ => true) (fun i r' S' => S' = [] ∧ ∃ v3 v4 v5 v6 v7 v8 v9 v10 v11, r' = [some (.fro ns), some (.tup (es.map En.d)), some (.int (M : Int)), v3, v4, v5, v6, v7, v8, v9, v10, v11])
    (by simp only [Rf.execs, Rf.execS, evalE, evalEs, evalO, evalT, evalL, evalC, evalI, bd_k, of_some, startE, bindT, wipeT, List.map_cons, List.map_nil, List.length_cons, List.length_nil, List.replicate, List.cons_append, List.nil_append, List.getElem?_cons_zero, List.getElem?_cons_succ, List.set_cons_zero, List.set_cons_succ, Option.map_some, Option.map_none, Option.bind_some, Option.bind_none, cmp_eq_int, cmp_ne_int, cmp_eq_str, cmp_ne_str, cmp_eq_bl, cmp_ne_bl, cmp_lt_int, cmp_le_int, cmp_gt_int, cmp_ge_int, cmp_is_non, cmp_is_int, cmp_is_tup, cmp_isn_non, cmp_isn_int, cmp_isn_tup, cmp_is_bl, cmp_isn_bl, cmp_in_str, isi_bl, isi_int, isi_str, isi_tup, isi_lst, isi_non, truth_bl, len_tup, len_lst, len_fro, idx_tup, idx_lst, idx_fro, isStr, seqI_str, seqI_tup, seqI_lst, decide_true, decide_false, if_true, if_false, ↓reduceIte, eq_self, Bool.false_eq_true, Bool.true_or, Bool.or_true, Bool.false_or, Bool.or_false, Bool.true_and, Bool.and_true, Bool.false_and, Bool.and_false, Bool.not_true, Bool.not_false, reduceCtorEq, and_self, and_true, true_and, ite_self, size16, Nat.reduceAdd, Nat.reduceLeDiff, Nat.zero_le, rangeI_one (n := M) (by omega)]) (fun _ _ _ _ => rfl) (fun i hi r1 S1 hI => by
      obtain ⟨rfl, v3, v4, v5, v6, v7, v8, v9, v10, v11, rfl⟩ := hI
      rw [List.length_range] at hi
      rw [List.getElem_range]
      obtain ⟨c, hc⟩ := law_cell_ok F.sh.cell h63 (41 + i) (by omega)
      obtain ⟨ws, wo, wl, ew⟩ := wants_ex F.sh F.wts (c / 3)
      obtain ⟨bk, bo, eb⟩ := book_ex F.sh F.bok (c / 5) ho hl
      obtain ⟨B, Q⟩ := snd_sd (fun q hq => (wo.ok q hq).1) (by omega) ho hl bo
      have hc := cfg_ok (hc (n + 16) [])
      have ci : (41 : Int) + (i : Int) = ((41 + i : Nat) : Int) := by omega
      have f3 := fdiv_int c 3 (by decide) (by decide)
      have f5 := fdiv_int c 5 (by decide) (by decide)
      have ew := cfg_ok (ew (n + 13) [])
      have eb := cfg_ok (eb (n + 13) [])
      have sd := cfg_ok (law_sounded_ok F.lf.nw.brk F.snd B (n + 13) [])
      obtain ⟨E, hE⟩ : ∃ E, E = sndE es bk := ⟨_, rfl⟩
      obtain ⟨W, hW⟩ : ∃ W, W = sndW ws bk := ⟨_, rfl⟩
      rw [← hE, ← hW] at sd Q
      have Q2 : Sd W E (liftL W E bk) := itB_sd 41 Q
      have l2 : liftL W E (liftL W E bk) = liftL W E bk := itB_fix (lift_fix Q) 41
      have t1 := cfg_ok (lifted_ok F.lf Q (n + 8) [])
      have t2 := cfg_ok (lifted_ok F.lf Q2 (n + 8) [])
      rw [l2] at t2
      have ne := (bks_eq [] (liftL W E bk) (liftL W E bk)).2
      rw [show (!decide (liftL W E bk = liftL W E bk)) = false by simp] at ne
      have st1 : execS (G.cfg (n + 17)) (.asg 4 (.call "_law_cell" (.cons (.var 0) (.cons (.bin .Add (.int 41) (.var 3)) .nil)))) [some (.fro ns), some (.tup (es.map En.d)), some (.int (M : Int)), some (.int (i : Int)), v4, v5, v6, v7, v8, v9, v10, v11] [] =
          .ok ((.nx, [some (.fro ns), some (.tup (es.map En.d)), some (.int (M : Int)), some (.int (i : Int)), some (.int c), v5, v6, v7, v8, v9, v10, v11]), []) := by simp only [Rf.execs, Rf.execS, evalE, evalEs, evalO, evalT, evalL, evalC, evalI, bd_k, of_some, startE, bindT, wipeT, List.map_cons, List.map_nil, List.length_cons, List.length_nil, List.replicate, List.cons_append, List.nil_append, List.getElem?_cons_zero, List.getElem?_cons_succ, List.set_cons_zero, List.set_cons_succ, Option.map_some, Option.map_none, Option.bind_some, Option.bind_none, cmp_eq_int, cmp_ne_int, cmp_eq_str, cmp_ne_str, cmp_eq_bl, cmp_ne_bl, cmp_lt_int, cmp_le_int, cmp_gt_int, cmp_ge_int, cmp_is_non, cmp_is_int, cmp_is_tup, cmp_isn_non, cmp_isn_int, cmp_isn_tup, cmp_is_bl, cmp_isn_bl, cmp_in_str, isi_bl, isi_int, isi_str, isi_tup, isi_lst, isi_non, truth_bl, len_tup, len_lst, len_fro, idx_tup, idx_lst, idx_fro, isStr, seqI_str, seqI_tup, seqI_lst, decide_true, decide_false, if_true, if_false, ↓reduceIte, eq_self, Bool.false_eq_true, Bool.true_or, Bool.or_true, Bool.false_or, Bool.or_false, Bool.true_and, Bool.and_true, Bool.false_and, Bool.and_false, Bool.not_true, Bool.not_false, reduceCtorEq, and_self, and_true, true_and, ite_self, size16, Nat.reduceAdd, Nat.reduceLeDiff, Nat.zero_le, add_int, ci, hc]
      have st2 : execS (G.cfg (n + 17)) (.asg 5 (.call "_law_book" (.cons (.bin .FloorDiv (.var 4) (.int 5)) (.cons (.var 1) .nil)))) [some (.fro ns), some (.tup (es.map En.d)), some (.int (M : Int)), some (.int (i : Int)), some (.int c), v5, v6, v7, v8, v9, v10, v11] [] =
          .ok ((.nx, [some (.fro ns), some (.tup (es.map En.d)), some (.int (M : Int)), some (.int (i : Int)), some (.int c), some (.tup (bk.map bkD)), v6, v7, v8, v9, v10, v11]), []) := by simp only [Rf.execs, Rf.execS, evalE, evalEs, evalO, evalT, evalL, evalC, evalI, bd_k, of_some, startE, bindT, wipeT, List.map_cons, List.map_nil, List.length_cons, List.length_nil, List.replicate, List.cons_append, List.nil_append, List.getElem?_cons_zero, List.getElem?_cons_succ, List.set_cons_zero, List.set_cons_succ, Option.map_some, Option.map_none, Option.bind_some, Option.bind_none, cmp_eq_int, cmp_ne_int, cmp_eq_str, cmp_ne_str, cmp_eq_bl, cmp_ne_bl, cmp_lt_int, cmp_le_int, cmp_gt_int, cmp_ge_int, cmp_is_non, cmp_is_int, cmp_is_tup, cmp_isn_non, cmp_isn_int, cmp_isn_tup, cmp_is_bl, cmp_isn_bl, cmp_in_str, isi_bl, isi_int, isi_str, isi_tup, isi_lst, isi_non, truth_bl, len_tup, len_lst, len_fro, idx_tup, idx_lst, idx_fro, isStr, seqI_str, seqI_tup, seqI_lst, decide_true, decide_false, if_true, if_false, ↓reduceIte, eq_self, Bool.false_eq_true, Bool.true_or, Bool.or_true, Bool.false_or, Bool.or_false, Bool.true_and, Bool.and_true, Bool.false_and, Bool.and_false, Bool.not_true, Bool.not_false, reduceCtorEq, and_self, and_true, true_and, ite_self, size16, Nat.reduceAdd, Nat.reduceLeDiff, Nat.zero_le, f5, eb]
      have st3 : execS (G.cfg (n + 17)) (.asgt [6, 7] (.call "_law_sounded" (.cons (.var 1) (.cons (.call "_law_wants" (.cons (.bin .FloorDiv (.var 4) (.int 3)) .nil)) (.cons (.var 5) .nil))))) [some (.fro ns), some (.tup (es.map En.d)), some (.int (M : Int)), some (.int (i : Int)), some (.int c), some (.tup (bk.map bkD)), v6, v7, v8, v9, v10, v11] [] =
          .ok ((.nx, [some (.fro ns), some (.tup (es.map En.d)), some (.int (M : Int)), some (.int (i : Int)), some (.int c), some (.tup (bk.map bkD)), some (.tup (E.map En.d)), some (.tup (W.map Nd.d)), v8, v9, v10, v11]), []) := by simp only [Rf.execs, Rf.execS, evalE, evalEs, evalO, evalT, evalL, evalC, evalI, bd_k, of_some, startE, bindT, wipeT, List.map_cons, List.map_nil, List.length_cons, List.length_nil, List.replicate, List.cons_append, List.nil_append, List.getElem?_cons_zero, List.getElem?_cons_succ, List.set_cons_zero, List.set_cons_succ, Option.map_some, Option.map_none, Option.bind_some, Option.bind_none, cmp_eq_int, cmp_ne_int, cmp_eq_str, cmp_ne_str, cmp_eq_bl, cmp_ne_bl, cmp_lt_int, cmp_le_int, cmp_gt_int, cmp_ge_int, cmp_is_non, cmp_is_int, cmp_is_tup, cmp_isn_non, cmp_isn_int, cmp_isn_tup, cmp_is_bl, cmp_isn_bl, cmp_in_str, isi_bl, isi_int, isi_str, isi_tup, isi_lst, isi_non, truth_bl, len_tup, len_lst, len_fro, idx_tup, idx_lst, idx_fro, isStr, seqI_str, seqI_tup, seqI_lst, decide_true, decide_false, if_true, if_false, ↓reduceIte, eq_self, Bool.false_eq_true, Bool.true_or, Bool.or_true, Bool.false_or, Bool.or_false, Bool.true_and, Bool.and_true, Bool.false_and, Bool.and_false, Bool.not_true, Bool.not_false, reduceCtorEq, and_self, and_true, true_and, ite_self, size16, Nat.reduceAdd, Nat.reduceLeDiff, Nat.zero_le, f3, ew, sd]; rfl
      have st4 : execS (G.cfg (n + 17)) (.asg 8 (.var 5)) [some (.fro ns), some (.tup (es.map En.d)), some (.int (M : Int)), some (.int (i : Int)), some (.int c), some (.tup (bk.map bkD)), some (.tup (E.map En.d)), some (.tup (W.map Nd.d)), v8, v9, v10, v11] [] =
          .ok ((.nx, [some (.fro ns), some (.tup (es.map En.d)), some (.int (M : Int)), some (.int (i : Int)), some (.int c), some (.tup (bk.map bkD)), some (.tup (E.map En.d)), some (.tup (W.map Nd.d)), some (.tup (bk.map bkD)), v9, v10, v11]), []) := by simp only [Rf.execs, Rf.execS, evalE, evalEs, evalO, evalT, evalL, evalC, evalI, bd_k, of_some, startE, bindT, wipeT, List.map_cons, List.map_nil, List.length_cons, List.length_nil, List.replicate, List.cons_append, List.nil_append, List.getElem?_cons_zero, List.getElem?_cons_succ, List.set_cons_zero, List.set_cons_succ, Option.map_some, Option.map_none, Option.bind_some, Option.bind_none, cmp_eq_int, cmp_ne_int, cmp_eq_str, cmp_ne_str, cmp_eq_bl, cmp_ne_bl, cmp_lt_int, cmp_le_int, cmp_gt_int, cmp_ge_int, cmp_is_non, cmp_is_int, cmp_is_tup, cmp_isn_non, cmp_isn_int, cmp_isn_tup, cmp_is_bl, cmp_isn_bl, cmp_in_str, isi_bl, isi_int, isi_str, isi_tup, isi_lst, isi_non, truth_bl, len_tup, len_lst, len_fro, idx_tup, idx_lst, idx_fro, isStr, seqI_str, seqI_tup, seqI_lst, decide_true, decide_false, if_true, if_false, ↓reduceIte, eq_self, Bool.false_eq_true, Bool.true_or, Bool.or_true, Bool.false_or, Bool.or_false, Bool.true_and, Bool.and_true, Bool.false_and, Bool.and_false, Bool.not_true, Bool.not_false, reduceCtorEq, and_self, and_true, true_and, ite_self, size16, Nat.reduceAdd, Nat.reduceLeDiff, Nat.zero_le]
      obtain ⟨r5, S5, st5, fin⟩ := exec_for_brq (c := G.cfg (n + 17)) (tg := .nm 9) (it := .range (.cons (.int 41) .nil)) (b := c_law_v24_b0) (S := []) (r := [some (.fro ns), some (.tup (es.map En.d)), some (.int (M : Int)), some (.int (i : Int)), some (.int c), some (.tup (bk.map bkD)), some (.tup (E.map En.d)), some (.tup (W.map Nd.d)), some (.tup (bk.map bkD)), v9, v10, v11])
        (List.range 41) (fun (j : Nat) => .int (j : Int)) (w := fun _ => true) (fun j r' S' => S' = [] ∧ ∃ v9 v10, r' = [some (.fro ns), some (.tup (es.map En.d)), some (.int (M : Int)), some (.int (i : Int)), some (.int c), some (.tup (bk.map bkD)), some (.tup (E.map En.d)), some (.tup (W.map Nd.d)), some (.tup ((itB W E j bk).map bkD)), v9, v10, v11])
        (fun r' S' => S' = [] ∧ ∃ v9 v10, r' = [some (.fro ns), some (.tup (es.map En.d)), some (.int (M : Int)), some (.int (i : Int)), some (.int c), some (.tup (bk.map bkD)), some (.tup (E.map En.d)), some (.tup (W.map Nd.d)), some (.tup ((liftL W E bk).map bkD)), v9, v10, v11])
        (by simp only [Rf.execs, Rf.execS, evalE, evalEs, evalO, evalT, evalL, evalC, evalI, bd_k, of_some, startE, bindT, wipeT, List.map_cons, List.map_nil, List.length_cons, List.length_nil, List.replicate, List.cons_append, List.nil_append, List.getElem?_cons_zero, List.getElem?_cons_succ, List.set_cons_zero, List.set_cons_succ, Option.map_some, Option.map_none, Option.bind_some, Option.bind_none, cmp_eq_int, cmp_ne_int, cmp_eq_str, cmp_ne_str, cmp_eq_bl, cmp_ne_bl, cmp_lt_int, cmp_le_int, cmp_gt_int, cmp_ge_int, cmp_is_non, cmp_is_int, cmp_is_tup, cmp_isn_non, cmp_isn_int, cmp_isn_tup, cmp_is_bl, cmp_isn_bl, cmp_in_str, isi_bl, isi_int, isi_str, isi_tup, isi_lst, isi_non, truth_bl, len_tup, len_lst, len_fro, idx_tup, idx_lst, idx_fro, isStr, seqI_str, seqI_tup, seqI_lst, decide_true, decide_false, if_true, if_false, ↓reduceIte, eq_self, Bool.false_eq_true, Bool.true_or, Bool.or_true, Bool.false_or, Bool.or_false, Bool.true_and, Bool.and_true, Bool.false_and, Bool.and_false, Bool.not_true, Bool.not_false, reduceCtorEq, and_self, and_true, true_and, ite_self, size16, Nat.reduceAdd, Nat.reduceLeDiff, Nat.zero_le, rangeI_lit (i := (41 : Int)) (n := 41) rfl (by omega)]) (fun _ _ _ _ => rfl) (fun j hj r1 S1 hI => by
          obtain ⟨rfl, v9, v10, rfl⟩ := hI
          rw [List.getElem_range]
          have Qj := itB_sd j Q
          have so := cfg_ok (law_step_ok F.st Qj (n + 11) [])
          have es' := itB_succ W E j bk
          have eq := (bks_eq [] (stpB W E (itB W E j bk)) (itB W E j bk)).1
          have lo := lift_of (j := j) Q
          generalize itB W E j bk = b2 at *
          refine ⟨[some (.fro ns), some (.tup (es.map En.d)), some (.int (M : Int)), some (.int (i : Int)), some (.int c), some (.tup (bk.map bkD)), some (.tup (E.map En.d)), some (.tup (W.map Nd.d)), some (.tup (b2.map bkD)), some (.int (j : Int)), v10, v11], rfl, ?_⟩
          by_cases q : stpB W E b2 = b2
          · right
            rw [decide_eq_true q] at eq
            have lo := lo q
            refine ⟨_, [], ?_, rfl, some (.int (j : Int)), some (.tup ((stpB W E b2).map bkD)), rfl⟩
            rw [← lo]
            simp only [c_law_v24_b0, Rf.execs, Rf.execS, evalE, evalEs, evalO, evalT, evalL, evalC, evalI, bd_k, of_some, startE, bindT, wipeT, List.map_cons, List.map_nil, List.length_cons, List.length_nil, List.replicate, List.cons_append, List.nil_append, List.getElem?_cons_zero, List.getElem?_cons_succ, List.set_cons_zero, List.set_cons_succ, Option.map_some, Option.map_none, Option.bind_some, Option.bind_none, cmp_eq_int, cmp_ne_int, cmp_eq_str, cmp_ne_str, cmp_eq_bl, cmp_ne_bl, cmp_lt_int, cmp_le_int, cmp_gt_int, cmp_ge_int, cmp_is_non, cmp_is_int, cmp_is_tup, cmp_isn_non, cmp_isn_int, cmp_isn_tup, cmp_is_bl, cmp_isn_bl, cmp_in_str, isi_bl, isi_int, isi_str, isi_tup, isi_lst, isi_non, truth_bl, len_tup, len_lst, len_fro, idx_tup, idx_lst, idx_fro, isStr, seqI_str, seqI_tup, seqI_lst, decide_true, decide_false, if_true, if_false, ↓reduceIte, eq_self, Bool.false_eq_true, Bool.true_or, Bool.or_true, Bool.false_or, Bool.or_false, Bool.true_and, Bool.and_true, Bool.false_and, Bool.and_false, Bool.not_true, Bool.not_false, reduceCtorEq, and_self, and_true, true_and, ite_self, size16, Nat.reduceAdd, Nat.reduceLeDiff, Nat.zero_le, so, eq]
          · left
            rw [decide_eq_false q] at eq
            refine ⟨_, [], ?_, rfl, some (.int (j : Int)), some (.tup ((stpB W E b2).map bkD)), rfl⟩
            rw [es']
            simp only [c_law_v24_b0, Rf.execs, Rf.execS, evalE, evalEs, evalO, evalT, evalL, evalC, evalI, bd_k, of_some, startE, bindT, wipeT, List.map_cons, List.map_nil, List.length_cons, List.length_nil, List.replicate, List.cons_append, List.nil_append, List.getElem?_cons_zero, List.getElem?_cons_succ, List.set_cons_zero, List.set_cons_succ, Option.map_some, Option.map_none, Option.bind_some, Option.bind_none, cmp_eq_int, cmp_ne_int, cmp_eq_str, cmp_ne_str, cmp_eq_bl, cmp_ne_bl, cmp_lt_int, cmp_le_int, cmp_gt_int, cmp_ge_int, cmp_is_non, cmp_is_int, cmp_is_tup, cmp_isn_non, cmp_isn_int, cmp_isn_tup, cmp_is_bl, cmp_isn_bl, cmp_in_str, isi_bl, isi_int, isi_str, isi_tup, isi_lst, isi_non, truth_bl, len_tup, len_lst, len_fro, idx_tup, idx_lst, idx_fro, isStr, seqI_str, seqI_tup, seqI_lst, decide_true, decide_false, if_true, if_false, ↓reduceIte, eq_self, Bool.false_eq_true, Bool.true_or, Bool.or_true, Bool.false_or, Bool.or_false, Bool.true_and, Bool.and_true, Bool.false_and, Bool.and_false, Bool.not_true, Bool.not_false, reduceCtorEq, and_self, and_true, true_and, ite_self, size16, Nat.reduceAdd, Nat.reduceLeDiff, Nat.zero_le, so, eq]) ⟨rfl, _, _, rfl⟩
      have fin : S5 = [] ∧ ∃ v9 v10, r5 = [some (.fro ns), some (.tup (es.map En.d)), some (.int (M : Int)), some (.int (i : Int)), some (.int c), some (.tup (bk.map bkD)), some (.tup (E.map En.d)), some (.tup (W.map Nd.d)), some (.tup ((liftL W E bk).map bkD)), v9, v10, v11] := by
        rcases fin with fin | fin
        · rw [List.length_range] at fin; exact fin
        · exact fin
      obtain ⟨rfl, v9, v10, rfl⟩ := fin
      refine ⟨_, rfl, [some (.fro ns), some (.tup (es.map En.d)), some (.int (M : Int)), some (.int (i : Int)), some (.int c), some (.tup (bk.map bkD)), some (.tup (E.map En.d)), some (.tup (W.map Nd.d)), some (.tup ((liftL W E bk).map bkD)), v9, v10, some (.tup ((liftL W E bk).map bkD))], [], ?_, rfl, _, _, _, _, _, _, _, _, _, rfl⟩
      refine (execs_step st1).trans ((execs_step st2).trans ((execs_step st3).trans ((execs_step st4).trans ((execs_step (s := c_law_v24_s0) st5).trans ?_))))
      simp only [Rf.execs, Rf.execS, evalE, evalEs, evalO, evalT, evalL, evalC, evalI, bd_k, of_some, startE, bindT, wipeT, List.map_cons, List.map_nil, List.length_cons, List.length_nil, List.replicate, List.cons_append, List.nil_append, List.getElem?_cons_zero, List.getElem?_cons_succ, List.set_cons_zero, List.set_cons_succ, Option.map_some, Option.map_none, Option.bind_some, Option.bind_none, cmp_eq_int, cmp_ne_int, cmp_eq_str, cmp_ne_str, cmp_eq_bl, cmp_ne_bl, cmp_lt_int, cmp_le_int, cmp_gt_int, cmp_ge_int, cmp_is_non, cmp_is_int, cmp_is_tup, cmp_isn_non, cmp_isn_int, cmp_isn_tup, cmp_is_bl, cmp_isn_bl, cmp_in_str, isi_bl, isi_int, isi_str, isi_tup, isi_lst, isi_non, truth_bl, len_tup, len_lst, len_fro, idx_tup, idx_lst, idx_fro, isStr, seqI_str, seqI_tup, seqI_lst, decide_true, decide_false, if_true, if_false, ↓reduceIte, eq_self, Bool.false_eq_true, Bool.true_or, Bool.or_true, Bool.false_or, Bool.or_false, Bool.true_and, Bool.and_true, Bool.false_and, Bool.and_false, Bool.not_true, Bool.not_false, reduceCtorEq, and_self, and_true, true_and, ite_self, size16, Nat.reduceAdd, Nat.reduceLeDiff, Nat.zero_le, t1, ne, t2, beq_self_eq_true]; try rfl) ⟨rfl, _, _, _, _, _, _, _, _, _, rfl⟩
  refine ret_step (s := c_law_v24_s1) h ?_
  exact ⟨_, by simp only [Rf.execs, Rf.execS, evalE, evalEs, evalO, evalT, evalL, evalC, evalI, bd_k, of_some, startE, bindT, wipeT, List.map_cons, List.map_nil, List.length_cons, List.length_nil, List.replicate, List.cons_append, List.nil_append, List.getElem?_cons_zero, List.getElem?_cons_succ, List.set_cons_zero, List.set_cons_succ, Option.map_some, Option.map_none, Option.bind_some, Option.bind_none, cmp_eq_int, cmp_ne_int, cmp_eq_str, cmp_ne_str, cmp_eq_bl, cmp_ne_bl, cmp_lt_int, cmp_le_int, cmp_gt_int, cmp_ge_int, cmp_is_non, cmp_is_int, cmp_is_tup, cmp_isn_non, cmp_isn_int, cmp_isn_tup, cmp_is_bl, cmp_isn_bl, cmp_in_str, isi_bl, isi_int, isi_str, isi_tup, isi_lst, isi_non, truth_bl, len_tup, len_lst, len_fro, idx_tup, idx_lst, idx_fro, isStr, seqI_str, seqI_tup, seqI_lst, decide_true, decide_false, if_true, if_false, ↓reduceIte, eq_self, Bool.false_eq_true, Bool.true_or, Bool.or_true, Bool.false_or, Bool.or_false, Bool.true_and, Bool.and_true, Bool.false_and, Bool.and_false, Bool.not_true, Bool.not_false, reduceCtorEq, and_self, and_true, true_and, ite_self, size16, Nat.reduceAdd, Nat.reduceLeDiff, Nat.zero_le]; rfl⟩
end K45
end Rf

namespace Lk45
open PySem PySem.Spec PyProof.Rows L2 Rf
def top (i : Nat) : Stmt := PySem.Challenge.pw_stretchbook_k45_lifted.main.body.getD i (.Pass ⟨0, 0, 0, 0⟩)
def e_mark_key : Ent := ⟨"mark_key", "mark_key", defArgs (top 4), defBody (top 4), defScope (top 4), Cr.c_mark_key, ["mark"], ["mark"]⟩
theorem b_mark_key : e_mark_key.Bind := fun _ _ _ _ _ _ us hl => match us, hl with | [_], _ => rfl
def e_make_key : Ent := ⟨"make_key", "make_key", defArgs (top 5), defBody (top 5), defScope (top 5), Cr.c_make_key, ["make", "marks", "mark"], ["make"]⟩
theorem b_make_key : e_make_key.Bind := fun _ _ _ _ _ _ us hl => match us, hl with | [_], _ => rfl
def e_is_older : Ent := ⟨"is_older", "is_older", defArgs (top 6), defBody (top 6), defScope (top 6), Cr.c_is_older, ["one", "other"], ["one", "other"]⟩
theorem b_is_older : e_is_older.Bind := fun _ _ _ _ _ _ us hl => match us, hl with | [_, _], _ => rfl
def e_newest_first : Ent := ⟨"newest_first", "newest_first", defArgs (top 7), defBody (top 7), defScope (top 7), Cr.c_newest_first, ["makes"], ["makes"]⟩
theorem b_newest_first : e_newest_first.Bind := fun _ _ _ _ _ _ us hl => match us, hl with | [_], _ => rfl
def e_in_piece : Ent := ⟨"in_piece", "in_piece", defArgs (top 9), defBody (top 9), defScope (top 9), Cr.c_in_piece, ["make", "piece", "low", "high"], ["make", "piece"]⟩
theorem b_in_piece : e_in_piece.Bind := fun _ _ _ _ _ _ us hl => match us, hl with | [_, _], _ => rfl
def e_lies_in : Ent := ⟨"lies_in", "lies_in", defArgs (top 10), defBody (top 10), defScope (top 10), Cr.c_lies_in, ["make", "span", "piece"], ["make", "span"]⟩
theorem b_lies_in : e_lies_in.Bind := fun _ _ _ _ _ _ us hl => match us, hl with | [_, _], _ => rfl
def e_makes_of : Ent := ⟨"makes_of", "makes_of", defArgs (top 12), defBody (top 12), defScope (top 12), Cr.c_makes_of, ["shelf", "name", "entry"], ["shelf", "name"]⟩
theorem b_makes_of : e_makes_of.Bind := fun _ _ _ _ _ _ us hl => match us, hl with | [_, _], _ => rfl
def e_needs_of : Ent := ⟨"needs_of", "needs_of", defArgs (top 13), defBody (top 13), defScope (top 13), Cr.c_needs_of, ["shelf", "name", "make", "found", "entry"], ["shelf", "name", "make"]⟩
theorem b_needs_of : e_needs_of.Bind := fun _ _ _ _ _ _ us hl => match us, hl with | [_, _, _], _ => rfl
def e_needs_at_work : Ent := ⟨"needs_at_work", "needs_at_work", defArgs (top 15), defBody (top 15), defScope (top 15), Cr.c_needs_at_work, ["shelf", "wants", "book", "found", "name", "span", "by", "make"], ["shelf", "wants", "book"]⟩
theorem b_needs_at_work : e_needs_at_work.Bind := fun _ _ _ _ _ _ us hl => match us, hl with | [_, _, _], _ => rfl
def e_is_met : Ent := ⟨"is_met", "is_met", defArgs (top 16), defBody (top 16), defScope (top 16), Cr.c_is_met, ["need", "book", "name", "make"], ["need", "book"]⟩
theorem b_is_met : e_is_met.Bind := fun _ _ _ _ _ _ us hl => match us, hl with | [_, _], _ => rfl
def e_broken : Ent := ⟨"broken", "broken", defArgs (top 17), defBody (top 17), defScope (top 17), Cr.c_broken, ["shelf", "wants", "book", "need"], ["shelf", "wants", "book"]⟩
theorem b_broken : e_broken.Bind := fun _ _ _ _ _ _ us hl => match us, hl with | [_, _, _], _ => rfl
def e_with_make : Ent := ⟨"with_make", "with_make", defArgs (top 18), defBody (top 18), defScope (top 18), Cr.c_with_make, ["book", "name", "make", "one", "other"], ["book", "name", "make"]⟩
theorem b_with_make : e_with_make.Bind := fun _ _ _ _ _ _ us hl => match us, hl with | [_, _, _], _ => rfl
def e_newest : Ent := ⟨"newest", "newest", defArgs (top 19), defBody (top 19), defScope (top 19), Cr.c_newest, ["shelf", "wants", "book", "name", "makes", "whys", "make", "lacking"], ["shelf", "wants", "book", "name"]⟩
theorem b_newest : e_newest.Bind := fun _ _ _ _ _ _ us hl => match us, hl with | [_, _, _, _], _ => rfl
def e_lifted : Ent := ⟨"lifted", "lifted", defArgs (top 20), defBody (top 20), defScope (top 20), Cr.c_lifted, ["shelf", "wants", "book", "at", "name", "make", "found"], ["shelf", "wants", "book"]⟩
theorem b_lifted : e_lifted.Bind := fun _ _ _ _ _ _ us hl => match us, hl with | [_, _, _], _ => rfl
def e__law_cell : Ent := ⟨"_law_cell", "_law_cell", defArgs (top 22), defBody (top 22), defScope (top 22), Cr.c__law_cell, ["_law_script", "_law_k"], ["_law_script", "_law_k"]⟩
theorem b__law_cell : e__law_cell.Bind := fun _ _ _ _ _ _ us hl => match us, hl with | [_, _], _ => rfl
def e__law_draws : Ent := ⟨"_law_draws", "_law_draws", defArgs (top 23), defBody (top 23), defScope (top 23), Cr.c__law_draws, ["_law_cell_here", "_law_sizes", "_law_found", "_law_digits", "_law_k", "_law_mixed"], ["_law_cell_here", "_law_sizes"]⟩
theorem b__law_draws : e__law_draws.Bind := fun _ _ _ _ _ _ us hl => match us, hl with | [_, _], _ => rfl
def e__law_make : Ent := ⟨"_law_make", "_law_make", defArgs (top 24), defBody (top 24), defScope (top 24), Cr.c__law_make_v2, ["_law_ds", "_law_marks", "_law_many", "_law_great_here"], ["_law_ds"]⟩
theorem b__law_make : e__law_make.Bind := fun _ _ _ _ _ _ us hl => match us, hl with | [_], _ => rfl
def e__law_next : Ent := ⟨"_law_next", "_law_next", defArgs (top 25), defBody (top 25), defScope (top 25), Cr.c__law_next, ["_law_make_here"], ["_law_make_here"]⟩
theorem b__law_next : e__law_next.Bind := fun _ _ _ _ _ _ us hl => match us, hl with | [_], _ => rfl
def e__law_key : Ent := ⟨"_law_key", "_law_key", defArgs (top 26), defBody (top 26), defScope (top 26), Cr.c__law_key, ["_law_make_here", "_law_marks", "_law_mark"], ["_law_make_here"]⟩
theorem b__law_key : e__law_key.Bind := fun _ _ _ _ _ _ us hl => match us, hl with | [_], _ => rfl
def e__law_great : Ent := ⟨"_law_great", "_law_great", defArgs (top 27), defBody (top 27), defScope (top 27), Cr.c__law_great, ["_law_make_here"], ["_law_make_here"]⟩
theorem b__law_great : e__law_great.Bind := fun _ _ _ _ _ _ us hl => match us, hl with | [_], _ => rfl
def e__law_need_span : Ent := ⟨"_law_need_span", "_law_need_span", defArgs (top 28), defBody (top 28), defScope (top 28), Cr.c__law_need_span, ["_law_way", "_law_make_here", "_law_oldest"], ["_law_way", "_law_make_here"]⟩
theorem b__law_need_span : e__law_need_span.Bind := fun _ _ _ _ _ _ us hl => match us, hl with | [_, _], _ => rfl
def e__law_title : Ent := ⟨"_law_title", "_law_title", defArgs (top 29), defBody (top 29), defScope (top 29), Cr.c__law_title, ["_law_k"], ["_law_k"]⟩
theorem b__law_title : e__law_title.Bind := fun _ _ _ _ _ _ us hl => match us, hl with | [_], _ => rfl
def e__law_needs : Ent := ⟨"_law_needs", "_law_needs", defArgs (top 30), defBody (top 30), defScope (top 30), Cr.c__law_needs, ["_law_owner", "_law_ds", "_law_needs_here", "_law_j", "_law_other", "_law_need"], ["_law_owner", "_law_ds"]⟩
theorem b__law_needs : e__law_needs.Bind := fun _ _ _ _ _ _ us hl => match us, hl with | [_, _], _ => rfl
def e__law_entry : Ent := ⟨"_law_entry", "_law_entry", defArgs (top 31), defBody (top 31), defScope (top 31), Cr.c__law_entry, ["_law_cell_here", "_law_ds", "_law_name"], ["_law_cell_here"]⟩
theorem b__law_entry : e__law_entry.Bind := fun _ _ _ _ _ _ us hl => match us, hl with | [_], _ => rfl
def e__law_shelf : Ent := ⟨"_law_shelf", "_law_shelf", defArgs (top 32), defBody (top 32), defScope (top 32), Cr.c__law_shelf, ["_law_script", "_law_first", "_law_ds", "_law_many", "_law_shelf_here", "_law_k", "_law_entry_here", "_law_one"], ["_law_script", "_law_first"]⟩
theorem b__law_shelf : e__law_shelf.Bind := fun _ _ _ _ _ _ us hl => match us, hl with | [_, _], _ => rfl
def e__law_lies : Ent := ⟨"_law_lies", "_law_lies", defArgs (top 33), defBody (top 33), defScope (top 33), Cr.c__law_lies, ["_law_make_here", "_law_span", "_law_low", "_law_high"], ["_law_make_here", "_law_span"]⟩
theorem b__law_lies : e__law_lies.Bind := fun _ _ _ _ _ _ us hl => match us, hl with | [_, _], _ => rfl
def e__law_wants : Ent := ⟨"_law_wants", "_law_wants", defArgs (top 34), defBody (top 34), defScope (top 34), Cr.c__law_wants, ["_law_cell_here", "_law_ds"], ["_law_cell_here"]⟩
theorem b__law_wants : e__law_wants.Bind := fun _ _ _ _ _ _ us hl => match us, hl with | [_], _ => rfl
def e__law_book : Ent := ⟨"_law_book", "_law_book", defArgs (top 35), defBody (top 35), defScope (top 35), Cr.c__law_book, ["_law_cell_here", "_law_shelf_here", "_law_ds", "_law_names", "_law_entry_here", "_law_book_here", "_law_k", "_law_makes_here"], ["_law_cell_here", "_law_shelf_here"]⟩
theorem b__law_book : e__law_book.Bind := fun _ _ _ _ _ _ us hl => match us, hl with | [_, _], _ => rfl
def e__law_is_met : Ent := ⟨"_law_is_met", "_law_is_met", defArgs (top 36), defBody (top 36), defScope (top 36), Cr.c__law_is_met, ["_law_need", "_law_book_here", "_law_name", "_law_make_here"], ["_law_need", "_law_book_here"]⟩
theorem b__law_is_met : e__law_is_met.Bind := fun _ _ _ _ _ _ us hl => match us, hl with | [_, _], _ => rfl
def e__law_at_work : Ent := ⟨"_law_at_work", "_law_at_work", defArgs (top 37), defBody (top 37), defScope (top 37), Cr.c__law_at_work, ["_law_shelf_here", "_law_wants_here", "_law_book_here", "_law_found", "_law_need", "_law_by", "_law_make_here", "_law_entry_here"], ["_law_shelf_here", "_law_wants_here", "_law_book_here"]⟩
theorem b__law_at_work : e__law_at_work.Bind := fun _ _ _ _ _ _ us hl => match us, hl with | [_, _, _], _ => rfl
def e__law_broken : Ent := ⟨"_law_broken", "_law_broken", defArgs (top 38), defBody (top 38), defScope (top 38), Cr.c__law_broken, ["_law_shelf_here", "_law_wants_here", "_law_book_here", "_law_one"], ["_law_shelf_here", "_law_wants_here", "_law_book_here"]⟩
theorem b__law_broken : e__law_broken.Bind := fun _ _ _ _ _ _ us hl => match us, hl with | [_, _, _], _ => rfl
def e__law_sounded : Ent := ⟨"_law_sounded", "_law_sounded", defArgs (top 39), defBody (top 39), defScope (top 39), Cr.c__law_sounded, ["_law_shelf_here", "_law_wants_here", "_law_book_here", "_law_entries", "_law_name", "_law_make_here", "_law_needs_here", "_law_need"], ["_law_shelf_here", "_law_wants_here", "_law_book_here"]⟩
theorem b__law_sounded : e__law_sounded.Bind := fun _ _ _ _ _ _ us hl => match us, hl with | [_, _, _], _ => rfl
def e__law_with : Ent := ⟨"_law_with", "_law_with", defArgs (top 40), defBody (top 40), defScope (top 40), Cr.c__law_with, ["_law_book_here", "_law_name", "_law_make_here", "_law_found", "_law_one", "_law_other"], ["_law_book_here", "_law_name", "_law_make_here"]⟩
theorem b__law_with : e__law_with.Bind := fun _ _ _ _ _ _ us hl => match us, hl with | [_, _, _], _ => rfl
def e__law_makes : Ent := ⟨"_law_makes", "_law_makes", defArgs (top 41), defBody (top 41), defScope (top 41), Cr.c__law_makes_v1, ["_law_shelf_here", "_law_name", "_law_makes_here", "_law_entry_here"], ["_law_shelf_here", "_law_name"]⟩
theorem b__law_makes : e__law_makes.Bind := fun _ _ _ _ _ _ us hl => match us, hl with | [_, _], _ => rfl
def e__law_newest : Ent := ⟨"_law_newest", "_law_newest", defArgs (top 42), defBody (top 42), defScope (top 42), Cr.c__law_newest, ["_law_shelf_here", "_law_wants_here", "_law_book_here", "_law_name", "_law_make_here"], ["_law_shelf_here", "_law_wants_here", "_law_book_here", "_law_name"]⟩
theorem b__law_newest : e__law_newest.Bind := fun _ _ _ _ _ _ us hl => match us, hl with | [_, _, _, _], _ => rfl
def e__law_step : Ent := ⟨"_law_step", "_law_step", defArgs (top 43), defBody (top 43), defScope (top 43), Cr.c__law_step, ["_law_shelf_here", "_law_wants_here", "_law_book_here", "_law_name", "_law_make_here", "_law_found"], ["_law_shelf_here", "_law_wants_here", "_law_book_here"]⟩
theorem b__law_step : e__law_step.Bind := fun _ _ _ _ _ _ us hl => match us, hl with | [_, _, _], _ => rfl
def e_law : Ent := ⟨"law", "law", defArgs (top 44), defBody (top 44), defScope (top 44), Cr.c_law_v24, ["_law_script", "_law_shelf_here", "_law_many", "_law_k", "_law_cell_here", "_law_book_here", "_law_entries", "_law_wants_here", "_law_due", "_law_step_here", "_law_after", "_law_told"], ["_law_script"]⟩
theorem b_law : e_law.Bind := fun _ _ _ _ _ _ us hl => match us, hl with | [_], _ => rfl
def es : List Ent := [e_mark_key, e_make_key, e_is_older, e_newest_first, e_in_piece, e_lies_in, e_makes_of, e_needs_of, e_needs_at_work, e_is_met, e_broken, e_with_make, e_newest, e_lifted, e__law_cell, e__law_draws, e__law_make, e__law_next, e__law_key, e__law_great, e__law_need_span, e__law_title, e__law_needs, e__law_entry, e__law_shelf, e__law_lies, e__law_wants, e__law_book, e__law_is_met, e__law_at_work, e__law_broken, e__law_sounded, e__law_with, e__law_makes, e__law_newest, e__law_step, e_law]
def cons : List (Str × D) := []
theorem es_nd : (es.map (·.f)).Nodup := by decide +kernel
theorem cons_nd : (cons.map (·.1)).Nodup := by decide +kernel
theorem es_bind : BindAll es := ⟨b_mark_key, b_make_key, b_is_older, b_newest_first, b_in_piece, b_lies_in, b_makes_of, b_needs_of, b_needs_at_work, b_is_met, b_broken, b_with_make, b_newest, b_lifted, b__law_cell, b__law_draws, b__law_make, b__law_next, b__law_key, b__law_great, b__law_need_span, b__law_title, b__law_needs, b__law_entry, b__law_shelf, b__law_lies, b__law_wants, b__law_book, b__law_is_met, b__law_at_work, b__law_broken, b__law_sounded, b__law_with, b__law_makes, b__law_newest, b__law_step, b_law, trivial⟩
theorem es_ok : es.all (Ent.ok 3000 (es.map (·.f)) (cons.map (·.1))) = true := by kernel_rfl
abbrev G : Gam := gamOf es cons
abbrev R : PySem.W.OpenRow := PySem.W.OpenLaw.row PySem.Challenge.rw_stretchbook_k45_lifted
abbrev hk : PySem.W.Hook := hookR 6 (es.map (·.f)) cons (es.map Ent.d)
def ob (s : PySem.W.SharedT) : He.AlD := obsRG 6 (es.map (·.f)) cons (es.map Ent.d) (HandSHeadRun.getT s)
theorem ob_eq (s : PySem.W.SharedT) : ob s = hk.obs s.abs := obsRG_eq (HandSHeadRun.getT_eq s)
def loose : List PySem.Str := [("SpanError" : PySem.Str), ("NoName" : PySem.Str), ("mark_key" : PySem.Str), ("make_key" : PySem.Str), ("is_older" : PySem.Str), ("newest_first" : PySem.Str), ("in_piece" : PySem.Str), ("lies_in" : PySem.Str), ("makes_of" : PySem.Str), ("needs_of" : PySem.Str), ("needs_at_work" : PySem.Str), ("is_met" : PySem.Str), ("broken" : PySem.Str), ("with_make" : PySem.Str), ("newest" : PySem.Str), ("lifted" : PySem.Str), ("_law_cell" : PySem.Str), ("_law_draws" : PySem.Str), ("_law_make" : PySem.Str), ("_law_next" : PySem.Str), ("_law_key" : PySem.Str), ("_law_great" : PySem.Str), ("_law_need_span" : PySem.Str), ("_law_title" : PySem.Str), ("_law_needs" : PySem.Str), ("_law_entry" : PySem.Str), ("_law_shelf" : PySem.Str), ("_law_lies" : PySem.Str), ("_law_wants" : PySem.Str), ("_law_book" : PySem.Str), ("_law_is_met" : PySem.Str), ("_law_at_work" : PySem.Str), ("_law_broken" : PySem.Str), ("_law_sounded" : PySem.Str), ("_law_with" : PySem.Str), ("_law_makes" : PySem.Str), ("_law_newest" : PySem.Str), ("_law_step" : PySem.Str)]
theorem run (w : World) : HandSHeadRun.RunEq R (PySem.W.view R.prog [44]) hk ob 4000 loose w := by
  intro os
  kernel_rfl
end Lk45

theorem Lk45.fbrk : Rf.FBrk (Rf.gamOf Lk45.es Lk45.cons) := ⟨⟨rfl, rfl, rfl⟩, ⟨⟨rfl, rfl, rfl⟩, rfl, rfl⟩, rfl, rfl, rfl, rfl, rfl, rfl⟩
theorem Lk45.facts : Rf.K45.Fn (Rf.gamOf Lk45.es Lk45.cons) := ⟨⟨rfl, rfl, rfl, rfl, rfl, rfl, rfl, rfl, rfl, rfl⟩, rfl, rfl, ⟨⟨Lk45.fbrk, ⟨⟨rfl, rfl⟩, rfl⟩, rfl, rfl, rfl⟩, rfl⟩, rfl, ⟨⟨Lk45.fbrk, rfl, rfl⟩, rfl, rfl⟩, rfl⟩
theorem Lk45.law_true : ∀ ns : List Int, ns.length ≤ 63 → (∀ z ∈ ns, PySem.Builtin.Int.intBits z ≤ 1048576) → ∃ S, Rf.callF (Rf.gamOf Lk45.es Lk45.cons) (17 + 1) "law" [.fro ns] [] = .ok (.bl true, S) := fun _ h _ => Rf.K45.law_ok Lk45.facts h 0

open PySem PySem.W PySem.Calls PyProof.Rows
theorem PySem.Challenge.cw_stretchbook_k45_lifted_holds : PySem.Challenge.rw_stretchbook_k45_lifted.Holds := by
  w_on; o_law
  refine HandSHeadRun.head_any (r := OpenLaw.row PySem.Challenge.rw_stretchbook_k45_lifted) (q := view (OpenLaw.row PySem.Challenge.rw_stretchbook_k45_lifted).prog [44]) (H := Lk45.hk) (ob := Lk45.ob) (M := 4000) (loose := Lk45.loose) (d := HandSHeadRun.topDef (OpenLaw.row PySem.Challenge.rw_stretchbook_k45_lifted).prog 44) (kwd := []) Lk45.ob_eq
    (by kernel_rfl) (fun s => by kernel_rfl) Lk45.run (by kernel_rfl) (by kernel_rfl) (by kernel_rfl) (by rfl) (by first | assumption | decide +kernel) (by decide +kernel) ⟨rfl, rfl, rfl, rfl, rfl, by decide +kernel⟩ ?hw ?hc
  case hw => w_witness2
  case hc =>
    exact Rf.walk_rf (l := PySem.Challenge.rw_stretchbook_k45_lifted) (k := 17) (x := "_law_script") (fuel := 3000) (es := Lk45.es) (cons := Lk45.cons) rfl (by kernel_rfl) ⟨rfl, by decide, by decide⟩ (by kernel_rfl) Lk45.es_nd Lk45.cons_nd Lk45.es_ok Lk45.es_bind
      ⟨Lk45.e_law, by simp [Lk45.es], rfl, rfl⟩ Lk45.law_true

