import PyProof.Rows.All
import Wide.All
import OpenK.AllK
import Wide.FinOn
import HandS.ForMost
import HandS.TupAny
import KE.KDictPairs
import PyProof.ReprRoads
import KE.SortData
import HandS.HeadHook2
import HandS.Exc
import HandS.Lambda
import HandS.IsInst
import HandS.More
import HandS.ExcOwn
import HandS.TryOnly
import HandS.ExcInit
import HandS.Defaults
import HandS.NoneIn
import HandS.Style
import HandS.Iter
import HandS.Zip
import PyProof.Draws
import PyProof.EnumMake
import HandS.Small
import HandS.ExcIs
import HandS.ListItems
import HandS.Strs
import PyProof.ZipIter
import PyProof.CollectWalk
import PyProof.TupleOps
import HandS.HeadEnd
import HandS.HeadHook4
import PyProof.Rows.RegFStrParts
import HandS.Head0
import HandS.Head1
import HandS.Head2
import PySem.Challenge.RW_likehall_k48_kinds_joined
set_option linter.all false
set_option maxRecDepth 100000
/-! Fz: the rules that make tuples, with the object known to have no instance dict (what dict(tuple) asks for). -/
namespace Iv
open PySem PySem.Spec PyProof.Rows L2
section
variable {X : Cx}
/-- a tuple whose object is known to have no instance dict -/
def FzT (H : Hp) (a : Addr) (xs : List V) : Prop := ∃ o : Obj, o.dict = none ∧ H a = some (.frz o (.tup xs))
/-- its object is known to have no instance dict -/
def PlT (K : PySem.W.Frag) (H : Hp) (a : Addr) : Prop := (∃ (o : Obj) (u : HO), o.dict = none ∧ H a = some (.frz o u)) ∨ ∃ o, K.lookup a = some o ∧ o.dict = none
theorem FzT.sq {K : PySem.W.Frag} {H : Hp} {a : Addr} {xs : List V} (h : FzT H a xs) : SqT K H a xs := by
  obtain ⟨o, _, h⟩ := h
  exact .inl (.inr ⟨o, h⟩)
theorem fz_laid {pins : List (Addr × Obj)} {σ : L2.St} {H : Hp} {s : Shared} {xs : List V} {us : List Value} (I : Inv X pins σ H s) (r : Vals xs us) (z : xs.length ≤ sizeLine) :
    Inv X pins σ (upd H s.heap.objs.size (.frz { cls := .type "tuple", data := .seq us.toArray } (.tup xs))) { s with heap := s.heap.push { cls := .type "tuple", data := .seq us.toArray } } :=
  I.laid (t' := s.toks) (fun b u e => Heap.get?_push_of_some _ e) (Nat.le_refl _) ⟨Heap.get?_push_size _ rfl, z, us, r, ⟨_, Heap.get?_push_size _ rfl, rfl, _, rfl⟩⟩
def tTupF (t : TA) : TE := fun σ H Q => t σ H fun xs H1 => xs.length ≤ sizeLine ∧ ∀ p (o : Obj), o.dict = none → H1 p = none → Q (.ref p) (upd H1 p (.frz o (.tup xs)))
theorem pe_tupF {es : List Expr} {t : TA} {pos : Pos} {x1} (h : PA X es t) : PE X (.Tuple es x1 pos) (tTupF t) := by
  refine ⟨fun pins s σ H Q I hq => ?_⟩
  refine wpAny_Tuple_spliced (thn (h.run pos pins s σ H _ I hq) fun us s1 ⟨xs, H1, I1, r, z, q⟩ => ⟨by rw [← r.length]; exact z, ?_⟩)
  have hf : H1 s1.heap.objs.size = none := I1.hok.fresh (Nat.le_refl _)
  exact ⟨.ref s1.heap.objs.size, _, fz_laid I1 r z, rfl, q _ _ rfl hf⟩
theorem call_tuple_ofF : CallR X (.type "tuple") (fun xs H Q => ∃ p ys, xs = [.ref p] ∧ ((SqL X.K H p ys ∧ ∀ l (o : Obj), o.dict = none → H l = none → Q (.ref l) (upd H l (.frz o (.tup ys)))) ∨ (SqT X.K H p ys ∧ Q (.ref p) H))) := by
  intro pins s σ H xs us Q I r h
  obtain ⟨p, ys, rfl, h⟩ := h
  obtain ⟨u, rfl, rx⟩ := vals1 r
  cases rx
  rcases h with ⟨hq, q⟩ | ⟨hq, q⟩
  · obtain ⟨its, r', pl, hz⟩ := I.list hq
    have hlen := r'.length
    refine call_tuple_list pl.isList (fun h' kp => ?_) (by simp only [List.size_toArray] <;> omega)
    have I1 : Inv X pins σ H { s with heap := h' } := I.kept (t' := s.toks) kp
    exact ⟨.ref h'.objs.size, _, fz_laid I1 r' hz, rfl, q _ _ rfl (I1.hok.fresh (Nat.le_refl _))⟩
  · obtain ⟨its, r', pl, hz⟩ := I.tuple hq
    exact call_tuple_same pl ⟨.ref p, H, I, rfl, q⟩
theorem pairs_of2 {pins : List (Addr × Obj)} {σ : L2.St} {H : Hp} {s : Shared} (I : Inv X pins σ H s) : ∀ {ps : List Addr} {kvs : List (Key × V)}, Paired (fun p kv => SqT X.K H p [kV kv.1, kv.2]) ps kvs →
    ∃ (prs : List (Key × Value)) (ws : List (Value × Value)), KV kvs prs ∧ prs.length = ps.length ∧ ws.length = ps.length ∧ ∀ (j : Nat) (k v : Value), ws[j]? = some (k, v) → ∃ (b : Addr) (q : Key), ps[j]? = some b ∧ IsTup s.heap b #[k, v] ∧ prs[j]? = some (q, v) ∧ keyIs q k = true
  | _, _, .nil => ⟨[], [], .nil, rfl, rfl, fun j k v e => by simp at e⟩
  | _, _, .cons (a := p) (b := kv) h t => by
    obtain ⟨prs, ws, r, hl, hl2, hp⟩ := pairs_of2 I t
    obtain ⟨its, rv, ht, _⟩ := I.tuple h
    obtain ⟨u, y, ei, ru, ry⟩ := vals2 rv
    subst ei
    refine ⟨(kv.1, y) :: prs, (u, y) :: ws, .cons ⟨rfl, ry⟩ r, by rw [List.length_cons, List.length_cons, hl], by rw [List.length_cons, List.length_cons, hl2], fun j k v e => ?_⟩
    cases j with
    | zero =>
      have e' : (u, y) = (k, v) := Option.some.inj e
      cases e'
      exact ⟨p, kv.1, rfl, ht, rfl, kV_is (P := X.prog) (w := X.w) ru⟩
    | succ j =>
      obtain ⟨b, q, e1, e2, e3, e4⟩ := hp j k v (by simpa using e)
      exact ⟨b, q, by simpa using e1, e2, by simpa using e3, e4⟩
/-- dict(t) of a tuple of pairs -/
theorem call_dictPT (hcalm : X.calm = true) : CallR X (.type "dict") (fun xs H Q => ∃ (a : Addr) (ps : List Addr) (kvs : List (Key × V)), xs = [.ref a] ∧ SqT X.K H a (ps.map V.ref) ∧ PlT X.K H a ∧ Paired (fun p kv => SqT X.K H p [kV kv.1, kv.2]) ps kvs ∧
    ∀ p, H p = none → Q (.ref p) (upd H p (.dK (mergeK [] kvs)))) := by
  intro pins s σ H xs us Q I r q
  obtain ⟨a, ps, kvs, ex, hq, hpl, hp, q⟩ := q
  subst ex
  obtain ⟨u, eu, rx⟩ := vals1 r
  subst eu
  cases rx
  obtain ⟨its, rv, ⟨o, ho, hc, n, hdat⟩, hz⟩ := I.tuple hq
  have hd : o.dict = none := by
    rcases hpl with ⟨o', u', hd', e⟩ | ⟨o', hk, hd'⟩
    · have e2 := (I.hok a _ e).1
      have eo : o' = o := Option.some.inj (e2.symm.trans ho)
      rw [← eo]; exact hd'
    · have eo : o' = o := Option.some.inj ((I.kIn a o' hk).symm.trans ho)
      rw [← eo]; exact hd'
  have ei := refs_at rv
  subst ei
  rw [List.length_map] at hz
  obtain ⟨prs, ws, rel, hl, hl2, hpr⟩ := pairs_of2 I hp
  refine PySem.call_dict_pairs (knd := mixKind X.prog X.w) (kvs := prs) (PySem.PairArg.tuple a (ps.map Value.ref).toArray (fun j => ps.getD j 0) ws) (I.ok.hd hcalm) ⟨⟨o, n, ho, hc, hd, hdat⟩, ?_, fun j k v e => ?_⟩ ⟨by rw [hl, hl2], fun i k v e => ?_⟩ (by rw [hl2]; exact hz) fun h' tk hd' k => ?_
  · simp [hl2]
  · obtain ⟨b, q', e1, e2, e3, e4⟩ := hpr j k v e
    have e5 : ps.getD j 0 = b := by rw [List.getD_eq_getElem?_getD, e1]; rfl
    show (ps.map Value.ref).toArray[j]? = some (.ref (ps.getD j 0)) ∧ PySem.PairAt s.heap (ps.getD j 0) k v
    rw [e5]
    exact ⟨by simp [e1], .inl e2⟩
  · obtain ⟨b, q', e1, e2, e3, e4⟩ := hpr i k v e
    exact ⟨q', e3, e4⟩
  · have hm : (s.heap.objs.size == sysModules) = false := beq_eq_false_iff_ne.mpr (Nat.ne_of_gt I.big)
    have hlen : (mergeK [] kvs).length ≤ sizeLine := by
      refine Nat.le_trans (length_mergeK kvs []) ?_
      rw [List.length_nil, Nat.zero_add, rel.length, hl]
      exact hz
    exact ⟨.ref s.heap.objs.size, upd H s.heap.objs.size (.dK (mergeK [] kvs)), I.laid (t' := tk) (fun b o e => k b o (fun z => nomatch z) e) (Nat.le_refl _) (show ObjOk X.prog X.w _ _ _ (.dK (mergeK [] kvs)) from ⟨hlen, hm, merged [] prs, KV.merge rel .nil, hd'⟩), rfl, q _ (I.hok.fresh (Nat.le_refl _))⟩
/-- t + u -/
def rCatF (K : PySem.W.Frag) : R2 := fun x y H Q => ∃ a b xs ys, x = .ref a ∧ y = .ref b ∧ SqT K H a xs ∧ SqT K H b ys ∧ xs.length + ys.length ≤ sizeLine ∧
  (xs = [] → Q (.ref b) H) ∧ (xs ≠ [] → ys = [] → Q (.ref a) H) ∧ (xs ≠ [] → ys ≠ [] → ∀ p (o : Obj), o.dict = none → H p = none → Q (.ref p) (upd H p (.frz o (.tup (xs ++ ys)))))
theorem op_catF : OpR X (binaryOp .Add) (rCatF X.K) := by
  intro pins s σ H x y v u Q I rx ry h
  obtain ⟨a, b, xs, ys, rfl, rfl, ha, hb, hz, q0, q1, q2⟩ := h
  cases rx
  cases ry
  obtain ⟨its, r1, p1, _⟩ := I.tuple ha
  obtain ⟨its2, r2, p2, _⟩ := I.tuple hb
  by_cases hx : xs = []
  · subst hx
    cases r1
    exact cat_tup0 p1 p2 ⟨.ref b, H, I, rfl, q0 rfl⟩
  · refine HT.cat_tup p1 p2 (fun z => hx (r1.nil_iff.mp z)) (fun z => ⟨.ref a, H, I, rfl, q1 hx (r2.nil_iff.mp z)⟩) (fun z => ?_) (by rw [← r1.length, ← r2.length]; exact hz)
    exact ⟨.ref s.heap.objs.size, _, fz_laid I (r1.append r2) (by rw [List.length_append]; exact hz), rfl, q2 hx (fun w => z (r2.nil_iff.mpr w)) _ _ rfl (I.hok.fresh (Nat.le_refl _))⟩
/-- t[lo:hi]: the whole of it is t itself -/
def rSlF (K : PySem.W.Frag) : V → Option Int → Option Int → Hp → VK → Prop := fun x lo hi H Q => ∃ a xs, x = .ref a ∧ SqT K H a xs ∧
  (HT.sIx xs.length 0 lo = 0 ∧ HT.sIx xs.length xs.length hi = xs.length → Q (.ref a) H) ∧ (¬ (HT.sIx xs.length 0 lo = 0 ∧ HT.sIx xs.length xs.length hi = xs.length) → ∀ p (o : Obj), o.dict = none → H p = none → Q (.ref p) (upd H p (.frz o (.tup (cutV xs lo hi)))))
theorem sl_tupF : SlR X (rSlF X.K) := by
  intro pins s σ H x v vl vu lo hi sl Q I rx hs pl pu h
  obtain ⟨a, xs, rfl, hx, q1, q2⟩ := h
  cases rx
  obtain ⟨its, r, ht, hz⟩ := I.tuple hx
  have hlen : its.toArray.size = xs.length := by rw [List.size_toArray]; exact r.length.symm
  refine ⟨"tuple", _, PyProof.Rows.slot_tuple_getitem.lookup, ht.typeIs, ?_⟩
  by_cases hw : HT.sIx xs.length 0 lo = 0 ∧ HT.sIx xs.length xs.length hi = xs.length
  · exact getItem_tuple_whole ht hs pl pu (by rw [hlen]; exact hw) ⟨.ref a, H, I, rfl, q1 hw⟩
  · refine HT.getItem_tuple_cut ht hs pl pu (by rw [hlen]; exact hw) ?_ (by rw [hlen]; exact hz)
    rw [hlen]
    exact ⟨.ref s.heap.objs.size, _, fz_laid I ((r.drop (HT.sIx xs.length 0 lo)).take (HT.sIx xs.length xs.length hi - HT.sIx xs.length 0 lo)) (Nat.le_trans (cutV_length xs lo hi) hz), rfl, q2 hw _ _ rfl (I.hok.fresh (Nat.le_refl _))⟩
end
end Iv
/-! Iv1: a small language of trees (what the defs of the text are compiled to) and what it does. No heap: own things are trees in slots. -/
set_option linter.all false
namespace Iv
open PySem
abbrev D := PyData
/-- an exception: its class, its one field -/
structure XV where
  cls : String
  fld : D
inductive Bop where
  | add | sub | mul | fdiv | mod | pow
  deriving DecidableEq, Repr
inductive Cop where
  | eq | ne | lt | le | gt | ge | isin | notin | is | isnot
  deriving DecidableEq, Repr
/-- built-in functions and methods of built-in things that change nothing -/
inductive Prm where
  | len | all | any | tuple | list | set | sorted | repr | str | int | isi (t : String) | dict | dget | sindex | join | zip2 | neg | max | min | abs | sitems
  deriving DecidableEq, Repr
inductive Mut where
  | append | extend | clear | pop
  deriving DecidableEq, Repr
mutual
inductive Ex where
  | bad
  | cst (d : D)
  | var (i : Nat)
  | fld (i : Nat) (f : Nat)
  | tfl (a : Ex) (f : Nat)
  | tup (es : List Ex)
  | lst (es : List Ex)
  | dct (es : List Ex)
  | bin (o : Bop) (a b : Ex)
  | cmp (o : Cop) (a b : Ex)
  | chn (o p : Cop) (a b c : Ex)
  | and (a b : Ex)
  | or (a b : Ex)
  | not (a : Ex)
  | ite (c a b : Ex)
  | sub (a b : Ex)
  | slc (a lo hi : Ex)
  | prm (p : Prm) (es : List Ex)
  | bmt (p : Prm) (r : Ex) (es : List Ex)
  | cal (f : String) (es : List Ex)
  | mth (r : Ex) (m : String) (es : List Ex)
  | new (c : String) (es : List Ex)
  | mut (p : Mut) (i : Nat) (f : Option Nat) (es : List Ex)
  | lcp (e : Ex) (tg : List Nat) (one : Bool) (it : It) (ifs : List Ex)
  | isx (a : Ex) (cs : List String)
  | isn (neg : Bool) (a : Ex)
  | lam (w : String) (n : Nat) (caps : List Nat) (cb : Ex)
  | thc (i : Nat)
inductive It where
  | val (e : Ex)
  | rng (a : Ex)
  | rng2 (a b : Ex)
  | enm (es : List Ex)
  | zip (es : List Ex)
end
/-- a value: a thing that never changes, or an own list, dict, instance, an exception that was caught -/
inductive M where
  | exc (x : XV)
  /-- a lambda that was handed in, by what it captured -/
  | thk (ds : List D) (n : Nat) (caps : List Nat) (cb : Ex)
  | imm (d : D)
  | lst (xs : List D)
  | dic (kvs : List (D × D))
  | ins (c : String) (fs : List (Nat × M))
abbrev Rho := List (Option M)
/-- what an except clause does: y = e, y = a constant, return a constant -/
inductive Hd where
  | keep (j : Nat)
  | set (j : Nat) (d : D)
  | ret (d : D)
inductive Sm where
  | asg (i : Nat) (e : Ex)
  | mov (i j : Nat)
  | unp (is : List Nat) (e : Ex)
  | par (i j : Nat) (a b : Ex)
  | par3 (i j l : Nat) (a b c : Ex)
  | sub (i : Nat) (f : Option Nat) (k e : Ex)
  | fld (i : Nat) (f : Nat) (e : Ex)
  | exp (e : Ex)
  | ret (e : Ex)
  | ite (c : Ex) (a b : List Sm)
  | fo (tg : List Nat) (one : Bool) (it : It) (b : List Sm)
  | whl (c : Ex) (b : List Sm)
  | brk | cnt | pas
  | aug (i : Nat) (o : Bop) (e : Ex)
  | rse (c : String) (own : Bool) (e : Ex)
  | tr (b : List Sm) (c : String) (i : Option Nat) (h : Hd)
  | bad
inductive R (α : Type) where
  | ok (a : α) (ρ : Rho)
  | exc (x : XV) (ρ : Rho)
abbrev O (α : Type) := Option (R α)
@[simp] def O.bind {α β : Type} (x : O α) (f : α → Rho → O β) : O β :=
  match x with
  | none => none
  | some (.exc e ρ) => some (.exc e ρ)
  | some (.ok a ρ) => f a ρ
inductive Out where
  | nx (ρ : Rho) | rt (m : M) (ρ : Rho) | br (ρ : Rho) | ct (ρ : Rho) | ex (x : XV) (ρ : Rho)
inductive CRes where
  | ret (m : M) (ps : List (Option M))
  | exc (x : XV) (ps : List (Option M))
/-- a def: of the module, of a class -/
inductive FK where
  | fn (x : String) | mt (c m : String) | lm
  deriving DecidableEq, Repr
abbrev CallFn := FK → List M → Option CRes
/-- of each def the places of the parameters that are handed in place; which defs there are -/
structure Sig where
  inpl : FK → List Nat
  keys : List FK
/-- an operand: a value at hand, or an own thing in its place, looked at when all operands are there -/
inductive Tmp where
  | val (m : M)
  | ref (i : Nat) (f : Option Nat)
def line : Nat := 16777216
def getS (ρ : Rho) (i : Nat) : Option M := (ρ[i]?).join
def putS (ρ : Rho) (i : Nat) (m : M) : Rho := ρ.set i (some m)
def lookF (fs : List (Nat × M)) (f : Nat) : Option M := fs.lookup f
def setF (f : Nat) (m : M) : List (Nat × M) → List (Nat × M)
  | [] => [(f, m)]
  | (g, n) :: r => if g = f then (g, m) :: r else (g, n) :: setF f m r
def getP (ρ : Rho) (i : Nat) : Option Nat → Option M
  | none => getS ρ i
  | some f => match getS ρ i with
    | some (.ins _ fs) => lookF fs f
    | _ => none
def putP (ρ : Rho) (i : Nat) (m : M) : Option Nat → Option Rho
  | none => some (putS ρ i m)
  | some f => match getS ρ i with
    | some (.ins c fs) => some (putS ρ i (.ins c (setF f m fs)))
    | _ => none
def view : M → Option D
  | .imm d => some d
  | .lst xs => some (.list xs)
  | .dic kvs => some (.dict kvs)
  | .ins _ _ => none
  | .exc _ => none
  | .thk _ _ _ _ => none
/-- an operand that is an exception -/
def xOf (ρ : Rho) : Tmp → Option XV
  | .val (.exc x) => some x
  | .ref i none => (match getS ρ i with
    | some (.exc x) => some x
    | _ => none)
  | _ => none
def Tmp.look (ρ : Rho) : Tmp → Option D
  | .val m => view m
  | .ref i f => (getP ρ i f).bind view
/-! ### what the operators tell -/
def b2i (b : Bool) : Int := if b then 1 else 0
def small (i : Int) : Bool := decide (-(2 ^ 64) < i) && decide (i < 2 ^ 64)
def bopD : Bop → D → D → Option M
  | .add, .int i, .int j => some (.imm (.int (i + j)))
  | .add, .str x, .str y => if x.length + y.length ≤ line then some (.imm (.str (x ++ y))) else none
  | .add, .tuple xs, .tuple ys => if xs.length + ys.length ≤ line then some (.imm (.tuple (xs ++ ys))) else none
  | .add, .list xs, .list ys => if xs.length + ys.length ≤ line then some (.lst (xs ++ ys)) else none
  | .sub, .int i, .int j => some (.imm (.int (i - j)))
  | .mul, .int i, .int j => if small i || small j then some (.imm (.int (i * j))) else none
  | .mul, .list xs, .int j => if xs.length * j.toNat ≤ line ∧ -(2 ^ 63) ≤ j ∧ j < 2 ^ 63 then some (.lst (List.replicate j.toNat xs).flatten) else none
  | .fdiv, .int i, .int j => if 0 < j ∧ j < 1073741824 then some (.imm (.int (i / j))) else none
  | .mod, .int i, .int j => if 0 < j then some (.imm (.int (i % j))) else none
  | .pow, .int i, .int j => if 0 ≤ j ∧ j ≤ 1000000 ∧ i.natAbs < 2 ^ 64 then some (.imm (.int (i ^ j.toNat))) else none
  | _, _, _ => none
/-- flat things, and == of them -/
def isFlat : D → Bool
  | .none => true
  | .bool _ => true
  | .int _ => true
  | .str _ => true
  | _ => false
def eqD (a b : D) : Option Bool := match a, b with
  | .str x, .str y => some (decide (x = y))
  | a, b => if SeqAt.shaped a && SeqAt.shaped b then some (PyData.eqv a b) else none
/-- the first entry by a key -/
def keyD (k : D) : Option L2.Key := match k with
  | .int i => some (.inl i)
  | .str x => some (.inr x)
  | _ => none
def getK (kvs : List (D × D)) (k : D) : Option D := (kvs.find? fun p => decide (keyD p.1 = keyD k)).map (·.2)
def putK (k v : D) (kvs : List (D × D)) : List (D × D) :=
  if kvs.any (fun p => decide (keyD p.1 = keyD k)) then kvs.map (fun p => if keyD p.1 = keyD k then (p.1, v) else p) else kvs ++ [(k, v)]
def inD (a b : D) : Option Bool := match b with
  | .tuple xs => if isFlat a && xs.all isFlat then some (xs.any fun y => PyData.eqv y a) else none
  | .list xs => if isFlat a && xs.all isFlat then some (xs.any fun y => PyData.eqv y a) else none
  | .str y => match a with
    | .str x => some (!(Builtin.Str.occurrences y x 0 y.length 1).isEmpty)
    | _ => none
  | .dict kvs => if (keyD a).isSome then some (getK kvs a).isSome else none
  | _ => none
def copD : Cop → D → D → Option Bool
  | .eq, a, b => eqD a b
  | .ne, a, b => (eqD a b).map (!·)
  | .lt, .int i, .int j => some (decide (i < j))
  | .le, .int i, .int j => some (decide (i ≤ j))
  | .gt, .int i, .int j => some (decide (j < i))
  | .ge, .int i, .int j => some (decide (j ≤ i))
  | .isin, a, b => inD a b
  | .notin, a, b => (inD a b).map (!·)
  | .is, a, .none => some (match a with | .none => true | _ => false)
  | .isnot, a, .none => some (match a with | .none => false | _ => true)
  | _, _, _ => none
def subD : D → D → Option D
  | .tuple xs, .int i => L2.atI xs i
  | .list xs, .int i => L2.atI xs i
  | .str x, .int i => if x.length ≤ line then (L2.atI x.cps.toList i).map fun c => .str ⟨#[c]⟩ else none
  | .dict kvs, k => if (keyD k).isSome then getK kvs k else none
  | _, _ => none
def cutD {α : Type} (xs : List α) (lo hi : Option Int) : List α := (xs.drop (HT.sIx xs.length 0 lo)).take (HT.sIx xs.length xs.length hi - HT.sIx xs.length 0 lo)
def slcD : D → Option Int → Option Int → Option M
  | .tuple xs, lo, hi => some (.imm (.tuple (cutD xs lo hi)))
  | .list xs, lo, hi => some (.lst (cutD xs lo hi))
  | .str x, lo, hi => if x.length ≤ line then some (.imm (.str (L2.cutS x lo hi))) else none
  | _, _, _ => none
def bools : List D → Option (List Bool)
  | [] => some []
  | .bool b :: r => (bools r).map (b :: ·)
  | _ :: _ => none
def strsD : List D → Option (List Str)
  | [] => some []
  | .str b :: r => (strsD r).map (b :: ·)
  | _ :: _ => none
def tyD : D → String
  | .none => "NoneType"
  | .bool _ => "bool"
  | .int _ => "int"
  | .str _ => "str"
  | .list _ => "list"
  | .tuple _ => "tuple"
  | .dict _ => "dict"
def isiT : List String := ["int", "bool", "str", "tuple", "list", "dict"]
def isiD (t : String) (d : D) : Option Bool := if isiT.contains t then some (tyD d == t || (t == "int" && tyD d == "bool")) else none
def dupl : List Str → List Str
  | [] => []
  | x :: r => if r.contains x then dupl r else x :: dupl r
def pairsK : List D → List (D × D) → Option (List (D × D))
  | [], acc => some acc
  | .tuple [k, v] :: r, acc => if (keyD k).isSome then pairsK r (putK k v acc) else none
  | _ :: _, _ => none
def leStr (a b : Str) : Bool := !PySem.Spec.ltCps b.cps.toList a.cps.toList
def sortS (xs : List Str) : List Str := xs.mergeSort leStr
/-- how many unlike ones there are among the first i -/
def cnt (xs : List Str) : Nat → Nat
  | 0 => 0
  | i + 1 => if (xs.take i).any (· == xs.getD i Str.empty) then cnt xs i else cnt xs i + 1
/-- no list, no dict -/
def noBox : D → Bool
  | .list _ => false
  | .dict _ => false
  | _ => true
/-- two texts as a tuple -/
def strPair : D → Bool
  | .tuple [.str _, .str _] => true
  | _ => false
/-- a pair that dict would not take for two entries: of such a tuple the object need not be known -/
def two : List D → Bool
  | [a, b] => !(strPair a && strPair b)
  | _ => false
def twoT : D → Bool
  | .tuple ds => two ds
  | _ => false
def zipL (xs ys : List D) : List D := (xs.zip ys).map fun p => .tuple [p.1, p.2]
/-- data that sorted can put in order -/
def sortOk (zs : List D) : Bool := zs.all (fun d => zs.all fun e => PySem.W.alike d e) && (zs.all (fun d => match d with | .tuple (_ :: _) => true | _ => false) || zs.all (fun d => match d with | .tuple _ => false | .none => false | _ => true)) && !PyData.hasDictAll zs && zs.all (fun d => decide (d.depth ≤ 40))
def sortD (zs : List D) : List D := zs.mergeSort (PySem.W.dataLe false id)
def prmD : Prm → List D → Option M
  | .zip2, [.list xs, .list ys] => if (zipL xs ys).all twoT = true then some (.imm (.tuple (zipL xs ys))) else none
  | .len, [.tuple xs] => some (.imm (.int xs.length))
  | .len, [.list xs] => some (.imm (.int xs.length))
  | .len, [.dict xs] => some (.imm (.int xs.length))
  | .len, [.str x] => if x.length ≤ line then some (.imm (.int x.length)) else none
  | .all, [.list xs] => (bools xs).map fun bs => .imm (.bool (bs.all id))
  | .any, [.list xs] => (bools xs).map fun bs => .imm (.bool (bs.any id))
  | .tuple, [.list xs] => some (.imm (.tuple xs))
  | .tuple, [.tuple xs] => some (.imm (.tuple xs))
  | .list, [.list xs] => some (.lst xs)
  | .list, [.tuple xs] => some (.lst xs)
  | .isi t, [d] => (isiD t d).map fun b => .imm (.bool b)
  | .dict, [.list ps] => (pairsK ps []).map .dic
  | .dict, [.dict kvs] => some (.dic kvs)
  | .dict, [.tuple ps] => if two ps = true then none else (pairsK ps []).map .dic
  | .dget, [.dict kvs, k, d] => if (keyD k).isSome ∧ noBox d = true then some (.imm ((getK kvs k).getD d)) else none
  | .neg, [.int i] => some (.imm (.int (-i)))
  | .max, [.int i, .int j] => some (.imm (.int (if i < j then j else i)))
  | .min, [.int i, .int j] => some (.imm (.int (if j < i then j else i)))
  | .abs, [.int i] => some (.imm (.int (if i < 0 then -i else i)))
  | .repr, [.list xs] => if (PyData.list xs).showable = true ∧ (PyData.list xs).hasDict = false ∧ (PyData.list xs).depth ≤ 40 ∧ (PyData.list xs).shown.length ≤ line then some (.imm (.str (PyData.list xs).shown)) else none
  | .repr, [.tuple xs] => if (PyData.tuple xs).showable = true ∧ (PyData.tuple xs).hasDict = false ∧ (PyData.tuple xs).depth ≤ 40 ∧ (PyData.tuple xs).shown.length ≤ line then some (.imm (.str (PyData.tuple xs).shown)) else none
  | .sorted, [.list zs] => if sortOk zs = true then some (.lst (sortD zs)) else none
  | .sitems, [.dict kvs] => if sortOk (kvs.map fun p => .tuple [p.1, p.2]) = true then some (.lst (sortD (kvs.map fun p => .tuple [p.1, p.2]))) else none
  | .sorted, [.dict kvs] => (strsD (kvs.map (·.1))).bind fun ks => if ks.length < 64 then some (.lst ((sortS ks).map .str)) else none
  | .set, [.list xs] => (strsD xs).bind fun ys => if ys.length < 1000 then some (.imm (.int (cnt ys ys.length))) else none
  | .sindex, [.str a, .str b] => ((Builtin.Str.occurrences a b 0 a.length 1).head?).map fun (k : Nat) => .imm (.int (k : Int))
  | .join, [.str a, .list xs] => (strsD xs).bind fun ys => if (ys.map (·.length)).sum + ys.length * a.length ≤ 16777216 then some (.imm (.str (Txt.join a ys))) else none
  | _, _ => none
/-- the type of what a built-in method is of -/
def recv : Prm → String
  | .dget => "dict"
  | _ => "str"
/-! ### how it runs -/
def rngL (lo hi : Int) : List D := (List.range (hi - lo).toNat).map fun (k : Nat) => PyData.int (lo + (k : Int))
def enumL (xs : List D) : List D := xs.zipIdx.map fun (p : D × Nat) => PyData.tuple [.int (p.2 : Int), p.1]
def itemsD : D → Option (List D)
  | .tuple xs => some xs
  | .list xs => some xs
  | .str x => some (x.cps.toList.map fun c => .str ⟨#[c]⟩)
  | .dict ps => some (ps.map fun p => p.1)
  | _ => none
def enmD : List D → Option (List D)
  | [.list xs] => some (enumL xs)
  | [.tuple xs] => some (enumL xs)
  | _ => none
def zipD : List D → Option (List D)
  | [.list xs, .list ys] => if (zipL xs ys).all twoT = true then some (zipL xs ys) else none
  | [.tuple xs, .tuple ys] => if (zipL xs ys).all twoT = true then some (zipL xs ys) else none
  | _ => none
def putMany (ρ : Rho) : List Nat → List D → Rho
  | i :: is, d :: ds => putMany (putS ρ i (.imm d)) is ds
  | _, _ => ρ
def bindT (tg : List Nat) (one : Bool) (d : D) (ρ : Rho) : Option Rho :=
  if one then (match tg with
    | [i] => some (putS ρ i (.imm d))
    | _ => none)
  else match d with
    | .tuple xs => if xs.length = tg.length then some (putMany ρ tg xs) else none
    | .list xs => if xs.length = tg.length then some (putMany ρ tg xs) else none
    | _ => none
/-- the slots of a comprehension's own names are as they were behind it -/
def wipe (ρ : Rho) : List Nat → Rho
  | [] => ρ
  | v :: vs => (wipe ρ vs).set v none
def back (ρ0 ρ : Rho) : List Nat → Rho
  | [] => ρ
  | v :: vs => back ρ0 (ρ.set v (getS (wipe ρ0 vs) v)) vs
def lcpL (test : Rho → O Bool) (elt : Rho → O M) (tg : List Nat) (one : Bool) : List D → List D → Rho → Option (List D × Rho)
  | [], acc, ρ => some (acc, ρ)
  | d :: ds, acc, ρ => match bindT tg one d ρ with
    | none => none
    | some ρ1 => match test ρ1 with
      | some (.ok true ρ2) => (match elt ρ2 with
        | some (.ok m ρ3) => (match view m with
          | some v => if acc.length < line then lcpL test elt tg one ds (acc ++ [v]) (wipe ρ3 tg) else none
          | none => none)
        | _ => none)
      | some (.ok false ρ2) => lcpL test elt tg one ds acc (wipe ρ2 tg)
      | _ => none
def truth : M → Option Bool
  | .imm (.bool b) => some b
  | _ => none
def oBool (x : O M) : O Bool := O.bind x fun m ρ => (truth m).map fun b => .ok b ρ
/-- an own list changes -/
def mutD : Mut → M → List D → Option (M × D)
  | .append, .lst xs, [d] => if xs.length < line then some (.lst (xs ++ [d]), .none) else none
  | .extend, .lst xs, [.list ys] => if xs.length + ys.length ≤ line then some (.lst (xs ++ ys), .none) else none
  | .clear, .lst _, [] => some (.lst [], .none)
  | .pop, .lst xs, [] => (xs[xs.length - 1]?).map fun d => (.lst xs.dropLast, d)
  | _, _, _ => none
def viewAll : List M → Option (List D)
  | [] => some []
  | m :: r => (view m).bind fun d => (viewAll r).map (d :: ·)
def lookAll (ρ : Rho) : List Tmp → Option (List D)
  | [] => some []
  | t :: r => (t.look ρ).bind fun d => (lookAll ρ r).map (d :: ·)
/-- arguments handed in place are lent: taken out of their slots -/
def lend (ρ : Rho) : List Tmp → Option (List M × Rho)
  | [] => some ([], ρ)
  | .val m :: r => (lend ρ r).map fun p => (m :: p.1, p.2)
  | .ref i none :: r => (getS ρ i).bind fun m => (lend (ρ.set i none) r).map fun p => (m :: p.1, p.2)
  | .ref _ (some _) :: _ => none
def giveBack (ρ : Rho) : List Tmp → List (Option M) → Rho
  | .ref i none :: r, p :: ps => giveBack (ρ.set i p) r ps
  | .val _ :: r, _ :: ps => giveBack ρ r ps
  | _, _ => ρ
def finish (ρ : Rho) (ts : List Tmp) : Option CRes → O M
  | none => none
  | some (.ret m ps) => some (.ok m (giveBack ρ ts ps))
  | some (.exc x ps) => some (.exc x (giveBack ρ ts ps))
def callT (cf : CallFn) (f : FK) (ts : List Tmp) (ρ : Rho) : O M := match lend ρ ts with
  | none => none
  | some (ms, ρ1) => finish ρ1 ts (cf f ms)
def copy (ρ : Rho) (i : Nat) : O M := match getS ρ i with
  | some (.imm d) => some (.ok (.imm d) ρ)
  | some (.exc x) => some (.ok (.exc x) ρ)
  | some m => (view m).map fun d => .ok (.imm d) (putS ρ i (.imm d))
  | none => none
def copies (ρ : Rho) : List Nat → O (List D)
  | [] => some (.ok [] ρ)
  | i :: is => O.bind (copy ρ i) fun m ρ => match view m with
    | some d => O.bind (copies ρ is) fun ds ρ => some (.ok (d :: ds) ρ)
    | none => none
/-- the slots of a lambda: what it captured -/
def capR (n : Nat) : List Nat → List D → Rho
  | i :: is, d :: ds => (capR n is ds).set i (some (.imm d))
  | _, _ => List.replicate n none
def copyF (ρ : Rho) (i f : Nat) : O M := match getP ρ i (some f) with
  | some (.imm d) => some (.ok (.imm d) ρ)
  | _ => none
def ofD (ρ : Rho) (o : Option D) : O M := o.map fun d => .ok (.imm d) ρ
def ofM (ρ : Rho) (o : Option M) : O M := o.map fun m => .ok m ρ
def ofB (ρ : Rho) (o : Option Bool) : O M := o.map fun b => .ok (.imm (.bool b)) ρ
def bop (o : Bop) (t u : Tmp) (ρ : Rho) : O M := ofM ρ ((t.look ρ).bind fun a => (u.look ρ).bind fun b => bopD o a b)
def cop (o : Cop) (t u : Tmp) (ρ : Rho) : Option Bool := (t.look ρ).bind fun a => (u.look ρ).bind fun b => copD o a b
def isNoneD : D → Bool
  | .none => true
  | _ => false
/-- x is None, x is not None: an exception isn't -/
def isnB (neg : Bool) (ρ : Rho) (t : Tmp) : Option Bool := match xOf ρ t with
  | some _ => some neg
  | none => (t.look ρ).map fun d => isNoneD d != neg
/-- own exceptions stand straight under HallError, that under ValueError -/
def subX (c d : String) : Bool := c == d || d == "HallError" || d == "ValueError"
def intOf : M → Option Int
  | .imm (.int i) => some i
  | _ => none
def isNo : Ex → Bool
  | .cst .none => true
  | _ => false
/-- a slice's part: left out (written as None), or an int -/
def optInt (c : Ex) (m : M) : Option (Option Int) := if isNo c then some none else match m with
  | .imm (.int i) => some (some i)
  | _ => none
/-- an operand: ev is how its expression runs -/
def opd (e : Ex) (ev : Rho → O M) (ρ : Rho) : O Tmp := match e with
  | .var i => (match getS ρ i with
    | some _ => some (.ok (.ref i none) ρ)
    | none => none)
  | .fld i f => (match getP ρ i (some f) with
    | some (.imm d) => some (.ok (.val (.imm d)) ρ)
    | some (.lst _) => some (.ok (.ref i (some f)) ρ)
    | some (.dic _) => some (.ok (.ref i (some f)) ρ)
    | _ => none)
  | _ => O.bind (ev ρ) fun m ρ => some (.ok (.val m) ρ)
/-- an argument, in place or not -/
def arg (inpl : Bool) (e : Ex) (ev : Rho → O M) (ρ : Rho) : O Tmp := match e, inpl with
  | .var i, true => (match getS ρ i with
    | some _ => some (.ok (.ref i none) ρ)
    | none => none)
  | _, _ => O.bind (ev ρ) fun m ρ => some (.ok (.val m) ρ)
/-- the class of an instance at hand or in its slot -/
def clsOf (ρ : Rho) : Tmp → Option String
  | .val (.ins c _) => some c
  | .ref i none => (match getS ρ i with
    | some (.ins c _) => some c
    | _ => none)
  | _ => none
/-- {k: v, ..}: keys and values by turns -/
def pairUp : List D → Option (List (D × D))
  | [] => some []
  | k :: v :: r => if (keyD k).isSome then (pairUp r).map ((k, v) :: ·) else none
  | _ => none
def mkDict (ds : List D) : Option M := (pairUp ds).bind fun ps => if ps.length ≤ 15 then some (.dic (ps.foldl (fun acc p => putK p.1 p.2 acc) [])) else none
section
variable (sg : Sig) (cf : CallFn)
mutual
def eval : Ex → Rho → O M
  | .bad, _ => none
  | .cst d, ρ => some (.ok (.imm d) ρ)
  | .var i, ρ => copy ρ i
  | .fld i f, ρ => copyF ρ i f
  | .tfl a f, ρ => O.bind (eval a ρ) fun m ρ => match m with
    | .ins _ fs => ofM ρ (lookF fs f)
    | _ => none
  | .tup es, ρ => O.bind (evals es ρ) fun ds ρ => some (.ok (.imm (.tuple ds)) ρ)
  | .lst es, ρ => O.bind (evals es ρ) fun ds ρ => some (.ok (.lst ds) ρ)
  | .dct es, ρ => O.bind (evals es ρ) fun ds ρ => ofM ρ (mkDict ds)
  | .bin o a b, ρ => O.bind (opd a (eval a) ρ) fun t ρ => O.bind (opd b (eval b) ρ) fun u ρ => bop o t u ρ
  | .cmp o a b, ρ => O.bind (opd a (eval a) ρ) fun t ρ => O.bind (opd b (eval b) ρ) fun u ρ => ofB ρ (cop o t u ρ)
  | .chn o p a b c, ρ => O.bind (opd a (eval a) ρ) fun t ρ => O.bind (opd b (eval b) ρ) fun u ρ => match cop o t u ρ with
    | some true => O.bind (opd c (eval c) ρ) fun v ρ => ofB ρ (cop p u v ρ)
    | some false => some (.ok (.imm (.bool false)) ρ)
    | none => none
  | .and a b, ρ => O.bind (eval a ρ) fun m ρ => match truth m with
    | some true => eval b ρ
    | some false => some (.ok (.imm (.bool false)) ρ)
    | none => none
  | .or a b, ρ => O.bind (eval a ρ) fun m ρ => match truth m with
    | some true => some (.ok (.imm (.bool true)) ρ)
    | some false => eval b ρ
    | none => none
  | .not a, ρ => O.bind (eval a ρ) fun m ρ => ofB ρ ((truth m).map (!·))
  | .ite c a b, ρ => O.bind (eval c ρ) fun m ρ => match truth m with
    | some true => eval a ρ
    | some false => eval b ρ
    | none => none
  | .sub a b, ρ => O.bind (opd a (eval a) ρ) fun t ρ => O.bind (opd b (eval b) ρ) fun u ρ => ofD ρ ((t.look ρ).bind fun x => (u.look ρ).bind fun y => subD x y)
  | .slc a lo hi, ρ => O.bind (opd a (eval a) ρ) fun t ρ => O.bind (eval lo ρ) fun m ρ => match optInt lo m with
    | none => none
    | some i => O.bind (eval hi ρ) fun n ρ => match optInt hi n with
      | none => none
      | some j => ofM ρ ((t.look ρ).bind fun x => slcD x i j)
  | .prm p es, ρ => O.bind (opds es ρ) fun ts ρ => ofM ρ ((lookAll ρ ts).bind (prmD p))
  | .bmt p r es, ρ => O.bind (opd r (eval r) ρ) fun t ρ => match (t.look ρ).map tyD == some (recv p) with
    | true => O.bind (opds es ρ) fun ts ρ => ofM ρ ((lookAll ρ (t :: ts)).bind (prmD p))
    | false => none
  | .cal f es, ρ => O.bind (args (sg.inpl (.fn f)) 0 es ρ) fun ts ρ => callT cf (.fn f) ts ρ
  | .mth r m es, ρ => O.bind (opd r (eval r) ρ) fun t ρ => match clsOf ρ t with
    | none => none
    | some c => if sg.keys.contains (.mt c m) then O.bind (args (sg.inpl (.mt c m)) 1 es ρ) fun ts ρ => callT cf (.mt c m) (t :: ts) ρ else none
  | .new c es, ρ => O.bind (args [] 0 es ρ) fun ts ρ => match lend ρ ts with
    | none => none
    | some (ms, ρ1) => match cf (.mt c "__init__") (.ins c [] :: ms) with
      | some (.ret (.imm .none) (some m :: _)) => some (.ok m ρ1)
      | _ => none
  | .mut p i f es, ρ => match getP ρ i f with
    | some (.lst _) => O.bind (evals es ρ) fun ds ρ => (getP ρ i f).bind fun m => (mutD p m ds).bind fun q => (putP ρ i q.1 f).map fun ρ' => .ok (.imm q.2) ρ'
    | _ => none
  | .lcp e tg one it ifs, ρ => O.bind (iter it ρ) fun ds ρ1 => (lcpL (tests ifs) (eval e) tg one ds [] (wipe ρ1 tg)).map fun r => .ok (.lst r.1) (back ρ1 r.2 tg)
  | .isx a cs, ρ => O.bind (opd a (eval a) ρ) fun t ρ => ofB ρ ((xOf ρ t).map fun x => cs.any (subX x.cls))
  | .isn neg a, ρ => O.bind (opd a (eval a) ρ) fun t ρ => ofB ρ (isnB neg ρ t)
  | .lam w n caps cb, ρ => O.bind (copies ρ caps) fun ds ρ => (if n = ρ.length then match cf (.fn w) [.thk ds n caps cb] with
      | some (.ret m _) => (view m).map fun _ => .ok m ρ
      | _ => none
    else none)
  | .thc i, ρ => match getS ρ i with
    | some (.thk _ _ _ _) => callT cf .lm [.ref i none] ρ
    | _ => none
def evals : List Ex → Rho → O (List D)
  | [], ρ => some (.ok [] ρ)
  | e :: es, ρ => O.bind (eval e ρ) fun m ρ => match view m with
    | some d => O.bind (evals es ρ) fun ds ρ => some (.ok (d :: ds) ρ)
    | none => none
def opds : List Ex → Rho → O (List Tmp)
  | [], ρ => some (.ok [] ρ)
  | e :: es, ρ => O.bind (opd e (eval e) ρ) fun t ρ => O.bind (opds es ρ) fun ts ρ => some (.ok (t :: ts) ρ)
def args (rs : List Nat) (j : Nat) : List Ex → Rho → O (List Tmp)
  | [], ρ => some (.ok [] ρ)
  | e :: es, ρ => O.bind (arg (rs.contains j) e (eval e) ρ) fun t ρ => O.bind (args rs (j + 1) es ρ) fun ts ρ => some (.ok (t :: ts) ρ)
def tests : List Ex → Rho → O Bool
  | [], ρ => some (.ok true ρ)
  | e :: es, ρ => O.bind (oBool (eval e ρ)) fun b ρ => if b then tests es ρ else some (.ok false ρ)
def iter : It → Rho → O (List D)
  | .val e, ρ => O.bind (eval e ρ) fun m ρ => ((view m).bind itemsD).map fun ds => .ok ds ρ
  | .rng a, ρ => O.bind (eval a ρ) fun m ρ => (intOf m).bind fun j => if -(2 ^ 62) ≤ j ∧ j < 2 ^ 62 then some (.ok (rngL 0 j) ρ) else none
  | .rng2 a b, ρ => O.bind (eval a ρ) fun m ρ => O.bind (eval b ρ) fun n ρ => (intOf m).bind fun i => (intOf n).bind fun j => if -(2 ^ 62) ≤ i ∧ i < 2 ^ 62 ∧ -(2 ^ 62) ≤ j ∧ j < 2 ^ 62 then some (.ok (rngL i j) ρ) else none
  | .enm es, ρ => O.bind (evals es ρ) fun ds ρ => (enmD ds).map fun zs => .ok zs ρ
  | .zip es, ρ => O.bind (evals es ρ) fun ds ρ => (zipD ds).map fun zs => .ok zs ρ
end

/-! ### statements -/
def whlL (c : Rho → O Bool) (b : Rho → Option Out) : Nat → Rho → Option Out
  | 0, _ => none
  | n + 1, ρ => match c ρ with
    | none => none
    | some (.exc x ρ) => some (.ex x ρ)
    | some (.ok false ρ) => some (.nx ρ)
    | some (.ok true ρ) => match b ρ with
      | none => none
      | some (.nx ρ) => whlL c b n ρ
      | some (.ct ρ) => whlL c b n ρ
      | some (.br ρ) => some (.nx ρ)
      | some (.rt m ρ) => some (.rt m ρ)
      | some (.ex x ρ) => some (.ex x ρ)
def forL (b : Rho → Option Out) (tg : List Nat) (one : Bool) : List D → Rho → Option Out
  | [], ρ => some (.nx ρ)
  | d :: ds, ρ => match bindT tg one d ρ with
    | none => none
    | some ρ => match b ρ with
      | none => none
      | some (.nx ρ) => forL b tg one ds ρ
      | some (.ct ρ) => forL b tg one ds ρ
      | some (.br ρ) => some (.nx ρ)
      | some (.rt m ρ) => some (.rt m ρ)
      | some (.ex x ρ) => some (.ex x ρ)
@[simp] def Out.ofO {α : Type} (x : O α) (f : α → Rho → Option Out) : Option Out :=
  match x with
  | none => none
  | some (.exc e ρ) => some (.ex e ρ)
  | some (.ok a ρ) => f a ρ
@[simp] def Out.seq (x : Option Out) (f : Rho → Option Out) : Option Out :=
  match x with
  | some (.nx ρ) => f ρ
  | o => o
/-- x[k] = v of an own list or dict -/
def setD (m : M) (k v : D) : Option M := match m, k with
  | .lst xs, .int i => (L2.ixN xs.length i).map fun j => .lst (xs.set j v)
  | .dic kvs, k => if (keyD k).isSome ∧ (kvs.length < line) then some (.dic (putK k v kvs)) else none
  | _, _ => none
/-- fields that may be set: those that hold no own thing -/
def setFld (ρ : Rho) (i f : Nat) (m : M) : Option Rho := match getS ρ i with
  | some (.ins c fs) => if fs.length < 1000 then (match lookF fs f with
    | none => some (putS ρ i (.ins c (setF f m fs)))
    | some (.imm d) => if noBox d then some (putS ρ i (.ins c (setF f m fs))) else none
    | _ => none) else none
  | _ => none
/-- op= of a name's thing -/
def augD (o : Bop) (m : M) (d : D) : Option M := match o, m, d with
  | .add, .imm (.int i), .int j => some (.imm (.int (i + j)))
  | .sub, .imm (.int i), .int j => some (.imm (.int (i - j)))
  | _, _, _ => none
/-- an except clause: i is its name's slot -/
def gone (ρ : Rho) : Option Nat → Rho
  | none => ρ
  | some i => ρ.set i none
def hdl (pr : List Nat) (i : Option Nat) (h : Hd) (x : XV) (ρ : Rho) : Option Out :=
  if i.any (fun i => pr.contains i || decide (ρ.length ≤ i)) then none else match h with
    | .keep j => if pr.contains j || i == some j || i.isNone then none else some (.nx (gone (putS ρ j (.exc x)) i))
    | .set j d => if pr.contains j || i == some j then none else some (.nx (gone (putS ρ j (.imm d)) i))
    | .ret d => some (.rt (.imm d) (gone ρ i))
variable (pr : List Nat) (fu : Nat)
mutual
def exec : Sm → Rho → Option Out
  | .asg i e, ρ => if pr.contains i then none else Out.ofO (eval sg cf e ρ) fun m ρ => some (.nx (putS ρ i m))
  | .mov i j, ρ => if pr.contains i || pr.contains j then none else (getS ρ j).map fun m => .nx (putS (ρ.set j none) i m)
  | .unp is e, ρ => if is.any pr.contains then none else Out.ofO (eval sg cf e ρ) fun m ρ => (view m).bind fun d => (bindT is false d ρ).map .nx
  | .par i j a b, ρ => if pr.contains i || pr.contains j then none else Out.ofO (evals sg cf [a, b] ρ) fun ds ρ => match ds with
    | [x, y] => some (.nx (putS (putS ρ i (.imm x)) j (.imm y)))
    | _ => none
  | .par3 i j l a b c, ρ => if pr.contains i || (pr.contains j || pr.contains l) then none else Out.ofO (evals sg cf [a, b, c] ρ) fun ds ρ => match ds with
    | [x, y, z] => some (.nx (putS (putS (putS ρ i (.imm x)) j (.imm y)) l (.imm z)))
    | _ => none
  | .sub i f k e, ρ => Out.ofO (eval sg cf e ρ) fun m ρ => match view m, getP ρ i f with
    | some v, some (.lst _) => Out.ofO (eval sg cf k ρ) fun n ρ => (match view n, getP ρ i f with
      | some q, some c => (setD c q v).bind fun c' => (putP ρ i c' f).map .nx
      | _, _ => none)
    | some v, some (.dic _) => Out.ofO (eval sg cf k ρ) fun n ρ => (match view n, getP ρ i f with
      | some q, some c => (setD c q v).bind fun c' => (putP ρ i c' f).map .nx
      | _, _ => none)
    | _, _ => none
  | .fld i f e, ρ => Out.ofO (eval sg cf e ρ) fun m ρ => (setFld ρ i f m).map .nx
  | .exp e, ρ => Out.ofO (eval sg cf e ρ) fun _ ρ => some (.nx ρ)
  | .ret e, ρ => (match e with
    | .var i => if pr.contains i then Out.ofO (eval sg cf e ρ) fun m ρ => some (.rt m ρ) else (getS ρ i).map fun m => .rt m (ρ.set i none)
    | _ => Out.ofO (eval sg cf e ρ) fun m ρ => some (.rt m ρ))
  | .ite c a b, ρ => Out.ofO (oBool (eval sg cf c ρ)) fun t ρ => if t then execs a ρ else execs b ρ
  | .fo tg one it b, ρ => if tg.any pr.contains then none else Out.ofO (iter sg cf it ρ) fun ds ρ => forL (execs b) tg one ds ρ
  | .whl c b, ρ => whlL (fun ρ => oBool (eval sg cf c ρ)) (execs b) fu ρ
  | .brk, ρ => some (.br ρ)
  | .cnt, ρ => some (.ct ρ)
  | .pas, ρ => some (.nx ρ)
  | .aug i o e, ρ => if pr.contains i || (getS ρ i).isNone then none else Out.ofO (eval sg cf e ρ) fun m ρ => match view m, getS ρ i with
    | some d, some c => (augD o c d).map fun c' => .nx (putS ρ i c')
    | _, _ => none
  | .rse c own e, ρ => Out.ofO (eval sg cf e ρ) fun m ρ => (view m).bind fun d => if isFlat d then some (.ex ⟨c, if own then d else .none⟩ ρ) else none
  | .tr b c i h, ρ => match execs b ρ with
    | some (.ex x ρ1) => if subX x.cls c then hdl pr i h x ρ1 else some (.ex x ρ1)
    | o => o
  | .bad, _ => none
def execs : List Sm → Rho → Option Out
  | [], ρ => some (.nx ρ)
  | s :: r, ρ => Out.seq (exec s ρ) (execs r)
end
end
/-! ### defs -/
/-- a def: how many slots, how many parameters, its body -/
structure Fn where
  n : Nat
  ps : Nat
  body : List Sm
def keepP (rs : List Nat) (ρ : Rho) (n : Nat) : List (Option M) := (List.range n).map fun j => if rs.contains j then getS ρ j else none
/-- a call: the parameters' slots filled, the body run -/
def callF (sg : Sig) (cf : CallFn) (fu : Nat) (rs : List Nat) (d : Fn) (ms : List M) : Option CRes :=
  if ms.length = d.ps ∧ d.ps ≤ d.n then
    match execs sg cf rs fu d.body (ms.map some ++ List.replicate (d.n - d.ps) none) with
    | some (.nx ρ) => some (.ret (.imm .none) (keepP rs ρ d.ps))
    | some (.rt m ρ) => some (.ret m (keepP rs ρ d.ps))
    | some (.ex x ρ) => some (.exc x (keepP rs ρ d.ps))
    | _ => none
  else none
/-- all defs, to the depth k -/
def callN (sg : Sig) (tab : FK → Option Fn) (fu : Nat) : Nat → CallFn
  | 0, _, _ => none
  | k + 1, .lm, ms => match ms with
    | [.thk ds n caps cb] => (match eval sg (callN sg tab fu k) cb (capR n caps ds) with
      | some (.ok m _) => some (.ret m [some (.thk ds n caps cb)])
      | some (.exc x _) => some (.exc x [some (.thk ds n caps cb)])
      | none => none)
    | _ => none
  | k + 1, key, ms => match tab key with
    | none => none
    | some d => callF sg (callN sg tab fu k) fu (sg.inpl key) d ms
end Iv
set_option linter.all false
set_option maxRecDepth 100000
/-! Iv2: trees and the heap: RD, RM (what stands for a tree), Live (trees that stand apart), Sta (slots and a rest). -/
namespace Iv
open PySem L2
/-- what never changes by itself -/
def stays : HO → Prop
  | .tup _ => True
  | .frz _ _ => True
  | .xd _ => True
  | .ext _ => True
  | .tbl _ => True
  | _ => False
def fixd : HO → Prop
  | .tup _ => True
  | .frz _ _ => True
  | .xd _ => True
  | .ext _ => True
  | _ => False
theorem fixd.st {o : HO} (h : fixd o) : stays o := by cases o <;> first | exact h | trivial
def Kp (Z : Addr → Prop) (H H' : Hp) : Prop := ∀ a o, H a = some o → (Z a ∨ fixd o) → H' a = some o
/-- a lambda that was handed to a def: its function, its code, its name, the captured values -/
structure Th where
  f : Addr
  c : Addr
  q : Str
  vs : List V
  n : Nat
  caps : List Nat
  cb : Ex
/-- the module as the top left it -/
structure Flds where
  fl : List Str
  nd : fl.Nodup
  /-- own exception classes -/
  xs : List String
  /-- tables of code objects -/
  tabs : List (Addr × Str)
  th : Option Th
structure Mo where
  K : PySem.W.Frag
  P : Program
  w : World
  T : Flds
/-- a dict of the module's own -/
def KD (B : Mo) (a : Addr) (kvs : List (Key × V)) : Prop := (a == sysModules) = false ∧ kvs.length ≤ sizeLine ∧ ∃ vs, KV kvs vs ∧ ∀ h : Heap, B.K.In h → h.DictOf (mixKind B.P B.w) a vs
/-- a list of the module's own -/
def KL (K : PySem.W.Frag) (a : Addr) (xs : List V) : Prop := ∃ (its : List Value) (n : Nat), K.lookup a = some { cls := .type "list", data := .seq its.toArray n } ∧ xs.length ≤ sizeLine ∧ Vals xs its
theorem KL.sq {K : PySem.W.Frag} {H : Hp} {a : Addr} {xs : List V} (h : KL K a xs) : SqL K H a xs := by
  obtain ⟨its, n, e, z, r⟩ := h
  exact .inr ⟨_, its.toArray, n, e, rfl, rfl, rfl, by rw [List.size_toArray, ← r.length]; exact z, by simpa using r⟩
section
variable (B : Mo)
mutual
inductive RD (Z : Addr → Prop) (H : Hp) : D → V → Prop
  | non : RD Z H .none .non
  | bl (b : Bool) : RD Z H (.bool b) (.bl b)
  | int (i : Int) : RD Z H (.int i) (.int i)
  | str (x : Str) : RD Z H (.str x) (.str x)
  | tup {a : Addr} {vs : List V} {ds : List D} : SqT B.K H a vs → (two ds = false → PlT B.K H a) → RDs Z H ds vs → RD Z H (.tuple ds) (.ref a)
  | lst {a : Addr} {vs : List V} {ds : List D} : Z a → Rd H a (.lst vs) → RDs Z H ds vs → RD Z H (.list ds) (.ref a)
  | dic {a : Addr} {kvs : List (Key × V)} {ps : List (D × D)} : Z a → Rd H a (.dK kvs) → RKs Z H ps kvs → RD Z H (.dict ps) (.ref a)
  | klst {a : Addr} {vs : List V} {ds : List D} : KL B.K a vs → RDs Z H ds vs → RD Z H (.list ds) (.ref a)
  | kdic {a : Addr} {kvs : List (Key × V)} {ps : List (D × D)} : KD B a kvs → (B.K.lookup a).isSome = true → RKs Z H ps kvs → RD Z H (.dict ps) (.ref a)
inductive RDs (Z : Addr → Prop) (H : Hp) : List D → List V → Prop
  | nil : RDs Z H [] []
  | cons {d : D} {v : V} {ds : List D} {vs : List V} : RD Z H d v → RDs Z H ds vs → RDs Z H (d :: ds) (v :: vs)
inductive RKs (Z : Addr → Prop) (H : Hp) : List (D × D) → List (Key × V) → Prop
  | nil : RKs Z H [] []
  | cons {k d : D} {q : Key} {v : V} {ps : List (D × D)} {kvs : List (Key × V)} : keyD k = some q → RD Z H d v → RKs Z H ps kvs → RKs Z H ((k, d) :: ps) ((q, v) :: kvs)
end
/-- an exception's object: its class, its dict -/
def ExK (cls : Value) (d : Option Addr) (a : Addr) : HO := .ext fun h => ∃ (oe : Obj) (vs : Array Value), h.get? a = some oe ∧ Zc cls d oe ∧ oe.data = .fields vs
inductive FlV : D → V → Prop
  | non : FlV .none .non
  | bl (b : Bool) : FlV (.bool b) (.bl b)
  | int (i : Int) : FlV (.int i) (.int i)
  | str (x : Str) : FlV (.str x) (.str x)
/-- the exception x is of the class cls, its dict at d -/
structure RX (x : XV) (cls : Value) (d : Option Addr) (H : Hp) : Prop where
  mem : x.cls ∈ B.T.xs
  cls : cls = .ref (He.ga B.K (Str.ofString x.cls))
  fld : (d = none ∧ x.fld = .none) ∨ ∃ (dd : Addr) (f : Str) (v : V), d = some dd ∧ H dd = some (.xd [(f, v)]) ∧ FlV x.fld v
mutual
inductive RM (Z : Addr → Prop) (H : Hp) : M → V → List Addr → Prop
  | imm {d : D} {v : V} : RD B Z H d v → RM Z H (.imm d) v []
  | lst {a : Addr} {vs : List V} {ds : List D} : H a = some (.lst vs) → RDs B Z H ds vs → RM Z H (.lst ds) (.ref a) [a]
  | dic {a : Addr} {kvs : List (Key × V)} {ps : List (D × D)} : H a = some (.dK kvs) → RKs B Z H ps kvs → RM Z H (.dic ps) (.ref a) [a]
  | ins {a C dx : Addr} {c : String} {fvs : List (Str × V)} {fs : List (Nat × M)} {fp : List Addr} : H a = some (.ins C dx fvs) → (C = He.ga B.K (Str.ofString c) ∧ Cls B.K C ∧ ∀ x ∈ B.T.fl, NoAttr B.K C x) → RF Z H fs fvs fp → RM Z H (.ins c fs) (.ref a) (a :: fp)
  | exc {a : Addr} {x : XV} {cls : Value} {d : Option Addr} : H a = some (ExK cls d a) → RX B x cls d H → RM Z H (.exc x) (.ref a) []
  | thk {t : Th} {ds : List D} : B.T.th = some t → RDs B Z H ds t.vs → H t.c = some (LamX.CodeO t.c t.q) → RM Z H (.thk ds t.n t.caps t.cb) (.ref t.f) []
inductive RF (Z : Addr → Prop) (H : Hp) : List (Nat × M) → List (Str × V) → List Addr → Prop
  | nil : RF Z H [] [] []
  | cons {f : Nat} {x : Str} {m : M} {v : V} {fs : List (Nat × M)} {fvs : List (Str × V)} {fp fq : List Addr} : B.T.fl[f]? = some x → RM Z H m v fp → RF Z H fs fvs fq → RF Z H ((f, m) :: fs) ((x, v) :: fvs) (fp ++ fq)
end
inductive RMs (Z : Addr → Prop) (H : Hp) : List (M × V) → List Addr → Prop
  | nil : RMs Z H [] []
  | cons {m : M} {v : V} {l : List (M × V)} {fp fq : List Addr} : RM B Z H m v fp → RMs Z H l fq → RMs Z H ((m, v) :: l) (fp ++ fq)
/-- what is frozen stands and is no table; the tables -/
structure ZT (Z : Addr → Prop) (H : Hp) : Prop where
  at_ : ∀ a, Z a → ∃ o, H a = some o ∧ ∀ ps, o ≠ .tbl ps
  tb : LamX.Tabs B.T.tabs H
/-- the state of the trees by Z (what is frozen) and fp (what is owned) -/
structure Lv (Z : Addr → Prop) (H : Hp) (l : List (M × V)) (fp : List Addr) : Prop where
  rep : RMs B Z H l fp
  nd : fp.Nodup
  nz : ∀ a ∈ fp, ¬ Z a
  zs : ZT B Z H
def Live (H : Hp) (l : List (M × V)) : Prop := ∃ Z fp, Lv B Z H l fp
end
section
variable {B : Mo} {Z Z' : Addr → Prop} {H H' : Hp}
theorem ZT.ext (h : ZT B Z H) (k : ∀ b o, H b = some o → H' b = some o) : ZT B Z H' := ⟨fun a z => by
  obtain ⟨o, e, n⟩ := h.at_ a z
  exact ⟨o, k a o e, n⟩, h.tb.ext k⟩
theorem ZT.put {b : Addr} {o o' : HO} (h : ZT B Z H) (ho : H b = some o) (hs : ¬ stays o) (hz : ¬ Z b) : ZT B Z (upd H b o') := by
  refine ⟨fun a z => ?_, fun p hp => ?_⟩
  · obtain ⟨u, e, n⟩ := h.at_ a z
    have hne : a ≠ b := fun q => hz (q ▸ z)
    exact ⟨u, by rw [upd_ne hne]; exact e, n⟩
  · obtain ⟨ps, e1, e2, e3⟩ := h.tb p hp
    have hne : p.1 ≠ b := fun q => by
      rw [q, ho] at e1
      cases e1
      exact hs trivial
    refine ⟨ps, by rw [upd_ne hne]; exact e1, e2, fun pos cv hc => ?_⟩
    obtain ⟨c, e4, e5⟩ := e3 pos cv hc
    have hnc : c ≠ b := fun q => by
      rw [q, ho] at e5
      unfold LamX.CodeO at e5
      cases e5
      exact hs trivial
    exact ⟨c, e4, by rw [upd_ne hnc]; exact e5⟩
theorem Kp.rd {u : HO} {a : Addr} (k : Kp Z H H') (h : Rd H a u) (z : Z a ∨ fixd u) : Rd H' a u := by
  rcases h with h | ⟨o, h⟩
  · exact .inl (k a _ h z)
  · exact .inr ⟨o, k a _ h (.inr trivial)⟩
theorem Kp.sqT {a : Addr} {vs : List V} (k : Kp Z H H') (h : SqT B.K H a vs) : SqT B.K H' a vs := by
  rcases h with h | h
  · exact .inl (k.rd h (.inr trivial))
  · exact .inr h
theorem Kp.plT {a : Addr} (k : Kp Z H H') (h : PlT B.K H a) : PlT B.K H' a := by
  rcases h with ⟨o, u, hd, h⟩ | h
  · exact .inl ⟨o, u, hd, k a _ h (.inr trivial)⟩
  · exact .inr h
mutual
theorem RD.keep (k : Kp Z H H') (zz : ∀ a, Z a → Z' a) : ∀ {d : D} {v : V}, RD B Z H d v → RD B Z' H' d v
  | _, _, .non => .non
  | _, _, .bl b => .bl b
  | _, _, .int i => .int i
  | _, _, .str x => .str x
  | _, _, .tup h p r => .tup (k.sqT h) (fun n => k.plT (p n)) (RDs.keep k zz r)
  | _, _, .lst z h r => .lst (zz _ z) (k.rd h (.inl z)) (RDs.keep k zz r)
  | _, _, .dic z h r => .dic (zz _ z) (k.rd h (.inl z)) (RKs.keep k zz r)
  | _, _, .klst h r => .klst h (RDs.keep k zz r)
  | _, _, .kdic h o r => .kdic h o (RKs.keep k zz r)
theorem RDs.keep (k : Kp Z H H') (zz : ∀ a, Z a → Z' a) : ∀ {ds : List D} {vs : List V}, RDs B Z H ds vs → RDs B Z' H' ds vs
  | _, _, .nil => .nil
  | _, _, .cons r rs => .cons (RD.keep k zz r) (RDs.keep k zz rs)
theorem RKs.keep (k : Kp Z H H') (zz : ∀ a, Z a → Z' a) : ∀ {ds : List (D × D)} {vs : List (Key × V)}, RKs B Z H ds vs → RKs B Z' H' ds vs
  | _, _, .nil => .nil
  | _, _, .cons e r rs => .cons e (RD.keep k zz r) (RKs.keep k zz rs)
end
theorem RX.keep {x : XV} {cls : Value} {d : Option Addr} (k : Kp Z H H') (h : RX B x cls d H) : RX B x cls d H' := by
  refine ⟨h.mem, h.cls, ?_⟩
  rcases h.fld with q | ⟨dd, f, v, e, q, r⟩
  · exact .inl q
  · exact .inr ⟨dd, f, v, e, k _ _ q (.inr trivial), r⟩
mutual
theorem RM.keep (k : Kp Z H H') (zz : ∀ a, Z a → Z' a) : ∀ {m : M} {v : V} {fp : List Addr}, RM B Z H m v fp → (∀ a ∈ fp, H' a = H a) → RM B Z' H' m v fp
  | _, _, _, .imm r, _ => .imm (r.keep k zz)
  | _, _, _, .lst h r, q => .lst ((q _ (by simp)).trans h) (r.keep k zz)
  | _, _, _, .dic h r, q => .dic ((q _ (by simp)).trans h) (r.keep k zz)
  | _, _, _, .ins h c r, q => .ins ((q _ (by simp)).trans h) c (RF.keep k zz r fun a ha => q a (List.mem_cons_of_mem _ ha))
  | _, _, _, .exc h r, _ => .exc (k _ _ h (.inr trivial)) (r.keep k)
  | _, _, _, .thk t r h, _ => .thk t (r.keep k zz) (k _ _ h (.inr trivial))
theorem RF.keep (k : Kp Z H H') (zz : ∀ a, Z a → Z' a) : ∀ {fs : List (Nat × M)} {fvs : List (Str × V)} {fp : List Addr}, RF B Z H fs fvs fp → (∀ a ∈ fp, H' a = H a) → RF B Z' H' fs fvs fp
  | _, _, _, .nil, _ => .nil
  | _, _, _, .cons e r rs, q => .cons e (RM.keep k zz r fun a ha => q a (List.mem_append_left _ ha)) (RF.keep k zz rs fun a ha => q a (List.mem_append_right _ ha))
end
theorem RMs.keep (k : Kp Z H H') (zz : ∀ a, Z a → Z' a) : ∀ {l : List (M × V)} {fp : List Addr}, RMs B Z H l fp → (∀ a ∈ fp, H' a = H a) → RMs B Z' H' l fp
  | _, _, .nil, _ => .nil
  | _, _, .cons r rs, q => .cons (r.keep k zz fun a ha => q a (List.mem_append_left _ ha)) (RMs.keep k zz rs fun a ha => q a (List.mem_append_right _ ha))
/-- what is owned stands -/
theorem RDs.length : ∀ {ds : List D} {vs : List V}, RDs B Z H ds vs → ds.length = vs.length
  | _, _, .nil => rfl
  | _, _, .cons _ rs => by simp [RDs.length rs]
mutual
theorem RM.own : ∀ {m : M} {v : V} {fp : List Addr}, RM B Z H m v fp → ∀ a ∈ fp, ∃ o, H a = some o ∧ ¬ stays o
  | _, _, _, .imm _, a, ha => by simp at ha
  | _, _, _, .exc _ _, a, ha => by simp at ha
  | _, _, _, .thk _ _ _, a, ha => by simp at ha
  | _, _, _, .lst h _, a, ha => by simp at ha; subst ha; exact ⟨_, h, fun z => z⟩
  | _, _, _, .dic h _, a, ha => by simp at ha; subst ha; exact ⟨_, h, fun z => z⟩
  | _, _, _, .ins h _ r, a, ha => by
    rcases List.mem_cons.mp ha with rfl | ha
    · exact ⟨_, h, fun z => z⟩
    · exact RF.own r a ha
theorem RF.own : ∀ {fs : List (Nat × M)} {fvs : List (Str × V)} {fp : List Addr}, RF B Z H fs fvs fp → ∀ a ∈ fp, ∃ o, H a = some o ∧ ¬ stays o
  | _, _, _, .nil, a, ha => by simp at ha
  | _, _, _, .cons _ r rs, a, ha => by
    rcases List.mem_append.mp ha with ha | ha
    · exact RM.own r a ha
    · exact RF.own rs a ha
end
theorem RMs.own : ∀ {l : List (M × V)} {fp : List Addr}, RMs B Z H l fp → ∀ a ∈ fp, ∃ o, H a = some o ∧ ¬ stays o
  | _, _, .nil, a, ha => by simp at ha
  | _, _, .cons r rs, a, ha => by
    rcases List.mem_append.mp ha with ha | ha
    · exact r.own a ha
    · exact RMs.own rs a ha
theorem RMs.perm {l l' : List (M × V)} (p : l.Perm l') : ∀ {fp : List Addr}, RMs B Z H l fp → ∃ fq, RMs B Z H l' fq ∧ fp.Perm fq := by
  induction p with
  | nil => intro fp r; exact ⟨fp, r, .refl _⟩
  | cons x _ ih =>
    intro fp r
    cases r with
    | cons r rs =>
      obtain ⟨fq, rq, pq⟩ := ih rs
      exact ⟨_, .cons r rq, pq.append_left _⟩
  | swap x y l =>
    intro fp r
    cases r with
    | cons r rs =>
      cases rs with
      | cons r2 rs =>
        refine ⟨_, .cons r2 (.cons r rs), ?_⟩
        rw [← List.append_assoc, ← List.append_assoc]
        exact List.perm_append_comm.append_right _
  | trans _ _ ih1 ih2 =>
    intro fp r
    obtain ⟨fq, r1, p1⟩ := ih1 r
    obtain ⟨fr, r2, p2⟩ := ih2 r1
    exact ⟨fr, r2, p1.trans p2⟩
theorem Lv.perm {l l' : List (M × V)} {fp : List Addr} (h : Lv B Z H l fp) (p : l.Perm l') : ∃ fq, Lv B Z H l' fq := by
  obtain ⟨fq, r, q⟩ := h.rep.perm p
  exact ⟨fq, r, q.nodup_iff.mp h.nd, fun a ha => h.nz a (q.mem_iff.mpr ha), h.zs⟩
theorem Live.perm {l l' : List (M × V)} (h : Live B H l) (p : l.Perm l') : Live B H l' := by
  obtain ⟨Z, fp, h⟩ := h
  obtain ⟨fq, h'⟩ := h.perm p
  exact ⟨Z, fq, h'⟩
theorem Lv.drop {x : M × V} {l : List (M × V)} {fp : List Addr} (h : Lv B Z H (x :: l) fp) : ∃ fq, Lv B Z H l fq := by
  obtain ⟨r, nd, nz, zs⟩ := h
  cases r with
  | cons r rs => exact ⟨_, rs, (List.nodup_append.mp nd).2.1, fun a ha => nz a (List.mem_append_right _ ha), zs⟩
theorem Live.drop {x : M × V} {l : List (M × V)} (h : Live B H (x :: l)) : Live B H l := by
  obtain ⟨Z, fp, h⟩ := h
  obtain ⟨fq, h'⟩ := h.drop
  exact ⟨Z, fq, h'⟩
theorem Live.drops {l : List (M × V)} : ∀ {r : List (M × V)}, Live B H (r ++ l) → Live B H l
  | [], h => h
  | _ :: r, h => Live.drops (r := r) h.drop
/-- a value more that stands by itself: what was there is kept, what it owns is new -/
theorem Lv.add {l : List (M × V)} {fp fq : List Addr} {m : M} {v : V} (h : Lv B Z H l fp) (ext : ∀ b o, H b = some o → H' b = some o) (r : RM B Z H' m v fq) (nd : fq.Nodup) (new : ∀ a ∈ fq, H a = none) : Lv B Z H' ((m, v) :: l) (fq ++ fp) := by
  have own : ∀ a ∈ fp, H' a = H a := fun a ha => by
    obtain ⟨o, e, _⟩ := h.rep.own a ha
    rw [e]; exact ext a o e
  refine ⟨.cons r (h.rep.keep (fun a o e _ => ext a o e) (fun _ z => z) own), ?_, fun a ha => ?_, h.zs.ext ext⟩
  · refine List.nodup_append.mpr ⟨nd, h.nd, fun a ha b hb e => ?_⟩
    subst e
    obtain ⟨o, e, _⟩ := h.rep.own a hb
    rw [new a ha] at e; cases e
  · rcases List.mem_append.mp ha with ha | ha
    · intro z
      obtain ⟨o, e, _⟩ := h.zs.at_ a z
      rw [new a ha] at e; cases e
    · exact h.nz a ha
/-- the head is frozen -/
theorem view_rd {m : M} {v : V} {fp : List Addr} {d : D} (r : RM B Z H m v fp) (e : view m = some d) : RD B (fun a => Z a ∨ a ∈ fp) H d v := by
  have k : Kp Z H H := fun _ _ h _ => h
  cases r with
  | imm r => cases e; exact r.keep k fun a z => .inl z
  | lst h r => cases e; exact .lst (.inr (by simp)) (.inl h) (r.keep k fun a z => .inl z)
  | dic h r => cases e; exact .dic (.inr (by simp)) (.inl h) (r.keep k fun a z => .inl z)
  | ins h c r => cases e
  | exc h r => cases e
  | thk t r h => cases e
theorem Lv.freeze {l : List (M × V)} {fp : List Addr} {m : M} {v : V} {d : D} (h : Lv B Z H ((m, v) :: l) fp) (e : view m = some d) : ∃ Z' fq, Lv B Z' H ((.imm d, v) :: l) fq := by
  obtain ⟨r, nd, nz, zs⟩ := h
  cases r with
  | @cons _ _ _ fp fq r rs =>
    obtain ⟨n1, n2, n3⟩ := List.nodup_append.mp nd
    refine ⟨fun a => Z a ∨ a ∈ fp, [] ++ fq, .cons (.imm (view_rd r e)) (rs.keep (fun _ _ h _ => h) (fun a z => .inl z) fun _ _ => rfl), n2, fun a ha z => ?_, ⟨fun a z => ?_, zs.tb⟩⟩
    · rcases z with z | z
      · exact nz a (List.mem_append_right _ ha) z
      · exact n3 a z a ha rfl
    · rcases z with z | z
      · exact zs.at_ a z
      · obtain ⟨o, e, n⟩ := r.own a z
        exact ⟨o, e, fun ps q => n (by rw [q]; trivial)⟩
theorem Live.freeze {l : List (M × V)} {m : M} {v : V} {d : D} (h : Live B H ((m, v) :: l)) (e : view m = some d) : Live B H ((.imm d, v) :: l) := by
  obtain ⟨Z, fp, h⟩ := h
  obtain ⟨Z', fq, h'⟩ := h.freeze e
  exact ⟨Z', fq, h'⟩
theorem Live.dup {l : List (M × V)} {d : D} {v : V} (h : Live B H ((.imm d, v) :: l)) : Live B H ((.imm d, v) :: (.imm d, v) :: l) := by
  obtain ⟨Z, fp, r, nd, nz, zs⟩ := h
  cases r with
  | cons r rs =>
    cases r with
    | imm r => exact ⟨Z, _, .cons (.imm r) (.cons (.imm r) rs), nd, nz, zs⟩
end
theorem Live.dupX {B : Mo} {H : Hp} {l : List (M × V)} {x : XV} {v : V} (h : Live B H ((.exc x, v) :: l)) : Live B H ((.exc x, v) :: (.exc x, v) :: l) := by
  obtain ⟨Z, fp, r, nd, nz, zs⟩ := h
  cases r with
  | cons r rs =>
    cases r with
    | exc h r => exact ⟨Z, _, .cons (.exc h r) (.cons (.exc h r) rs), nd, nz, zs⟩
/-! ### slots -/
inductive EnvR : Rho → St → List (M × V) → Prop
  | nil : EnvR [] [] []
  | none {ρ : Rho} {x : Option V} {σ : St} {l : List (M × V)} : EnvR ρ σ l → EnvR (none :: ρ) (x :: σ) l
  | some {m : M} {v : V} {ρ : Rho} {σ : St} {l : List (M × V)} : EnvR ρ σ l → EnvR (some m :: ρ) (some v :: σ) ((m, v) :: l)
theorem EnvR.length : ∀ {ρ : Rho} {σ : St} {l : List (M × V)}, EnvR ρ σ l → ρ.length = σ.length
  | _, _, _, .nil => rfl
  | _, _, _, .none r => by simp [EnvR.length r]
  | _, _, _, .some r => by simp [EnvR.length r]
/-- a slot's thing taken out -/
theorem EnvR.take : ∀ {ρ : Rho} {σ : St} {l : List (M × V)} {i : Nat} {m : M}, EnvR ρ σ l → getS ρ i = Option.some m →
    ∃ v l', σ[i]? = Option.some (Option.some v) ∧ EnvR (ρ.set i Option.none) σ l' ∧ l.Perm ((m, v) :: l')
  | _, _, _, i, m, .nil, e => by simp [getS] at e
  | _, _, _, 0, m, .none r, e => by simp [getS] at e
  | _, _, _, 0, m, .some r, e => by
    simp [getS] at e; subst e
    exact ⟨_, _, rfl, .none r, .refl _⟩
  | _, _, _, i + 1, m, .none r, e => by
    obtain ⟨v, l', h1, h2, h3⟩ := EnvR.take (i := i) (m := m) r (by simpa [getS] using e)
    exact ⟨v, l', by simpa using h1, .none h2, h3⟩
  | _, _, _, i + 1, m, .some r, e => by
    obtain ⟨v, l', h1, h2, h3⟩ := EnvR.take (i := i) (m := m) r (by simpa [getS] using e)
    exact ⟨v, _, by simpa using h1, .some h2, (h3.cons _).trans (.swap ..)⟩
/-- a slot emptied -/
theorem EnvR.clear : ∀ {ρ : Rho} {σ : St} {l : List (M × V)} (i : Nat), EnvR ρ σ l → ∃ r l', EnvR (ρ.set i Option.none) σ l' ∧ l.Perm (r ++ l')
  | _, _, _, i, .nil => ⟨[], [], .nil, .refl _⟩
  | _, _, _, 0, .none r => ⟨[], _, .none r, .refl _⟩
  | _, _, _, 0, .some r => ⟨[_], _, .none r, .refl _⟩
  | _, _, _, i + 1, .none r => by
    obtain ⟨q, l', h2, h3⟩ := EnvR.clear i r
    exact ⟨q, l', .none h2, h3⟩
  | _, _, _, i + 1, .some r => by
    obtain ⟨q, l', h2, h3⟩ := EnvR.clear i r
    exact ⟨q, _, .some h2, (h3.cons _).trans List.perm_middle.symm⟩
/-- a slot filled -/
theorem EnvR.fill : ∀ {ρ : Rho} {σ : St} {l : List (M × V)} {i : Nat} (m : M) (v : V), EnvR ρ σ l → getS ρ i = Option.none → i < ρ.length → ∃ l', EnvR (ρ.set i (Option.some m)) (σ.set i (Option.some v)) l' ∧ ((m, v) :: l).Perm l'
  | _, _, _, i, m, v, .nil, e, h => by simp at h
  | _, _, _, 0, m, v, .none r, e, h => ⟨_, .some r, .refl _⟩
  | _, _, _, 0, m, v, .some r, e, h => by simp [getS] at e
  | _, _, _, i + 1, m, v, .none r, e, h => by
    obtain ⟨l', h2, h3⟩ := EnvR.fill (i := i) m v r (by simpa [getS] using e) (by simpa using h)
    exact ⟨l', .none h2, h3⟩
  | _, _, _, i + 1, m, v, .some r, e, h => by
    obtain ⟨l', h2, h3⟩ := EnvR.fill (i := i) m v r (by simpa [getS] using e) (by simpa using h)
    exact ⟨_, .some h2, (List.Perm.swap ..).trans (h3.cons _)⟩
theorem getS_clear (ρ : Rho) (i : Nat) : getS (ρ.set i none) i = none := by
  unfold getS
  by_cases h : i < ρ.length
  · rw [List.getElem?_set_self h]; rfl
  · rw [List.getElem?_eq_none (by simpa using h)]; rfl
theorem set_same {σ : St} {i : Nat} {v : V} (h : σ[i]? = some (some v)) : σ.set i (some v) = σ := by
  obtain ⟨hi, e⟩ := List.getElem?_eq_some_iff.mp h
  rw [← e]; exact List.set_getElem_self hi
/-- slots and a rest -/
def Sta (B : Mo) (ρ : Rho) (σ : St) (H : Hp) (fr : List (M × V)) : Prop := ∃ l, EnvR ρ σ l ∧ Live B H (l ++ fr)
section
variable {B : Mo} {ρ : Rho} {σ : St} {H H' : Hp} {fr : List (M × V)} {i : Nat} {m : M} {v : V}
theorem Sta.take (h : Sta B ρ σ H fr) (e : getS ρ i = some m) : ∃ v, σ[i]? = some (some v) ∧ Sta B (ρ.set i none) σ H ((m, v) :: fr) := by
  obtain ⟨l, r, lv⟩ := h
  obtain ⟨v, l', h1, h2, h3⟩ := r.take e
  exact ⟨v, h1, l', h2, lv.perm ((h3.append_right fr).trans List.perm_middle.symm)⟩
theorem Sta.clear (h : Sta B ρ σ H fr) (i : Nat) : Sta B (ρ.set i none) σ H fr := by
  obtain ⟨l, r, lv⟩ := h
  obtain ⟨q, l', h2, h3⟩ := r.clear i
  have lv2 := lv.perm (h3.append_right fr)
  rw [List.append_assoc] at lv2
  exact ⟨l', h2, lv2.drops⟩
theorem Sta.fill (h : Sta B ρ σ H ((m, v) :: fr)) (e : getS ρ i = none) (hi : i < ρ.length) : Sta B (ρ.set i (some m)) (σ.set i (some v)) H fr := by
  obtain ⟨l, r, lv⟩ := h
  obtain ⟨l', h2, h3⟩ := r.fill m v e hi
  exact ⟨l', h2, lv.perm (List.perm_middle.trans (h3.append_right fr))⟩
theorem Sta.put (h : Sta B ρ σ H ((m, v) :: fr)) (hi : i < ρ.length) : Sta B (putS ρ i m) (σ.set i (some v)) H fr := by
  have h1 := h.clear i
  have h2 := h1.fill (getS_clear ρ i) (by simpa using hi)
  rw [List.set_set] at h2
  exact h2
theorem Sta.refill (h : Sta B (ρ.set i none) σ H ((m, v) :: fr)) (e : σ[i]? = some (some v)) : Sta B (putS ρ i m) σ H fr := by
  have hi : i < (ρ.set i none).length := by
    obtain ⟨l, r, _⟩ := h
    rw [r.length]
    exact (List.getElem?_eq_some_iff.mp e).1
  have h2 := h.fill (getS_clear ρ i) hi
  rw [List.set_set, set_same e] at h2
  exact h2
theorem Sta.live (h : Sta B ρ σ H fr) (f : ∀ l, Live B H (l ++ fr) → Live B H' (l ++ fr)) : Sta B ρ σ H' fr := by
  obtain ⟨l, r, lv⟩ := h
  exact ⟨l, r, f l lv⟩
/-- the rest's head changes -/
theorem Sta.head {fr' : List (M × V)} (h : Sta B ρ σ H fr) (f : ∀ l, Live B H (fr ++ l) → Live B H' (fr' ++ l)) : Sta B ρ σ H' fr' := by
  obtain ⟨l, r, lv⟩ := h
  exact ⟨l, r, (f l (lv.perm List.perm_append_comm)).perm List.perm_append_comm⟩
theorem Sta.drop {x : M × V} (h : Sta B ρ σ H (x :: fr)) : Sta B ρ σ H fr := h.head fun _ q => q.drop
theorem Sta.len (h : Sta B ρ σ H fr) : ρ.length = σ.length := h.choose_spec.1.length
end
end Iv
set_option linter.all false
set_option maxRecDepth 100000
set_option maxHeartbeats 1000000
/-! Iv3: the operators: what they tell of trees is what the model does with what stands for them. -/
namespace Iv
open PySem PySem.Spec PyProof.Rows L2
abbrev _root_.L2.Cx.mo (X : Cx) (T : Flds) : Mo := ⟨X.K, X.prog, X.w, T⟩
section
variable {B : Mo} {Z : Addr → Prop} {H H' : Hp}
/-- an operand as it stands: what never changes, or an own list, dict -/
def Vw (B : Mo) (Z : Addr → Prop) (H : Hp) (d : D) (x : V) : Prop :=
  RD B Z H d x ∨ (∃ a vs ds, d = .list ds ∧ x = .ref a ∧ H a = some (.lst vs) ∧ RDs B Z H ds vs) ∨ ∃ a kvs ps, d = .dict ps ∧ x = .ref a ∧ H a = some (.dK kvs) ∧ RKs B Z H ps kvs
theorem Vw.int {i : Int} {x : V} (h : Vw B Z H (.int i) x) : x = .int i := by
  rcases h with h | ⟨_, _, _, e, _⟩ | ⟨_, _, _, e, _⟩
  · cases h; rfl
  · cases e
  · cases e
theorem Vw.str {i : Str} {x : V} (h : Vw B Z H (.str i) x) : x = .str i := by
  rcases h with h | ⟨_, _, _, e, _⟩ | ⟨_, _, _, e, _⟩
  · cases h; rfl
  · cases e
  · cases e
theorem Vw.bool {i : Bool} {x : V} (h : Vw B Z H (.bool i) x) : x = .bl i := by
  rcases h with h | ⟨_, _, _, e, _⟩ | ⟨_, _, _, e, _⟩
  · cases h; rfl
  · cases e
  · cases e
theorem Vw.none {x : V} (h : Vw B Z H .none x) : x = .non := by
  rcases h with h | ⟨_, _, _, e, _⟩ | ⟨_, _, _, e, _⟩
  · cases h; rfl
  · cases e
  · cases e
theorem Vw.tuple {ds : List D} {x : V} (h : Vw B Z H (.tuple ds) x) : ∃ a vs, x = .ref a ∧ SqT B.K H a vs ∧ RDs B Z H ds vs := by
  rcases h with h | ⟨_, _, _, e, _⟩ | ⟨_, _, _, e, _⟩
  · cases h with
    | tup h p r => exact ⟨_, _, rfl, h, r⟩
  · cases e
  · cases e
theorem Vw.tupleP {ds : List D} {x : V} (h : Vw B Z H (.tuple ds) x) : ∃ a vs, x = .ref a ∧ SqT B.K H a vs ∧ (two ds = false → PlT B.K H a) ∧ RDs B Z H ds vs := by
  rcases h with h | ⟨_, _, _, e, _⟩ | ⟨_, _, _, e, _⟩
  · cases h with
    | tup h p r => exact ⟨_, _, rfl, h, p, r⟩
  · cases e
  · cases e
theorem Vw.list {ds : List D} {x : V} (h : Vw B Z H (.list ds) x) : ∃ a vs, x = .ref a ∧ SqL B.K H a vs ∧ RDs B Z H ds vs := by
  rcases h with h | ⟨a, vs, ds', e, e2, h, r⟩ | ⟨_, _, _, e, _⟩
  · cases h with
    | lst z h r => exact ⟨_, _, rfl, .inl h, r⟩
    | klst h r => exact ⟨_, _, rfl, h.sq, r⟩
  · cases e; exact ⟨a, vs, e2, .inl (.inl h), r⟩
  · cases e
theorem Vw.listR {ds : List D} {x : V} (h : Vw B Z H (.list ds) x) : ∃ a vs, x = .ref a ∧ (Rd H a (.lst vs) ∨ KL B.K a vs) ∧ RDs B Z H ds vs := by
  rcases h with h | ⟨a, vs, ds', e, e2, h, r⟩ | ⟨_, _, _, e, _⟩
  · cases h with
    | lst z h r => exact ⟨_, _, rfl, .inl h, r⟩
    | klst h r => exact ⟨_, _, rfl, .inr h, r⟩
  · cases e; exact ⟨a, vs, e2, .inl (.inl h), r⟩
  · cases e
theorem Vw.dict {ps : List (D × D)} {x : V} (h : Vw B Z H (.dict ps) x) : ∃ a kvs, x = .ref a ∧ (Rd H a (.dK kvs) ∨ KD B a kvs) ∧ RKs B Z H ps kvs := by
  rcases h with h | ⟨a, vs, ds', e, _⟩ | ⟨a, kvs, ps', e, e2, h, r⟩
  · cases h with
    | dic z h r => exact ⟨_, _, rfl, .inl h, r⟩
    | kdic h _ r => exact ⟨_, _, rfl, .inr h, r⟩
  · cases e
  · cases e; exact ⟨a, kvs, e2, .inl (.inl h), r⟩
theorem RDs.get : ∀ {ds : List D} {vs : List V} {i : Nat} {d : D}, RDs B Z H ds vs → ds[i]? = some d → ∃ v, vs[i]? = some v ∧ RD B Z H d v
  | _, _, i, d, .nil, e => by simp at e
  | _, _, 0, d, .cons r _, e => by simp at e; subst e; exact ⟨_, rfl, r⟩
  | _, _, i + 1, d, .cons _ rs, e => by
    obtain ⟨v, h1, h2⟩ := RDs.get (i := i) (d := d) rs (by simpa using e)
    exact ⟨v, by simpa using h1, h2⟩
theorem RDs.append : ∀ {ds es : List D} {vs us : List V}, RDs B Z H ds vs → RDs B Z H es us → RDs B Z H (ds ++ es) (vs ++ us)
  | _, _, _, _, .nil, s => s
  | _, _, _, _, .cons r rs, s => .cons r (RDs.append rs s)
theorem RDs.take : ∀ {ds : List D} {vs : List V} (n : Nat), RDs B Z H ds vs → RDs B Z H (ds.take n) (vs.take n)
  | _, _, 0, _ => by simpa using RDs.nil
  | _, _, n + 1, .nil => by simpa using RDs.nil
  | _, _, n + 1, .cons r rs => by simpa using RDs.cons r (RDs.take n rs)
theorem RDs.drop : ∀ {ds : List D} {vs : List V} (n : Nat), RDs B Z H ds vs → RDs B Z H (ds.drop n) (vs.drop n)
  | _, _, 0, r => by simpa using r
  | _, _, n + 1, .nil => by simpa using RDs.nil
  | _, _, n + 1, .cons r rs => by simpa using RDs.drop n rs
theorem RDs.flat : ∀ (k : Nat) {ds : List D} {vs : List V}, RDs B Z H ds vs → RDs B Z H (List.replicate k ds).flatten (List.replicate k vs).flatten
  | 0, _, _, _ => by simpa using RDs.nil
  | k + 1, _, _, r => by simpa [List.replicate_succ] using RDs.append r (RDs.flat k r)
/-- a value that is told: what stood stands, what it owns is new -/
def New (B : Mo) (Z : Addr → Prop) (H H' : Hp) (m : M) (z : V) : Prop := (∀ b o, H b = some o → H' b = some o) ∧ ∃ fp, RM B Z H' m z fp ∧ fp.Nodup ∧ ∀ a ∈ fp, H a = Option.none
theorem ext_upd {p : Addr} {o : HO} (h : H p = Option.none) : ∀ b u, H b = some u → upd H p o b = some u := fun b u e => by rw [upd_ne (ne_of_none e h)]; exact e
theorem kp_ext (h : ∀ b o, H b = some o → H' b = some o) : Kp Z H H' := fun a o e _ => h a o e
theorem New.imm {d : D} {z : V} (r : RD B Z H d z) : New B Z H H (.imm d) z := ⟨fun _ _ e => e, [], .imm r, .nil, fun _ h => nomatch h⟩
theorem New.tup {ds : List D} {vs : List V} {p : Addr} {o : Obj} (ho : o.dict = Option.none) (h : H p = Option.none) (r : RDs B Z H ds vs) : New B Z H (upd H p (.frz o (.tup vs))) (.imm (.tuple ds)) (.ref p) :=
  ⟨ext_upd h, [], .imm (.tup (.inl (.inr ⟨o, upd_same⟩)) (fun _ => .inl ⟨o, _, ho, upd_same⟩) (r.keep (kp_ext (ext_upd h)) fun _ z => z)), .nil, fun _ h => nomatch h⟩
theorem New.lst {ds : List D} {vs : List V} {p : Addr} (h : H p = Option.none) (r : RDs B Z H ds vs) : New B Z H (upd H p (.lst vs)) (.lst ds) (.ref p) :=
  ⟨ext_upd h, [p], .lst upd_same (r.keep (kp_ext (ext_upd h)) fun _ z => z), by simp, fun a ha => by simp at ha; subst ha; exact h⟩
theorem New.dic {ps : List (D × D)} {kvs : List (Key × V)} {p : Addr} (h : H p = Option.none) (r : RKs B Z H ps kvs) : New B Z H (upd H p (.dK kvs)) (.dic ps) (.ref p) :=
  ⟨ext_upd h, [p], .dic upd_same (r.keep (kp_ext (ext_upd h)) fun _ z => z), by simp, fun a ha => by simp at ha; subst ha; exact h⟩
/-! ### keys -/
theorem RD.key {d : D} {v : V} {q : Key} (r : RD B Z H d v) (e : keyD d = some q) : v = kV q := by
  cases r <;> simp [keyD] at e <;> subst e <;> rfl
theorem Vw.key {d : D} {v : V} {q : Key} (r : Vw B Z H d v) (e : keyD d = some q) : v = kV q := by
  rcases r with r | ⟨_, _, _, h, _⟩ | ⟨_, _, _, h, _⟩
  · exact r.key e
  · subst h; simp [keyD] at e
  · subst h; simp [keyD] at e
theorem RKs.val : ∀ {ps : List (D × D)} {kvs : List (Key × V)} {k : D} {q : Key}, RKs B Z H ps kvs → keyD k = some q →
    (getK ps k = Option.none ∧ valV kvs q = Option.none) ∨ ∃ d v, getK ps k = some d ∧ valV kvs q = some v ∧ RD B Z H d v
  | _, _, k, q, .nil, e => .inl ⟨rfl, rfl⟩
  | _, _, k, q, @RKs.cons _ _ _ k' d q' v ps kvs e' r rs, e => by
    by_cases h : q' = q
    · subst h
      refine .inr ⟨d, v, ?_, valV_pos rfl, r⟩
      simp [getK, List.find?_cons, e, e']
    · rcases RKs.val (k := k) (q := q) rs e with ⟨h1, h2⟩ | ⟨d', v', h1, h2, h3⟩
      · refine .inl ⟨?_, by rw [valV_neg h]; exact h2⟩
        have hb : decide (keyD k' = keyD k) = false := by rw [e, e']; simpa using h
        unfold getK at h1 ⊢
        rw [List.find?_cons, hb]; exact h1
      · refine .inr ⟨d', v', ?_, by rw [valV_neg h]; exact h2, h3⟩
        have hb : decide (keyD k' = keyD k) = false := by rw [e, e']; simpa using h
        unfold getK at h1 ⊢
        rw [List.find?_cons, hb]; exact h1
theorem RKs.length : ∀ {ps : List (D × D)} {kvs : List (Key × V)}, RKs B Z H ps kvs → ps.length = kvs.length
  | _, _, .nil => rfl
  | _, _, .cons _ _ rs => by simp [RKs.length rs]
theorem line_eq : line = sizeLine := by rw [sizeLine_eq]; rfl
end
section
variable {T : Flds} {X : Cx} {pins : List (Addr × Obj)} {s : Shared} {σ : L2.St} {H : Hp} {Z : Addr → Prop}
/-- a dict that is looked at -/
theorem dict_at {ps : List (D × D)} {x : V} (I : Inv X pins σ H s) (h : Vw (X.mo T) Z H (.dict ps) x) : ∃ a kvs, x = .ref a ∧ RKs (X.mo T) Z H ps kvs ∧ kvs.length ≤ sizeLine ∧ (a == sysModules) = false ∧ ∃ vs, KV kvs vs ∧ s.heap.DictOf (mixKind X.prog X.w) a vs := by
  obtain ⟨a, kvs, e, h, r⟩ := h.dict
  rcases h with h | ⟨hd, z, vs, rel, dd⟩
  · obtain ⟨z, hd, vs, rel, dd⟩ := dk_rd I.hok h
    exact ⟨a, kvs, e, r, z, hd, vs, rel, dd⟩
  · exact ⟨a, kvs, e, r, z, hd, vs, rel, dd _ I.kIn⟩
/-! == : data -/
mutual
theorem RD.dp {B : Mo} {H : Hp} : ∀ {d : D} {v : V}, RD B Z H d v → PyData.canLay0 d = true → Dp B.K H v d
  | _, _, .non, _ => .non
  | _, _, .bl b, _ => .bl b
  | _, _, .int i, _ => .int i
  | _, _, .str x, _ => .str x
  | _, _, .tup h p r, e => .tup h (RDs.dp r (by simpa [PyData.canLay0] using e))
  | _, _, .lst z h r, e => .lst (.inl h) (RDs.dp r (by simpa [PyData.canLay0] using e))
  | _, _, .klst h r, e => .lst h.sq (RDs.dp r (by simpa [PyData.canLay0] using e))
  | _, _, .dic _ _ _, e => by simp [PyData.canLay0] at e
  | _, _, .kdic _ _ _, e => by simp [PyData.canLay0] at e
theorem RDs.dp {B : Mo} {H : Hp} : ∀ {ds : List D} {vs : List V}, RDs B Z H ds vs → PyData.canLayAll0 ds = true → DpAll B.K H vs ds
  | _, _, .nil, _ => .nil
  | _, _, .cons r rs, e => by
    rw [PyData.canLayAll0] at e
    have e3 := Bool.and_eq_true_iff.mp e
    exact .cons (RD.dp r e3.1) (RDs.dp rs e3.2)
end
theorem Vw.dp {B : Mo} {H : Hp} {d : D} {v : V} (h : Vw B Z H d v) (e : PyData.canLay0 d = true) : Dp B.K H v d := by
  rcases h with h | ⟨a, vs, ds', rfl, rfl, h, r⟩ | ⟨a, kvs, ps', rfl, _⟩
  · exact h.dp e
  · exact .lst (.inl (.inl h)) (r.dp (by simpa [PyData.canLay0] using e))
  · simp [PyData.canLay0] at e
/-- two operands -/
def OpS (T : Flds) (X : Cx) (f : Value → Value → Sem Value) (g : D → D → Option M) : Prop :=
  ∀ (pins : List (Addr × Obj)) (s : Shared) (σ : L2.St) (H : Hp) (x y : V) (v u : Value) (Q : VK) (Z : Addr → Prop) (d e : D) (m : M), Inv X pins σ H s → RelV x v → RelV y u → Vw (X.mo T) Z H d x → Vw (X.mo T) Z H e y → g d e = some m →
    (∀ z H', New (X.mo T) Z H H' m z → Q z H') → wpAny (model X.prog X.w) X.A (f v u) (EP X pins σ Q) X.xe s
theorem lst_ok (I : Inv X pins σ H s) {l : Addr} {xs : List V} (h : Rd H l (.lst xs) ∨ KL X.K l xs) : ∃ (its : List Value) (n : Nat), xs.length ≤ sizeLine ∧ Vals xs its ∧ s.heap.get? l = some { cls := .type "list", data := .seq its.toArray n } := by
  rcases h with h | ⟨its, n, e, z, r⟩
  · obtain ⟨z, its, n, r, e⟩ := h.ok I.hok
    exact ⟨its, n, z, r, e⟩
  · exact ⟨its, n, z, r, I.kIn _ _ e⟩
theorem cat_lists (I : Inv X pins σ H s) {l b : Addr} {xs zs : List V} {Q : VK} (hl : Rd H l (.lst xs) ∨ KL X.K l xs) (hb : Rd H b (.lst zs) ∨ KL X.K b zs) (hz : xs.length + zs.length ≤ sizeLine) (q : ∀ p, H p = none → Q (.ref p) (upd H p (.lst (xs ++ zs)))) :
    wpAny (model X.prog X.w) X.A (binaryOp .Add (.ref l) (.ref b)) (EP X pins σ Q) X.xe s := by
  obtain ⟨its, n, z, r, e⟩ := lst_ok I hl
  obtain ⟨its2, n2, z2, r2, e2⟩ := lst_ok I hb
  have hl := r.length
  have hl2 := r2.length
  refine PySem.P.add_list e e2 ?_ (by rw [List.size_toArray, List.size_toArray]; omega)
  have ea : its.toArray ++ its2.toArray = (its ++ its2).toArray := by simp
  rw [ea]
  exact ⟨.ref _, _, I.lnew (t' := s.toks) (r.append r2) (by rw [List.length_append]; omega), rfl, q _ I.fresh⟩
/-- a list times an int, however the list is known -/
theorem rep_list (I : Inv X pins σ H s) {l : Addr} {xs : List V} {k : Int} {t : Tok} {Q : VK} (hl : Rd H l (.lst xs) ∨ KL X.K l xs) (h1 : -(2 ^ 63) ≤ k) (h2 : k < 2 ^ 63) (hz : xs.length * k.toNat ≤ sizeLine)
    (q : ∀ p, H p = none → Q (.ref p) (upd H p (.lst (List.replicate k.toNat xs).flatten))) : wpAny (model X.prog X.w) X.A (binaryOp .Mult (.ref l) (.int k t)) (EP X pins σ Q) X.xe s := by
  obtain ⟨its, n, z, r, e⟩ := lst_ok I hl
  have hl := r.length
  have hlen : its.toArray.size * k.toNat ≤ sizeLine := by rw [List.size_toArray, ← hl]; exact hz
  have hcap : ¬ its.toArray.size * k.toNat > (2 ^ 63 - 1) / 8 := by
    have : (sizeLine : Nat) ≤ (2 ^ 63 - 1) / 8 := by decide
    omega
  have hfit : ¬ (!Builtin.List.listFitsIndex k) = true := by
    rw [fitsIndex_both h1 h2]
    exact Bool.false_ne_true
  have hlong : ¬ Builtin.List.listTooLong (its.toArray.size * k.toNat) = true := by
    rw [notLongL hlen]
    exact Bool.false_ne_true
  have hnew : List.foldl (fun x1 x2 => x1 ++ x2) #[] (List.replicate (if its.toArray.isEmpty = true then 0 else k.toNat) its.toArray) = (List.replicate k.toNat its).flatten.toArray := by
    have f0 : ∀ m : Nat, List.foldl (fun x1 x2 => x1 ++ x2) #[] (List.replicate m its.toArray) = (List.replicate m its).flatten.toArray := fun m => by
      have := foldl_rep its m []
      rw [List.nil_append] at this
      exact this
    rw [f0]
    cases its with
    | nil => simp
    | cons a r' => rw [if_neg (by simp)]
  refine wpAny_binaryOp_repeat_ref (T := "list") (U := "int") (by decide) ⟨_, e, rfl⟩ (fun s' => typeIs_int s' k t) noFill_list_mul PySem.F.fills_int_mul PySem.F.slot_int_rmul repeat_list PySem.F.slot_int_index.lookup
    (call_meets PySem.F.slot_int_rmul (typeIs_int s k t) PySem.F.entry_int_rmul (PySem.F.args_int_rmul_2 _ _) (int___rmul___int_list k t l its.toArray n)
      ⟨e, rfl, ⟨_, e, rfl⟩, call_meets PySem.F.slot_list_mul ⟨_, e, rfl⟩ PySem.F.entry_list_mul (PySem.F.args_list_mul_2 _ _) (AutoListH.list___mul___list_int_3 l its.toArray n k t hfit hcap hlong) ⟨e, ?_⟩⟩)
  rw [hnew]
  exact ⟨.ref _, _, I.lnew (t' := s.toks) (r.rep k.toNat) (by rw [PyProof.Rows.lm_len_rep_flat, Nat.mul_comm]; exact hz), rfl, q _ I.fresh⟩
theorem RDs.nil_iff {B : Mo} {H : Hp} {ds : List D} {vs : List V} (r : RDs B Z H ds vs) : ds = [] ↔ vs = [] := by
  cases r <;> simp
def opOf : Bop → Operator
  | .add => .Add
  | .sub => .Sub
  | .mul => .Mult
  | .fdiv => .FloorDiv
  | .mod => .Mod
  | .pow => .Pow
theorem small_ok {i : Int} (h : small i = true) : -(2 ^ 64) < i ∧ i < 2 ^ 64 := by
  unfold small at h
  simpa using h
theorem op_bop (o : Bop) : OpS T X (binaryOp (opOf o)) (bopD o) := by
  intro pins s σ H x y v u Q Z d e m I rx ry hx hy hg q
  cases o with
  | add =>
    cases d with
    | int i =>
      cases e with
      | int j =>
        cases hx.int; cases hy.int
        cases hg
        exact op_add pins s σ H _ _ v u Q I rx ry ⟨i, j, rfl, rfl, q _ _ (.imm (.int _))⟩
      | _ => simp [bopD] at hg
    | str i =>
      cases e with
      | str j =>
        cases hx.str; cases hy.str
        simp only [bopD] at hg
        split at hg
        · rename_i hl
          cases hg
          exact op_add_str pins s σ H _ _ v u Q I rx ry ⟨i, j, rfl, rfl, by rw [← line_eq]; exact hl, q _ _ (.imm (.str _))⟩
        · cases hg
      | _ => simp [bopD] at hg
    | tuple xs =>
      cases e with
      | tuple ys =>
        obtain ⟨a, vs, rfl, ha, pa, r⟩ := hx.tupleP
        obtain ⟨b, us, rfl, hb, pb, r'⟩ := hy.tupleP
        simp only [bopD] at hg
        split at hg
        · rename_i hl
          cases hg
          have l1 := r.length
          have l2 := r'.length
          refine op_catF pins s σ H _ _ v u Q I rx ry ⟨a, b, vs, us, rfl, rfl, ha, hb, by rw [← line_eq]; omega, fun e => ?_, fun _ e => ?_, fun _ _ p o ho hp => ?_⟩
          · have : xs = [] := r.nil_iff.mpr e
            subst this
            exact q _ _ (.imm (.tup hb pb r'))
          · have : ys = [] := r'.nil_iff.mpr e
            subst this
            refine q _ _ (.imm (.tup ha (by simpa using pa) ?_))
            simpa using r
          · exact q _ _ (.tup ho hp (r.append r'))
        · cases hg
      | _ => simp [bopD] at hg
    | list xs =>
      cases e with
      | list ys =>
        obtain ⟨a, vs, rfl, ha, r⟩ := hx.listR
        obtain ⟨b, us, rfl, hb, r'⟩ := hy.listR
        simp only [bopD] at hg
        split at hg
        · rename_i hl
          cases hg
          have l1 := r.length
          have l2 := r'.length
          cases rx
          cases ry
          exact cat_lists I ha hb (by rw [← line_eq]; omega) fun p hp => q _ _ (.lst hp (r.append r'))
        · cases hg
      | _ => simp [bopD] at hg
    | _ => simp [bopD] at hg
  | sub =>
    cases d with
    | int i =>
      cases e with
      | int j =>
        cases hx.int; cases hy.int
        cases hg
        exact op_sub pins s σ H _ _ v u Q I rx ry ⟨i, j, rfl, rfl, q _ _ (.imm (.int _))⟩
      | _ => simp [bopD] at hg
    | _ => simp [bopD] at hg
  | mul =>
    cases d with
    | int i =>
      cases e with
      | int j =>
        cases hx.int; cases hy.int
        simp only [bopD] at hg
        split at hg
        · rename_i hl
          cases hg
          refine op_mul pins s σ H _ _ v u Q I rx ry ⟨i, j, rfl, rfl, ?_, q _ _ (.imm (.int _))⟩
          rcases Bool.or_eq_true_iff.mp hl with h | h
          · exact .inl (small_ok h)
          · exact .inr (small_ok h)
        · cases hg
      | _ => simp [bopD] at hg
    | list xs =>
      cases e with
      | int j =>
        obtain ⟨a, vs, rfl, ha, r⟩ := hx.listR
        cases hy.int
        simp only [bopD] at hg
        split at hg
        · rename_i hl
          cases hg
          have l1 := r.length
          cases rx
          obtain ⟨t, rfl⟩ := ry
          exact rep_list I ha hl.2.1 hl.2.2 (by rw [← line_eq, ← l1]; exact hl.1) fun p hp => q _ _ (.lst hp (r.flat _))
        · cases hg
      | _ => simp [bopD] at hg
    | _ => simp [bopD] at hg
  | fdiv =>
    cases d with
    | int i =>
      cases e with
      | int j =>
        cases hx.int; cases hy.int
        simp only [bopD] at hg
        split at hg
        · rename_i hl
          cases hg
          exact op_fdiv pins s σ H _ _ v u Q I rx ry ⟨i, j, rfl, rfl, hl, q _ _ (.imm (.int _))⟩
        · cases hg
      | _ => simp [bopD] at hg
    | _ => simp [bopD] at hg
  | mod =>
    cases d with
    | int i =>
      cases e with
      | int j =>
        cases hx.int; cases hy.int
        simp only [bopD] at hg
        split at hg
        · rename_i hl
          cases hg
          exact op_mod pins s σ H _ _ v u Q I rx ry ⟨i, j, rfl, rfl, hl, q _ _ (.imm (.int _))⟩
        · cases hg
      | _ => simp [bopD] at hg
    | _ => simp [bopD] at hg
  | pow =>
    cases d with
    | int i =>
      cases e with
      | int j =>
        cases hx.int; cases hy.int
        simp only [bopD] at hg
        split at hg
        · rename_i hl
          cases hg
          exact op_pow pins s σ H _ _ v u Q I rx ry ⟨i, j, rfl, rfl, hl, q _ _ (.imm (.int _))⟩
        · cases hg
      | _ => simp [bopD] at hg
    | _ => simp [bopD] at hg
/-! ### comparisons -/
def copOf : Cop → CmpOp
  | .eq => .Eq
  | .ne => .NotEq
  | .lt => .Lt
  | .le => .LtE
  | .gt => .Gt
  | .ge => .GtE
  | .isin => .In
  | .notin => .NotIn
  | .is => .Is
  | .isnot => .IsNot
def cmpM (o : Cop) (a b : D) : Option M := (copD o a b).map fun k => .imm (.bool k)
theorem RD.flat {B : Mo} {H : Hp} {d : D} {v : V} (r : RD B Z H d v) (e : isFlat d = true) : flatV v = true := by
  cases r <;> simp [isFlat] at e <;> rfl
theorem RD.eqV {B : Mo} {H : Hp} {d e : D} {v u : V} (r : RD B Z H d v) (r' : RD B Z H e u) (hd : isFlat d = true) (he : isFlat e = true) : L2.eqV v u = PyData.eqv d e := by
  cases r <;> simp [isFlat] at hd <;> cases r' <;> simp [isFlat] at he <;> simp [L2.eqV, PyData.eqv]
theorem RDs.allFlat {B : Mo} {H : Hp} : ∀ {ds : List D} {vs : List V}, RDs B Z H ds vs → ds.all isFlat = true → vs.all flatV = true
  | _, _, .nil, _ => rfl
  | _, _, .cons r rs, e => by
    simp only [List.all_cons, Bool.and_eq_true] at e ⊢
    exact ⟨r.flat e.1, RDs.allFlat rs e.2⟩
theorem RDs.inV {B : Mo} {H : Hp} {d : D} {v : V} (r : RD B Z H d v) (hd : isFlat d = true) : ∀ {ds : List D} {vs : List V}, RDs B Z H ds vs → ds.all isFlat = true → L2.inV v vs = ds.any fun y => PyData.eqv y d
  | _, _, .nil, _ => rfl
  | _, _, .cons r' rs, e => by
    simp only [List.all_cons, Bool.and_eq_true] at e
    have ih := RDs.inV r hd rs e.2
    unfold L2.inV at ih ⊢
    simp only [List.any_cons]
    rw [ih, RD.eqV r' r e.1 hd]
theorem Vw.rd {B : Mo} {H : Hp} {d : D} {v : V} (h : Vw B Z H d v) (e : isFlat d = true) : RD B Z H d v := by
  rcases h with h | ⟨_, _, _, rfl, _⟩ | ⟨_, _, _, rfl, _⟩
  · exact h
  · simp [isFlat] at e
  · simp [isFlat] at e
theorem in_ok (neg : Bool) (pins : List (Addr × Obj)) (s : Shared) (σ : L2.St) (H : Hp) (x y : V) (v u : Value) (Q : VK) (Z : Addr → Prop) (d e : D) (b : Bool) (hu : X.A.units + 1 < cLine) (I : Inv X pins σ H s) (rx : RelV x v) (ry : RelV y u) (hx : Vw (X.mo T) Z H d x) (hy : Vw (X.mo T) Z H e y) (hg : inD d e = some b)
    (q : Q (.bl (if neg then !b else b)) H) : wpAny (model X.prog X.w) X.A (compareOp (if neg then .NotIn else .In) v u) (EP X pins σ Q) X.xe s := by
  cases e with
  | tuple xs =>
    simp only [inD] at hg
    split at hg
    · rename_i hf
      cases hg
      obtain ⟨f1, f2⟩ := Bool.and_eq_true_iff.mp hf
      obtain ⟨a, vs, rfl, ha, r⟩ := hy.tuple
      have hd := hx.rd f1
      have e := RDs.inV hd f1 r f2
      cases neg with
      | true => exact op_notIn_seq pins s σ H _ _ v u Q I rx ry ⟨a, vs, rfl, .inr ha, hd.flat f1, r.allFlat f2, by simpa [e] using q⟩
      | false => exact op_in_seq pins s σ H _ _ v u Q I rx ry ⟨a, vs, rfl, .inr ha, hd.flat f1, r.allFlat f2, by simpa [e] using q⟩
    · cases hg
  | list xs =>
    simp only [inD] at hg
    split at hg
    · rename_i hf
      cases hg
      obtain ⟨f1, f2⟩ := Bool.and_eq_true_iff.mp hf
      obtain ⟨a, vs, rfl, ha, r⟩ := hy.list
      have hd := hx.rd f1
      have e := RDs.inV hd f1 r f2
      cases neg with
      | true => exact op_notIn_seq pins s σ H _ _ v u Q I rx ry ⟨a, vs, rfl, .inl ha, hd.flat f1, r.allFlat f2, by simpa [e] using q⟩
      | false => exact op_in_seq pins s σ H _ _ v u Q I rx ry ⟨a, vs, rfl, .inl ha, hd.flat f1, r.allFlat f2, by simpa [e] using q⟩
    · cases hg
  | str y =>
    cases d with
    | str x =>
      cases hx.str; cases hy.str
      simp only [inD] at hg
      cases hg
      cases neg with
      | true => exact op_notin_str pins s σ H _ _ v u Q I rx ry ⟨x, y, rfl, rfl, q⟩
      | false => exact op_in_str pins s σ H _ _ v u Q I rx ry ⟨x, y, rfl, rfl, q⟩
    | _ => simp [inD] at hg
  | dict ps =>
    simp only [inD] at hg
    split at hg
    · rename_i hk
      cases hg
      obtain ⟨k, hk⟩ := Option.isSome_iff_exists.mp hk
      have ex := hx.key hk
      subst ex
      obtain ⟨a, kvs, rfl, r, z, hd, vs, rel, dd⟩ := dict_at I hy
      have hval : (valV kvs k).isSome = (getK ps d).isSome := by
        rcases r.val hk with ⟨h1, h2⟩ | ⟨d', v', h1, h2, _⟩
        · rw [h1, h2]; rfl
        · rw [h1, h2]; rfl
      cases ry
      cases neg with
      | true =>
        refine wpAny_notIn_of (kV_is rx) hd dd.mapOf ?_
        rw [← (rel.val k).isSome_eq, hval]
        exact ⟨.bl _, H, I.tok _, rfl, q⟩
      | false =>
        refine wpAny_in_of (kV_is rx) hd dd.mapOf ?_
        rw [← (rel.val k).isSome_eq, hval]
        exact ⟨.bl _, H, I.tok _, rfl, q⟩
    · cases hg
  | _ => simp [inD] at hg
theorem op_cop (o : Cop) (hu : X.A.units + 64 < cLine) : OpS T X (compareOp (copOf o)) (cmpM o) := by
  intro pins s σ H x y v u Q Z d e m I rx ry hx hy hg q
  obtain ⟨b, hb, rfl⟩ := Option.map_eq_some_iff.mp hg
  have q : Q (.bl b) H := q _ _ (.imm (.bl b))
  cases o with
  | eq =>
    simp only [copD, eqD] at hb
    split at hb
    · rename_i z1 z2
      cases hb
      cases hx.str; cases hy.str
      refine op_eq pins s σ H _ _ v u Q I rx ry ⟨rfl, ?_⟩
      have e0 : decide (V.str z1 = V.str z2) = decide (z1 = z2) := by
        by_cases h : z1 = z2
        · subst h; simp
        · rw [decide_eq_false h, decide_eq_false fun z => h (V.str.inj z)]
      rw [e0]; exact q
    · split at hb
      · rename_i hs
        cases hb
        obtain ⟨h1, h2⟩ := Bool.and_eq_true_iff.mp hs
        exact op_eqD hu pins s σ H _ _ v u Q I rx ry ⟨d, e, hx.dp (SeqAt.canLay_of_shaped h1), hy.dp (SeqAt.canLay_of_shaped h2), h1, h2, q⟩
      · cases hb
  | ne =>
    simp only [copD, eqD] at hb
    split at hb
    · rename_i z1 z2
      cases hb
      cases hx.str; cases hy.str
      refine op_ne pins s σ H _ _ v u Q I rx ry ⟨rfl, ?_⟩
      have e0 : decide (V.str z1 = V.str z2) = decide (z1 = z2) := by
        by_cases h : z1 = z2
        · subst h; simp
        · rw [decide_eq_false h, decide_eq_false fun z => h (V.str.inj z)]
      rw [e0]; exact q
    · split at hb
      · rename_i hs
        cases hb
        obtain ⟨h1, h2⟩ := Bool.and_eq_true_iff.mp hs
        exact op_neD hu pins s σ H _ _ v u Q I rx ry ⟨d, e, hx.dp (SeqAt.canLay_of_shaped h1), hy.dp (SeqAt.canLay_of_shaped h2), h1, h2, q⟩
      · cases hb
  | lt =>
    cases d <;> try (simp [copD] at hb)
    cases e <;> try (simp [copD] at hb)
    cases hx.int; cases hy.int
    subst hb
    exact op_lt pins s σ H _ _ v u Q I rx ry ⟨_, _, rfl, rfl, q⟩
  | le =>
    cases d <;> try (simp [copD] at hb)
    cases e <;> try (simp [copD] at hb)
    cases hx.int; cases hy.int
    subst hb
    exact op_le pins s σ H _ _ v u Q I rx ry ⟨_, _, rfl, rfl, q⟩
  | gt =>
    cases d <;> try (simp [copD] at hb)
    cases e <;> try (simp [copD] at hb)
    cases hx.int; cases hy.int
    subst hb
    exact op_gt pins s σ H _ _ v u Q I rx ry ⟨_, _, rfl, rfl, q⟩
  | ge =>
    cases d <;> try (simp [copD] at hb)
    cases e <;> try (simp [copD] at hb)
    cases hx.int; cases hy.int
    subst hb
    exact op_ge pins s σ H _ _ v u Q I rx ry ⟨_, _, rfl, rfl, q⟩
  | isin => exact in_ok false pins s σ H x y v u Q Z d e b (by omega) I rx ry hx hy hb q
  | notin =>
    simp only [copD] at hb
    obtain ⟨b', hb', rfl⟩ := Option.map_eq_some_iff.mp hb
    exact in_ok true pins s σ H x y v u Q Z d e b' (by omega) I rx ry hx hy hb' q
  | is =>
    cases e <;> simp [copD] at hb
    cases hy.none
    refine op_isN pins s σ H _ _ v u Q I rx ry ⟨rfl, ?_⟩
    rcases hx with h | ⟨_, _, _, rfl, rfl, _⟩ | ⟨_, _, _, rfl, rfl, _⟩
    · cases h <;> (subst hb; exact q)
    · subst hb; exact q
    · subst hb; exact q
  | isnot =>
    cases e <;> simp [copD] at hb
    cases hy.none
    refine op_notN pins s σ H _ _ v u Q I rx ry ⟨rfl, ?_⟩
    rcases hx with h | ⟨_, _, _, rfl, rfl, _⟩ | ⟨_, _, _, rfl, rfl, _⟩
    · cases h <;> (subst hb; exact q)
    · subst hb; exact q
    · subst hb; exact q
end
end Iv
set_option linter.all false
set_option maxRecDepth 100000
set_option maxHeartbeats 1000000
/-! Iv3p: subscripts, slices, calls of built-in functions. -/
namespace Iv
open PySem PySem.Spec PyProof.Rows L2
section
variable {B : Mo} {Z : Addr → Prop} {H : Hp}
theorem RDs.atI {ds : List D} {vs : List V} {i : Int} {d : D} (r : RDs B Z H ds vs) (e : L2.atI ds i = some d) : ∃ v, L2.atI vs i = some v ∧ RD B Z H d v := by
  unfold L2.atI at e ⊢
  rw [← r.length]
  cases h : ixN ds.length i with
  | none => rw [h] at e; cases e
  | some j =>
    rw [h] at e
    obtain ⟨v, h1, h2⟩ := r.get (i := j) e
    exact ⟨v, h1, h2⟩
theorem RDs.cut {ds : List D} {vs : List V} (r : RDs B Z H ds vs) (lo hi : Option Int) : RDs B Z H (cutD ds lo hi) (cutV vs lo hi) := by
  unfold cutD cutV
  rw [r.length]
  exact (r.drop _).take _
theorem RKs.any {k : D} {q : Key} (e : keyD k = some q) : ∀ {ps : List (D × D)} {kvs : List (Key × V)}, RKs B Z H ps kvs → (ps.any fun p => decide (keyD p.1 = keyD k)) = kvs.any fun kv => decide (kv.1 = q)
  | _, _, .nil => rfl
  | _, _, .cons e' _ rs => by
    simp only [List.any_cons]
    rw [RKs.any e rs, e', e]
    congr 1
    simp
theorem RKs.repl {k d : D} {q : Key} {v : V} (e : keyD k = some q) (r : RD B Z H d v) : ∀ {ps : List (D × D)} {kvs : List (Key × V)}, RKs B Z H ps kvs →
    RKs B Z H (ps.map fun p => if keyD p.1 = keyD k then (p.1, d) else p) (kvs.map fun kv => if kv.1 = q then (kv.1, v) else kv)
  | _, _, .nil => .nil
  | _, _, @RKs.cons _ _ _ k' d' q' v' ps kvs e' r' rs => by
    simp only [List.map_cons]
    have ih := RKs.repl e r rs
    by_cases h : q' = q
    · rw [if_pos (show q' = q from h), if_pos (by rw [e', e, h])]
      exact .cons e' r ih
    · rw [if_neg (show ¬ q' = q from h), if_neg (by rw [e', e]; intro z; exact h (Option.some.inj z))]
      exact .cons e' r' ih
theorem RKs.snoc {k d : D} {q : Key} {v : V} (e : keyD k = some q) (r : RD B Z H d v) : ∀ {ps : List (D × D)} {kvs : List (Key × V)}, RKs B Z H ps kvs → RKs B Z H (ps ++ [(k, d)]) (kvs ++ [(q, v)])
  | _, _, .nil => .cons e r .nil
  | _, _, .cons e' r' rs => .cons e' r' (RKs.snoc e r rs)
theorem RKs.put {k d : D} {q : Key} {v : V} (e : keyD k = some q) (r : RD B Z H d v) {ps : List (D × D)} {kvs : List (Key × V)} (rs : RKs B Z H ps kvs) : RKs B Z H (putK k d ps) (L2.putK kvs q v) := by
  unfold putK L2.putK
  rw [RKs.any e rs]
  split
  · exact rs.repl e r
  · exact rs.snoc e r
end
section
variable {T : Flds} {X : Cx} {pins : List (Addr × Obj)} {s : Shared} {σ : L2.St} {H : Hp} {Z : Addr → Prop}
theorem ix_ok (value slice : Expr) (x y : V) (v u : Value) (Q : VK) (d e d' : D) (I : Inv X pins σ H s) (rx : RelV x v) (ry : RelV y u) (hx : Vw (X.mo T) Z H d x) (hy : Vw (X.mo T) Z H e y) (hg : subD d e = some d') (q : ∀ z, RD (X.mo T) Z H d' z → Q z H)
    (hs : subscripted slice false v u = operate [v, u] (getItem v u)) : wpAny (model X.prog X.w) X.A (subscriptTail value slice v u) (EP X pins σ Q) X.xe s := by
  cases d with
  | tuple xs =>
    cases e <;> simp [subD] at hg
    obtain ⟨a, vs, rfl, ha, r⟩ := hx.tuple
    cases hy.int
    obtain ⟨z, hz, rz⟩ := r.atI hg
    exact ix_tup value slice pins s σ H _ _ v u Q I rx ry ⟨a, vs, _, z, rfl, rfl, ha, hz, q z rz⟩ hs
  | list xs =>
    cases e <;> simp [subD] at hg
    obtain ⟨a, vs, rfl, ha, r⟩ := hx.list
    cases hy.int
    obtain ⟨z, hz, rz⟩ := r.atI hg
    exact ix_list value slice pins s σ H _ _ v u Q I rx ry ⟨a, vs, _, z, rfl, rfl, ha, hz, q z rz⟩ hs
  | str z =>
    cases e with
    | int i =>
      simp only [subD] at hg
      split at hg
      · rename_i hl
        obtain ⟨c, hc, rfl⟩ := Option.map_eq_some_iff.mp hg
        cases hx.str; cases hy.int
        exact ix_str value slice pins s σ H _ _ v u Q I rx ry ⟨z, i, c, rfl, rfl, by rw [← line_eq]; exact hl, hc, q _ (.str _)⟩ hs
      · cases hg
    | _ => simp [subD] at hg
  | dict ps =>
    have hg' : (if (keyD e).isSome = true then getK ps e else none) = some d' := by cases e <;> simpa [subD] using hg
    split at hg'
    · rename_i hk
      obtain ⟨k, hk⟩ := Option.isSome_iff_exists.mp hk
      cases hy.key hk
      obtain ⟨a, kvs, rfl, r, z, hd, vs, rel, dd⟩ := dict_at I hx
      cases rx
      rcases r.val hk with ⟨h1, _⟩ | ⟨d2, v', h1, h2, rd⟩
      · rw [h1] at hg'; cases hg'
      · rw [h1] at hg'; cases hg'
        obtain ⟨w', hw, rw'⟩ := RelO.some_of (v := v') (o := valueAt vs k) (by rw [← h2]; exact rel.val k)
        exact tail_any dd.typeIs PySem.F.slot_dict_getitem.lookup (wpAny_getItem_of (kV_is ry) dd.mapOf hw ⟨v', H, I.tok _, rw', q _ rd⟩) hs
    · cases hg'
  | _ => cases e <;> simp [subD] at hg
theorem sl_ok (d : D) (m : M) (i j : Option Int) (hg : slcD d i j = some m) : SlR X (fun x lo hi H Q => lo = i ∧ hi = j ∧ ∃ Z, Vw (X.mo T) Z H d x ∧ ∀ z H', New (X.mo T) Z H H' m z → Q z H') := by
  intro pins s σ H x v vl vu lo hi sl Q I rx hs pl pu h
  obtain ⟨rfl, rfl, Z, hx, q⟩ := h
  cases d with
  | tuple xs =>
    cases hg
    obtain ⟨a, vs, rfl, ha, pa, r⟩ := hx.tupleP
    refine sl_tupF pins s σ H _ v vl vu _ _ sl Q I rx hs pl pu ⟨a, vs, rfl, ha, fun hw => ?_, fun _ p o ho hp => ?_⟩
    · have : cutD xs lo hi = xs := by
        unfold cutD
        rw [r.length, hw.1, hw.2]
        simp [← r.length]
      rw [this] at q
      exact q _ _ (.imm (.tup ha pa r))
    · exact q _ _ (.tup ho hp (r.cut lo hi))
  | list xs =>
    cases hg
    obtain ⟨a, vs, rfl, ha, r⟩ := hx.list
    exact sl_list pins s σ H _ v vl vu _ _ sl Q I rx hs pl pu ⟨a, vs, rfl, ha, fun p hp => q _ _ (.lst hp (r.cut lo hi))⟩
  | str z =>
    simp only [slcD] at hg
    split at hg
    · rename_i hl
      cases hg
      cases hx.str
      exact sl_str pins s σ H _ v vl vu _ _ sl Q I rx hs pl pu ⟨z, rfl, by rw [← line_eq]; exact hl, q _ _ (.imm (.str _))⟩
    · cases hg
  | _ => simp [slcD] at hg
/-! ### calls of built-in functions -/
inductive Vws (B : Mo) (Z : Addr → Prop) (H : Hp) : List D → List V → Prop
  | nil : Vws B Z H [] []
  | cons {d : D} {x : V} {ds : List D} {xs : List V} : Vw B Z H d x → Vws B Z H ds xs → Vws B Z H (d :: ds) (x :: xs)
def CallS (T : Flds) (X : Cx) (f : Value) (g : List D → Option M) : Prop :=
  ∀ (pins : List (Addr × Obj)) (s : Shared) (σ : L2.St) (H : Hp) (xs : List V) (us : List Value) (Q : VK) (Z : Addr → Prop) (ds : List D) (m : M), Inv X pins σ H s → Vals xs us → Vws (X.mo T) Z H ds xs → g ds = some m →
    (∀ z H', New (X.mo T) Z H H' m z → Q z H') → wpAny (model X.prog X.w) X.A (call f us) (EP X pins σ Q) X.xe s
theorem RDs.bools {B : Mo} : ∀ {ds : List D} {vs : List V} {bs : List Bool}, RDs B Z H ds vs → Iv.bools ds = some bs → vs = bs.map V.bl
  | _, _, bs, .nil, e => by simp [Iv.bools] at e; subst e; rfl
  | _, _, bs, .cons r rs, e => by
    cases r <;> simp [Iv.bools] at e
    obtain ⟨bs', h, rfl⟩ := e
    rw [RDs.bools rs h]; rfl
theorem cs_len : CallS T X (.builtin "len") (prmD .len) := by
  intro pins s σ H xs us Q Z ds m I rv hv hg q
  cases hv with
  | nil => simp [prmD] at hg
  | cons h hr =>
    cases hr with
    | cons _ _ => simp [prmD] at hg
    | nil =>
      rename_i d x
      cases d with
      | tuple xs =>
        cases hg
        obtain ⟨a, vs, rfl, ha, r⟩ := h.tuple
        refine call_len_seq pins s σ H _ us Q I rv ⟨a, vs, rfl, .inr ha, ?_⟩
        rw [← r.length]; exact q _ _ (.imm (.int _))
      | list xs =>
        cases hg
        obtain ⟨a, vs, rfl, ha, r⟩ := h.list
        refine call_len_seq pins s σ H _ us Q I rv ⟨a, vs, rfl, .inl ha, ?_⟩
        rw [← r.length]; exact q _ _ (.imm (.int _))
      | str z =>
        simp only [prmD] at hg
        split at hg
        · rename_i hl
          cases hg
          cases h.str
          exact call_len_str pins s σ H _ us Q I rv ⟨z, rfl, by rw [← line_eq]; exact hl, q _ _ (.imm (.int _))⟩
        · cases hg
      | dict ps =>
        cases hg
        obtain ⟨a, kvs, rfl, r, z, hd, vs, rel, dd⟩ := dict_at I h
        cases rv with
        | cons rv rr =>
          cases rr
          cases rv
          refine call_len_dict hd dd (by rw [← rel.length]; rw [sizeLine_eq] at z; omega) ?_
          refine ⟨.int kvs.length, H, I.tok _, ⟨_, by rw [rel.length]⟩, ?_⟩
          rw [← r.length]; exact q _ _ (.imm (.int _))
      | _ => simp [prmD] at hg
theorem cs_all (hc : X.calm = true) : CallS T X (.builtin "all") (prmD .all) := by
  intro pins s σ H xs us Q Z ds m I rv hv hg q
  cases hv with
  | nil => simp [prmD] at hg
  | cons h hr =>
    cases hr with
    | cons _ _ => simp [prmD] at hg
    | nil =>
      rename_i d x
      cases d with
      | list xs =>
        simp only [prmD] at hg
        obtain ⟨bs, hb, rfl⟩ := Option.map_eq_some_iff.mp hg
        obtain ⟨a, vs, rfl, ha, r⟩ := h.list
        have e := r.bools hb
        subst e
        exact cr_all hc pins s σ H _ us Q I rv ⟨a, bs, rfl, ha, q _ _ (.imm (.bl _))⟩
      | _ => simp [prmD] at hg
theorem cs_any (hc : X.calm = true) : CallS T X (.builtin "any") (prmD .any) := by
  intro pins s σ H xs us Q Z ds m I rv hv hg q
  cases hv with
  | nil => simp [prmD] at hg
  | cons h hr =>
    cases hr with
    | cons _ _ => simp [prmD] at hg
    | nil =>
      rename_i d x
      cases d with
      | list xs =>
        simp only [prmD] at hg
        obtain ⟨bs, hb, rfl⟩ := Option.map_eq_some_iff.mp hg
        obtain ⟨a, vs, rfl, ha, r⟩ := h.list
        have e := r.bools hb
        subst e
        exact cr_any hc pins s σ H _ us Q I rv ⟨a, bs, rfl, ha, q _ _ (.imm (.bl _))⟩
      | _ => simp [prmD] at hg
theorem cs_max (hc : X.calm = true) : CallS T X (.builtin "max") (prmD .max) := by
  intro pins s σ H xs us Q Z ds m I rv hv hg q
  match ds, xs, hv with
  | [.int i, .int j], _, .cons h1 (.cons h2 .nil) =>
    cases hg
    cases h1.int; cases h2.int
    exact call_max2 hc pins s σ H _ us Q I rv ⟨i, j, rfl, q _ _ (.imm (.int _))⟩
theorem cs_min (hc : X.calm = true) : CallS T X (.builtin "min") (prmD .min) := by
  intro pins s σ H xs us Q Z ds m I rv hv hg q
  match ds, xs, hv with
  | [.int i, .int j], _, .cons h1 (.cons h2 .nil) =>
    cases hg
    cases h1.int; cases h2.int
    exact call_min2 hc pins s σ H _ us Q I rv ⟨i, j, rfl, q _ _ (.imm (.int _))⟩
theorem cs_abs : CallS T X (.builtin "abs") (prmD .abs) := by
  intro pins s σ H xs us Q Z ds m I rv hv hg q
  match ds, xs, hv with
  | [.int i], _, .cons h1 .nil =>
    cases hg
    cases h1.int
    exact call_abs pins s σ H _ us Q I rv ⟨i, rfl, q _ _ (.imm (.int _))⟩
theorem cs_tuple : CallS T X (.type "tuple") (prmD .tuple) := by
  intro pins s σ H xs us Q Z ds m I rv hv hg q
  cases hv with
  | nil => simp [prmD] at hg
  | cons h hr =>
    cases hr with
    | cons _ _ => simp [prmD] at hg
    | nil =>
      rename_i d x
      cases d with
      | list xs =>
        cases hg
        obtain ⟨a, vs, rfl, ha, r⟩ := h.list
        exact call_tuple_ofF pins s σ H _ us Q I rv ⟨a, vs, rfl, .inl ⟨ha, fun p o ho hp => q _ _ (.tup ho hp r)⟩⟩
      | tuple xs =>
        cases hg
        obtain ⟨a, vs, rfl, ha, pa, r⟩ := h.tupleP
        exact call_tuple_ofF pins s σ H _ us Q I rv ⟨a, vs, rfl, .inr ⟨ha, q _ _ (.imm (.tup ha pa r))⟩⟩
      | _ => simp [prmD] at hg
theorem cs_list : CallS T X (.type "list") (prmD .list) := by
  intro pins s σ H xs us Q Z ds m I rv hv hg q
  cases hv with
  | nil => simp [prmD] at hg
  | cons h hr =>
    cases hr with
    | cons _ _ => simp [prmD] at hg
    | nil =>
      rename_i d x
      cases d with
      | list xs =>
        cases hg
        obtain ⟨a, vs, rfl, ha, r⟩ := h.list
        exact call_list_of pins s σ H _ us Q I rv ⟨a, vs, rfl, .inl ha, fun p hp => q _ _ (.lst hp r)⟩
      | tuple xs =>
        cases hg
        obtain ⟨a, vs, rfl, ha, r⟩ := h.tuple
        exact call_list_of pins s σ H _ us Q I rv ⟨a, vs, rfl, .inr ha, fun p hp => q _ _ (.lst hp r)⟩
      | _ => simp [prmD] at hg
theorem pairs_rep {B : Mo} : ∀ {ds : List D} {vs : List V} {acc out : List (D × D)} {akv : List (Key × V)}, RDs B Z H ds vs → RKs B Z H acc akv → pairsK ds acc = some out →
    ∃ (as : List Addr) (kvs : List (Key × V)), vs = as.map V.ref ∧ Paired (fun p kv => SqT B.K H p [kV kv.1, kv.2]) as kvs ∧ RKs B Z H out (mergeK akv kvs)
  | _, _, acc, out, akv, .nil, ra, e => by
    simp [pairsK] at e; subst e
    exact ⟨[], [], rfl, .nil, ra⟩
  | d :: ds, _, acc, out, akv, .cons r rs, ra, e => by
    cases r with
    | @tup a vs' ds' hT _ rr =>
      have sh : ∃ k v q, ds' = [k, v] ∧ keyD k = some q ∧ pairsK ds (putK k v acc) = some out := by
        match ds', e with
        | [k, v], e =>
          simp only [pairsK] at e
          split at e
          · rename_i hk
            obtain ⟨q, hk⟩ := Option.isSome_iff_exists.mp hk
            exact ⟨k, v, q, rfl, hk, e⟩
          · cases e
        | [], e => simp [pairsK] at e
        | [_], e => simp [pairsK] at e
        | _ :: _ :: _ :: _, e => simp [pairsK] at e
      obtain ⟨k, v, q, rfl, hk, e⟩ := sh
      obtain ⟨y, rfl, rv⟩ : ∃ y, vs' = [kV q, y] ∧ RD B Z H v y := by
        cases rr with
        | cons rk rr =>
          cases rr with
          | cons rv rr =>
            cases rr
            rw [rk.key hk]
            exact ⟨_, rfl, rv⟩
      obtain ⟨as, kvs, e1, e2, e3⟩ := pairs_rep rs (ra.put hk rv) e
      exact ⟨a :: as, (q, y) :: kvs, by rw [e1]; rfl, .cons hT e2, e3⟩
    | _ => simp [pairsK] at e
theorem cs_dict (hc : X.calm = true) : CallS T X (.type "dict") (prmD .dict) := by
  intro pins s σ H xs us Q Z ds m I rv hv hg q
  cases hv with
  | nil => simp [prmD] at hg
  | cons h hr =>
    cases hr with
    | cons _ _ => simp [prmD] at hg
    | nil =>
      rename_i d x
      cases d with
      | list xs =>
        simp only [prmD] at hg
        obtain ⟨out, ho, rfl⟩ := Option.map_eq_some_iff.mp hg
        obtain ⟨a, vs, rfl, ha, r⟩ := h.list
        obtain ⟨as, kvs, e1, e2, e3⟩ := pairs_rep r .nil ho
        subst e1
        exact call_dictP hc pins s σ H _ us Q I rv ⟨a, as, kvs, rfl, ha, e2, fun p hp => q _ _ (.dic hp e3)⟩
      | tuple xs =>
        simp only [prmD] at hg
        split at hg
        · cases hg
        rename_i h2
        obtain ⟨out, ho, rfl⟩ := Option.map_eq_some_iff.mp hg
        obtain ⟨a, vs, rfl, ha, pa, r⟩ := h.tupleP
        obtain ⟨as, kvs, e1, e2, e3⟩ := pairs_rep r .nil ho
        subst e1
        exact call_dictPT hc pins s σ H _ us Q I rv ⟨a, as, kvs, rfl, ha, pa (Bool.eq_false_iff.mpr h2), e2, fun p hp => q _ _ (.dic hp e3)⟩
      | dict ps =>
        cases hg
        obtain ⟨a, kvs, rfl, r, z, hd, vs, rel, dd⟩ := dict_at I h
        obtain ⟨u, rfl, rx⟩ := vals1 rv
        cases rx
        refine kt_call_dict hd dd (by rw [← rel.length]; exact z) fun h' d' hs => ?_
        have hm : (s.heap.objs.size == sysModules) = false := beq_eq_false_iff_ne.mpr (Nat.ne_of_gt I.big)
        exact ⟨.ref s.heap.objs.size, upd H s.heap.objs.size (.dK kvs), I.laid (t' := s.toks) (fun b u e => (hs.2 b (Nat.ne_of_lt (Heap.lt_size e))).trans (Heap.get?_push_of_some _ e)) (Nat.le_refl _) ⟨z, hm, vs, rel, d'⟩, rfl, q _ _ (.dic (I.hok.fresh (Nat.le_refl _)) r)⟩
      | _ => simp [prmD] at hg
theorem kit_vw {d : D} {x : V} {u : Value} (I : Inv X pins σ H s) (rx : RelV x u) (h : Vw (X.mo T) Z H d x) : ∃ P : Heap → Prop, PySem.W.KitX X.K u (.type (tyD d)) P ∧ P s.heap ∧ u ≠ .builtin "__main__.__loader__#opaque" := by
  cases d with
  | none => cases h.none; exact kit_of I rx (.base .non)
  | bool b => cases h.bool; exact kit_of I rx (.base (.bl b))
  | int b => cases h.int; exact kit_of I rx (.base (.int b))
  | str b => cases h.str; exact kit_of I rx (.base (.str b))
  | tuple ds =>
    obtain ⟨a, vs, rfl, ha, r⟩ := h.tuple
    rcases ha with (ha | ⟨o, ha⟩) | ⟨o, its, n, hk, hc, _⟩
    · exact kit_of I rx (.base (.tup ha))
    · exact kit_of I rx (.fTuple ha)
    · exact kit_of I rx (.kTuple hk hc)
  | list ds =>
    obtain ⟨a, vs, rfl, ha, r⟩ := h.listR
    rcases ha with (ha | ⟨o, ha⟩) | ⟨its, n, hk, _⟩
    · exact kit_of I rx (.base (.lst ha))
    · exact kit_of I rx (.base (.frz ha))
    · exact kit_of I rx (.kList hk rfl)
  | dict ps =>
    obtain ⟨a, kvs, rfl, r, z, hd, vs, rel, dd⟩ := dict_at I h
    cases (show u = Value.ref a from rx)
    obtain ⟨o, es, ep, h1, h2, _⟩ := dd
    exact ⟨_, PySem.W.kitx_dict, ⟨o, h1, h2.1⟩, fun z => nomatch z⟩
theorem kit_ty {K : PySem.W.Frag} {t : String} {d : D} {b : Bool} (h : isiD t d = some b) : PySem.W.kitOne K (.type (tyD d)) (.type t) = some b := by
  unfold isiD at h
  split at h
  · rename_i hc
    have hm : t ∈ isiT := by simpa using hc
    simp only [isiT, List.mem_cons, List.not_mem_nil, or_false] at hm
    have hd : tyD d = "NoneType" ∨ tyD d = "bool" ∨ tyD d = "int" ∨ tyD d = "str" ∨ tyD d = "list" ∨ tyD d = "tuple" ∨ tyD d = "dict" := by cases d <;> simp [tyD]
    cases h
    rcases hm with rfl | rfl | rfl | rfl | rfl | rfl <;> rcases hd with e | e | e | e | e | e | e <;> rw [e] <;> rfl
  · cases h
end
end Iv
set_option linter.all false
set_option maxRecDepth 100000
set_option maxHeartbeats 1000000
/-! Iv4: readings by trees; operands. -/
namespace Iv
open PySem PySem.Spec PyProof.Rows L2
/-- what is asked of exceptions: how one stands for a tree's exception, and the wish -/
structure Ask where
  R : XV → Value → Option Addr → Hp → Prop
  W : WX
/-! ### how the heap goes on: kinds stay; an instance's own lists and dicts stay where they are -/
def mutO : HO → Bool
  | .lst _ => true
  | .dK _ => true
  | .frz _ (.dK _) => true
  | _ => false
def Evo (H : Hp) (o o' : HO) : Prop := match o with
  | .lst _ => ∃ ys, o' = .lst ys
  | .dK _ => (∃ ks, o' = .dK ks) ∨ ∃ od ks, o' = .frz od (.dK ks)
  | .tbl ps => ∃ qs, o' = .tbl qs
  | .ins C dx fvs => ∃ fvs', o' = .ins C dx fvs' ∧ ∀ x b u, fvs.lookup x = some (.ref b) → H b = some u → mutO u = true → fvs'.lookup x = some (.ref b)
  | o => o' = o
def Mono (H H' : Hp) : Prop := ∀ a o, H a = some o → (∀ ps, o ≠ .tbl ps) → ∃ o', H' a = some o' ∧ Evo H o o'
theorem Evo.refl {H : Hp} (o : HO) : Evo H o o := by
  cases o <;> first | exact ⟨_, rfl⟩ | exact .inl ⟨_, rfl⟩ | exact ⟨_, rfl, fun _ _ _ h _ _ => h⟩ | rfl
theorem Evo.mut {H : Hp} {o o' : HO} (h : Evo H o o') (m : mutO o = true) : mutO o' = true := by
  cases o with
  | lst xs => obtain ⟨ys, rfl⟩ := h; rfl
  | dK xs => rcases h with ⟨ys, rfl⟩ | ⟨od, ys, rfl⟩ <;> rfl
  | frz od u =>
    have e : o' = _ := h
    rw [e]
    exact m
  | _ => simp [mutO] at m
theorem Mono.of_ext {H H' : Hp} (h : ∀ b o, H b = some o → H' b = some o) : Mono H H' := fun a o e _ => ⟨o, h a o e, .refl o⟩
theorem Mono.refl {H : Hp} : Mono H H := .of_ext fun _ _ e => e
theorem Evo.noTbl {H : Hp} {o o' : HO} (h : Evo H o o') (n : ∀ ps, o ≠ .tbl ps) : ∀ ps, o' ≠ .tbl ps := by
  intro ps e
  subst e
  cases o <;> simp [Evo] at h n
theorem Mono.trans {H H1 H2 : Hp} (h : Mono H H1) (k : Mono H1 H2) : Mono H H2 := fun a o e n => by
  obtain ⟨o1, e1, v1⟩ := h a o e n
  obtain ⟨o2, e2, v2⟩ := k a o1 e1 (v1.noTbl n)
  refine ⟨o2, e2, ?_⟩
  cases o with
  | lst xs => obtain ⟨ys, rfl⟩ := v1; exact v2
  | dK xs =>
    rcases v1 with ⟨ys, rfl⟩ | ⟨od, ys, rfl⟩
    · exact v2
    · exact .inr ⟨od, ys, v2⟩
  | tbl xs => exact absurd rfl (n xs)
  | ins C dx fvs =>
    obtain ⟨f1, rfl, k1⟩ := v1
    obtain ⟨f2, rfl, k2⟩ := v2
    refine ⟨f2, rfl, fun x b u l hb m => ?_⟩
    have nu : ∀ ps, u ≠ .tbl ps := fun ps q => by rw [q] at m; cases m
    obtain ⟨u1, hb1, ev⟩ := h b u hb nu
    exact k2 x b u1 (k1 x b u l hb m) hb1 (ev.mut m)
  | _ =>
    have e : o1 = _ := v1
    subst e
    exact v2
section
variable (B : Mo) (A : Ask) (σ : L2.St) (fr : List (M × V))
def frT : Tmp → V → List (M × V) → List (M × V)
  | .val m, v, fr => (m, v) :: fr
  | .ref _ _, _, fr => fr
def TOk (B : Mo) (σ : L2.St) (H : Hp) : Tmp → V → Prop
  | .val _, _ => True
  | .ref i none, v => σ[i]? = some (some v)
  | .ref i (some f), v => ∃ a C dx fvs, σ[i]? = some (some (.ref a)) ∧ H a = some (.ins C dx fvs) ∧ ∃ x b u, B.T.fl[f]? = some x ∧ fvs.lookup x = some v ∧ v = .ref b ∧ H b = some u ∧ mutO u = true
def ExcA (H0 : Hp) (x : XV) (ρ : Rho) : Prop := ∀ cls d H, A.R x cls d H → Mono H0 H → Sta B ρ σ H fr → A.W cls d σ H
def After (H0 : Hp) (Q : VK) : O M → Prop
  | none => False
  | some (.ok m ρ) => ∀ v H, Mono H0 H → Sta B ρ σ H ((m, v) :: fr) → Q v H
  | some (.exc x ρ) => ExcA B A σ fr H0 x ρ
def AfterB (H0 : Hp) (Q : Bool → Hp → Prop) : O Bool → Prop
  | none => False
  | some (.ok b ρ) => ∀ H, Mono H0 H → Sta B ρ σ H fr → Q b H
  | some (.exc x ρ) => ExcA B A σ fr H0 x ρ
def AfterT (H0 : Hp) (Q : VK) : O Tmp → Prop
  | none => False
  | some (.ok t ρ) => ∀ v H, Mono H0 H → TOk B σ H t v → Sta B ρ σ H (frT t v fr) → Q v H
  | some (.exc x ρ) => ExcA B A σ fr H0 x ρ
def zipM : List M → List V → List (M × V)
  | m :: ms, v :: vs => (m, v) :: zipM ms vs
  | _, _ => []
inductive TOks (B : Mo) (σ : L2.St) (H : Hp) : List Tmp → List V → Prop
  | nil : TOks B σ H [] []
  | cons {t : Tmp} {v : V} {ts : List Tmp} {vs : List V} : TOk B σ H t v → TOks B σ H ts vs → TOks B σ H (t :: ts) (v :: vs)
def frTs : List Tmp → List V → List (M × V) → List (M × V)
  | t :: ts, v :: vs, fr => frTs ts vs (frT t v fr)
  | _, _, fr => fr
def AfterTs (H0 : Hp) (Q : List V → Hp → Prop) : O (List Tmp) → Prop
  | none => False
  | some (.ok ts ρ) => ∀ vs H, Mono H0 H → TOks B σ H ts vs → Sta B ρ σ H (frTs ts vs fr) → Q vs H
  | some (.exc x ρ) => ExcA B A σ fr H0 x ρ
theorem TOk.mono {B : Mo} {σ : L2.St} {H H' : Hp} {t : Tmp} {v : V} (h : TOk B σ H t v) (m : Mono H H') : TOk B σ H' t v := by
  cases t with
  | val _ => trivial
  | ref i f =>
    cases f with
    | none => exact h
    | some f =>
      obtain ⟨a, C, dx, fvs, h1, h2, x, b, u, h3, h4, rfl, h5, h6⟩ := h
      obtain ⟨o', e', ev⟩ := m a _ h2 (fun _ q => nomatch q)
      obtain ⟨fvs', rfl, k⟩ := ev
      obtain ⟨u', eu, evu⟩ := m b u h5 (fun ps q => by rw [q] at h6; cases h6)
      exact ⟨a, C, dx, fvs', h1, e', x, b, u', h3, k x b u h4 h5 h6, rfl, eu, evu.mut h6⟩
theorem TOks.mono {B : Mo} {σ : L2.St} {H H' : Hp} (m : Mono H H') : ∀ {ts : List Tmp} {vs : List V}, TOks B σ H ts vs → TOks B σ H' ts vs
  | _, _, .nil => .nil
  | _, _, .cons h r => .cons (h.mono m) (TOks.mono m r)
end
section
variable {B : Mo} {A : Ask} {σ : L2.St} {fr : List (M × V)} {ρ : Rho} {H : Hp}
theorem Sta.dropT {t : Tmp} {v : V} (h : Sta B ρ σ H (frT t v fr)) : Sta B ρ σ H fr := by
  cases t with
  | val m => exact h.drop
  | ref i f => exact h
theorem Sta.dropTs : ∀ {ts : List Tmp} {vs : List V} {fr : List (M × V)}, Sta B ρ σ H (frTs ts vs fr) → Sta B ρ σ H fr
  | [], _, _, h => h
  | _ :: _, [], _, h => h
  | _ :: ts, _ :: vs, fr, h => (Sta.dropTs (ts := ts) (vs := vs) h).dropT
theorem Sta.dropZ : ∀ {ms : List M} {vs : List V}, Sta B ρ σ H (zipM ms vs ++ fr) → Sta B ρ σ H fr
  | [], _, h => by simpa [zipM] using h
  | _ :: _, [], h => by simpa [zipM] using h
  | _ :: ms, _ :: vs, h => Sta.dropZ (ms := ms) (vs := vs) (Sta.drop h)
theorem ExcA.drop {H0 : Hp} {x : XV} {p : M × V} (h : ExcA B A σ fr H0 x ρ) : ExcA B A σ (p :: fr) H0 x ρ := fun cls d H r m s => h cls d H r m s.drop
theorem ExcA.dropT {H0 : Hp} {x : XV} {t : Tmp} {v : V} (h : ExcA B A σ fr H0 x ρ) : ExcA B A σ (frT t v fr) H0 x ρ := fun cls d H r m s => h cls d H r m s.dropT
theorem ExcA.mono {H0 H1 : Hp} {x : XV} (h : ExcA B A σ fr H0 x ρ) (k : Mono H0 H1) : ExcA B A σ fr H1 x ρ := fun cls d H r m s => h cls d H r (k.trans m) s
/-! ### looking at operands -/
theorem RMs.mem {Z : Addr → Prop} {m : M} {v : V} : ∀ {l : List (M × V)} {fp : List Addr}, RMs B Z H l fp → (m, v) ∈ l → ∃ fq, RM B Z H m v fq
  | _, _, .nil, h => nomatch h
  | _, _, .cons r rs, h => by
    rcases List.mem_cons.mp h with e | h
    · cases e; exact ⟨_, r⟩
    · exact RMs.mem rs h
theorem RM.vw {Z : Addr → Prop} {m : M} {v : V} {fp : List Addr} {d : D} (r : RM B Z H m v fp) (e : view m = some d) : Vw B Z H d v := by
  cases r with
  | imm r => cases e; exact .inl r
  | lst h r => cases e; exact .inr (.inl ⟨_, _, _, rfl, rfl, h, r⟩)
  | dic h r => cases e; exact .inr (.inr ⟨_, _, _, rfl, rfl, h, r⟩)
  | ins h c r => cases e
  | exc h r => cases e
  | thk t r h => cases e
theorem env_mem {ρ : Rho} {σ : L2.St} {l : List (M × V)} {i : Nat} {m : M} (r : EnvR ρ σ l) (e : getS ρ i = some m) : ∃ v, σ[i]? = some (some v) ∧ (m, v) ∈ l := by
  obtain ⟨v, l', h1, _, h3⟩ := r.take e
  exact ⟨v, h1, h3.mem_iff.mpr List.mem_cons_self⟩
theorem RF.look {Z : Addr → Prop} {f : Nat} {x : Str} (hx : B.T.fl[f]? = some x) : ∀ {fs : List (Nat × M)} {fvs : List (Str × V)} {fp : List Addr} {m : M}, RF B Z H fs fvs fp → lookF fs f = some m → ∃ v fq, fvs.lookup x = some v ∧ RM B Z H m v fq
  | _, _, _, m, .nil, e => by simp [lookF] at e
  | _, _, _, m, @RF.cons _ _ _ g y n v fs fvs fp fq hy r rs, e => by
    by_cases h : f = g
    · subst h
      rw [hx] at hy; cases hy
      simp only [lookF, List.lookup_cons, beq_self_eq_true] at e
      cases e
      exact ⟨v, fp, by simp [List.lookup_cons], r⟩
    · have hne : x ≠ y := fun e => h (by
        subst e
        obtain ⟨h1, e1⟩ := List.getElem?_eq_some_iff.mp hx
        obtain ⟨h2, e2⟩ := List.getElem?_eq_some_iff.mp hy
        exact (List.getElem_inj B.T.nd).mp (e1.trans e2.symm))
      have e' : lookF fs f = some m := by
        simp only [lookF, List.lookup_cons] at e ⊢
        rw [show (f == g) = false by simpa using h] at e
        exact e
      obtain ⟨v', fq', h1, h2⟩ := RF.look hx rs e'
      refine ⟨v', fq', ?_, h2⟩
      rw [List.lookup_cons, show (x == y) = false by simpa using hne]
      exact h1
/-- an operand in its slot, as it stands -/
theorem look_slot {Z : Addr → Prop} {l : List (M × V)} {fp : List Addr} (env : EnvR ρ σ l) (sub : ∀ p ∈ l, ∃ fq, RM B Z H p.1 p.2 fq) {t : Tmp} {v : V} {d : D} (own : ∀ m, t = .val m → ∃ fq, RM B Z H m v fq) (ok : TOk B σ H t v) (e : t.look ρ = some d) : Vw B Z H d v := by
  cases t with
  | val m =>
    obtain ⟨fq, r⟩ := own m rfl
    exact r.vw e
  | ref i f =>
    cases f with
    | none =>
      simp only [Tmp.look, getP] at e
      cases hg : getS ρ i with
      | none => rw [hg] at e; cases e
      | some m =>
        rw [hg] at e
        obtain ⟨v', h1, h2⟩ := env_mem env hg
        have : σ[i]? = some (some v) := ok
        rw [h1] at this; cases this
        obtain ⟨fq, r⟩ := sub _ h2
        exact r.vw e
    | some f =>
      obtain ⟨a, C, dx, fvs, h1, h2, x, _, _, hx, h3, _⟩ := ok
      simp only [Tmp.look, getP] at e
      cases hg : getS ρ i with
      | none => rw [hg] at e; cases e
      | some m =>
        rw [hg] at e
        obtain ⟨v', g1, g2⟩ := env_mem env hg
        rw [h1] at g1; cases g1
        obtain ⟨fq, r⟩ := sub _ g2
        cases r with
        | ins h c rf =>
          rw [h2] at h; cases h
          rename_i fs _
          cases hl : lookF fs f with
          | none => simp [hl] at e
          | some m' =>
            simp only [hl] at e
            obtain ⟨v'', fq', k1, k2⟩ := rf.look hx hl
            rw [h3] at k1; cases k1
            exact k2.vw e
        | _ => cases e
theorem frTs_mem : ∀ {ts : List Tmp} {vs : List V} {fr : List (M × V)} {p : M × V}, p ∈ fr → p ∈ frTs ts vs fr
  | [], _, _, _, h => h
  | _ :: _, [], _, _, h => h
  | t :: ts, v :: vs, fr, p, h => frTs_mem (ts := ts) (vs := vs) (by cases t <;> simp [frT, h])
theorem looks_all {Z : Addr → Prop} {l : List (M × V)} (env : EnvR ρ σ l) (sub : ∀ p ∈ l, ∃ fq, RM B Z H p.1 p.2 fq) : ∀ {ts : List Tmp} {vs : List V} {ds : List D} {fr : List (M × V)}, (∀ p ∈ frTs ts vs fr, ∃ fq, RM B Z H p.1 p.2 fq) → TOks B σ H ts vs → lookAll ρ ts = some ds → Vws B Z H ds vs
  | [], _, ds, fr, _, .nil, e => by simp [lookAll] at e; subst e; exact .nil
  | t :: ts, v :: vs, ds, fr, hf, .cons ok oks, e => by
    simp only [lookAll] at e
    cases hd : t.look ρ with
    | none => rw [hd] at e; cases e
    | some d =>
      rw [hd] at e
      cases hds : lookAll ρ ts with
      | none => rw [hds] at e; cases e
      | some ds' =>
        rw [hds] at e
        cases e
        refine .cons (look_slot (fp := []) env sub (fun m e => ?_) ok hd) (looks_all env sub (fr := frT t v fr) hf oks hds)
        subst e
        exact hf (m, v) (frTs_mem (ts := ts) (vs := vs) (fr := (m, v) :: fr) List.mem_cons_self)
/-- the operands are looked at, a new value is told, the operands are gone -/
theorem Sta.looks {ts : List Tmp} {vs : List V} {ds : List D} (h : Sta B ρ σ H (frTs ts vs fr)) (ok : TOks B σ H ts vs) (e : lookAll ρ ts = some ds) : ∃ Z, Vws B Z H ds vs ∧ ∀ H' m z, New B Z H H' m z → Sta B ρ σ H' ((m, z) :: fr) := by
  obtain ⟨l, env, Z, fp, lv⟩ := h
  refine ⟨Z, looks_all env (fun p hp => lv.rep.mem (List.mem_append_left _ hp)) (fun p hp => lv.rep.mem (List.mem_append_right _ hp)) ok e, fun H' m z n => ?_⟩
  obtain ⟨ext, fq, r, nd, new⟩ := n
  have key : ∀ (ts : List Tmp) (vs : List V) (fr : List (M × V)) (fp : List Addr), Lv B Z H (frTs ts vs fr ++ l) fp → ∃ fq, Lv B Z H (fr ++ l) fq := by
    intro ts
    induction ts with
    | nil => intro vs fr fp h; exact ⟨fp, h⟩
    | cons t ts ih =>
      intro vs fr fp h
      cases vs with
      | nil => exact ⟨fp, h⟩
      | cons v vs =>
        obtain ⟨fq, h'⟩ := ih vs (frT t v fr) fp h
        cases t with
        | val m => exact h'.drop
        | ref i f => exact ⟨fq, h'⟩
  obtain ⟨f1, l1⟩ := lv.perm List.perm_append_comm
  obtain ⟨f2, l2⟩ := key ts vs fr f1 l1
  obtain ⟨f3, l3⟩ := (l2.add ext r nd new).perm (l' := l ++ (m, z) :: fr) ((List.perm_append_comm (l₁ := fr) (l₂ := l)).cons _ |>.trans List.perm_middle.symm)
  exact ⟨l, env, Z, f3, l3⟩
end
end Iv
set_option linter.all false
set_option maxRecDepth 100000
set_option maxHeartbeats 1000000
/-! Iv5: readings of the small language's expressions, and how they are put together. -/
namespace Iv
open PySem PySem.Spec PyProof.Rows L2
def frDs : List D → List V → List (M × V) → List (M × V)
  | d :: ds, v :: vs, fr => frDs ds vs ((.imm d, v) :: fr)
  | _, _, fr => fr
section
variable (B : Mo) (A : Ask) (sg : Sig) (cf : CallFn)
def AfterD (σ : L2.St) (fr : List (M × V)) (H0 : Hp) (Q : List V → Hp → Prop) : O (List D) → Prop
  | none => False
  | some (.ok ds ρ) => ∀ vs H, Mono H0 H → vs.length = ds.length → Sta B ρ σ H (frDs ds vs fr) → Q vs H
  | some (.exc x ρ) => ExcA B A σ fr H0 x ρ
def tI (c : Ex) : TE := fun σ H Q => ∃ ρ fr, Sta B ρ σ H fr ∧ After B A σ fr H Q (eval sg cf c ρ)
def tO (c : Ex) : TE := fun σ H Q => ∃ ρ fr, Sta B ρ σ H fr ∧ AfterT B A σ fr H Q (opd c (eval sg cf c) ρ)
def tT (c : Ex) : TT := fun σ H Q => ∃ ρ fr, Sta B ρ σ H fr ∧ AfterB B A σ fr H Q (oBool (eval sg cf c ρ))
def tDs (cs : List Ex) : TA := fun σ H Q => ∃ ρ fr, Sta B ρ σ H fr ∧ AfterD B A σ fr H Q (evals sg cf cs ρ)
def tOs (cs : List Ex) : TA := fun σ H Q => ∃ ρ fr, Sta B ρ σ H fr ∧ AfterTs B A σ fr H Q (opds sg cf cs ρ)
def tAs (rs : List Nat) (j : Nat) (cs : List Ex) : TA := fun σ H Q => ∃ ρ fr, Sta B ρ σ H fr ∧ AfterTs B A σ fr H Q (args sg cf rs j cs ρ)
structure SE (X : Cx) (e : Expr) (c : Ex) : Prop where
  pe : PE X e (tI B A sg cf c)
  po : PE X e (tO B A sg cf c)
  pt : PT X e (tT B A sg cf c)
end
theorem _root_.L2.PE.imp {X : Cx} {e : Expr} {t t' : TE} (h : PE X e t) (i : ∀ σ H Q, t' σ H Q → t σ H Q) : PE X e t' := ⟨fun pins s σ H Q I q => h.run pins s σ H Q I (i σ H Q q)⟩
theorem _root_.L2.PT.imp {X : Cx} {e : Expr} {t t' : TT} (h : PT X e t) (i : ∀ σ H Q, t' σ H Q → t σ H Q) : PT X e t' := ⟨fun pins s σ H Q I q => h.run pins s σ H Q I (i σ H Q q)⟩
theorem _root_.L2.PA.imp {X : Cx} {e : List Expr} {t t' : TA} (h : PA X e t) (i : ∀ σ H Q, t' σ H Q → t σ H Q) : PA X e t' := ⟨fun pos pins s σ H Q I q => h.run pos pins s σ H Q I (i σ H Q q)⟩
section
variable {B : Mo} {A : Ask} {sg : Sig} {cf : CallFn} {X : Cx} {σ : L2.St} {fr : List (M × V)} {H H0 H1 : Hp} {ρ : Rho}
theorem After.mono {Q : VK} {o : O M} (h : After B A σ fr H0 Q o) (m : Mono H0 H1) : After B A σ fr H1 Q o := by
  cases o with
  | none => exact h
  | some r =>
    cases r with
    | ok a ρ => exact fun v H k => h v H (m.trans k)
    | exc x ρ => exact ExcA.mono h m
theorem AfterT.mono {Q : VK} {o : O Tmp} (h : AfterT B A σ fr H0 Q o) (m : Mono H0 H1) : AfterT B A σ fr H1 Q o := by
  cases o with
  | none => exact h
  | some r =>
    cases r with
    | ok a ρ => exact fun v H k => h v H (m.trans k)
    | exc x ρ => exact ExcA.mono h m
/-- behind an expression: the value in hand, go on -/
theorem After.bind {α : Type} {x : O M} {f : M → Rho → O α} {P : O α → Prop} {Q : VK} (h : P (O.bind x f)) (h0 : ¬ P none) (hx : ∀ e ρ, P (some (.exc e ρ)) → ExcA B A σ fr H0 e ρ)
    (k : ∀ m ρ v H, x = some (.ok m ρ) → P (f m ρ) → Mono H0 H → Sta B ρ σ H ((m, v) :: fr) → Q v H) : After B A σ fr H0 Q x := by
  cases x with
  | none => exact absurd h h0
  | some r =>
    cases r with
    | ok m ρ => exact fun v H m' s => k m ρ v H rfl h m' s
    | exc e ρ => exact hx e ρ h
theorem AfterT.bind {α : Type} {x : O Tmp} {f : Tmp → Rho → O α} {P : O α → Prop} {Q : VK} (h : P (O.bind x f)) (h0 : ¬ P none) (hx : ∀ e ρ, P (some (.exc e ρ)) → ExcA B A σ fr H0 e ρ)
    (k : ∀ t ρ v H, x = some (.ok t ρ) → P (f t ρ) → Mono H0 H → TOk B σ H t v → Sta B ρ σ H (frT t v fr) → Q v H) : AfterT B A σ fr H0 Q x := by
  cases x with
  | none => exact absurd h h0
  | some r =>
    cases r with
    | ok m ρ => exact fun v H m' o s => k m ρ v H rfl h m' o s
    | exc e ρ => exact hx e ρ h
theorem AfterTs.bind {α : Type} {x : O (List Tmp)} {f : List Tmp → Rho → O α} {P : O α → Prop} {Q : List V → Hp → Prop} (h : P (O.bind x f)) (h0 : ¬ P none) (hx : ∀ e ρ, P (some (.exc e ρ)) → ExcA B A σ fr H0 e ρ)
    (k : ∀ t ρ v H, x = some (.ok t ρ) → P (f t ρ) → Mono H0 H → TOks B σ H t v → Sta B ρ σ H (frTs t v fr) → Q v H) : AfterTs B A σ fr H0 Q x := by
  cases x with
  | none => exact absurd h h0
  | some r =>
    cases r with
    | ok m ρ => exact fun v H m' o s => k m ρ v H rfl h m' o s
    | exc e ρ => exact hx e ρ h
theorem AfterD.bind {α : Type} {x : O (List D)} {f : List D → Rho → O α} {P : O α → Prop} {Q : List V → Hp → Prop} (h : P (O.bind x f)) (h0 : ¬ P none) (hx : ∀ e ρ, P (some (.exc e ρ)) → ExcA B A σ fr H0 e ρ)
    (k : ∀ ds ρ v H, x = some (.ok ds ρ) → P (f ds ρ) → Mono H0 H → v.length = ds.length → Sta B ρ σ H (frDs ds v fr) → Q v H) : AfterD B A σ fr H0 Q x := by
  cases x with
  | none => exact absurd h h0
  | some r =>
    cases r with
    | ok m ρ => exact fun v H m' o s => k m ρ v H rfl h m' o s
    | exc e ρ => exact hx e ρ h
theorem AfterB.bind {α : Type} {x : O M} {f : Bool → Rho → O α} {P : O α → Prop} {Q : Bool → Hp → Prop} (h : P (O.bind (oBool x) f)) (h0 : ¬ P none) (hx : ∀ e ρ, P (some (.exc e ρ)) → ExcA B A σ fr H0 e ρ)
    (k : ∀ b ρ H, P (f b ρ) → Mono H0 H → Sta B ρ σ H fr → Q b H) : AfterB B A σ fr H0 Q (oBool x) := by
  generalize hy : oBool x = y at h ⊢
  cases y with
  | none => exact absurd h h0
  | some r =>
    cases r with
    | ok b ρ => exact fun H m' s => k b ρ H h m' s
    | exc e ρ => exact hx e ρ h
theorem nA {Q : VK} : ¬ After B A σ fr H0 Q none := fun h => h
theorem nB {Q : Bool → Hp → Prop} : ¬ AfterB B A σ fr H0 Q none := fun h => h
theorem xA {Q : VK} : ∀ e ρ, After B A σ fr H0 Q (some (.exc e ρ)) → ExcA B A σ fr H0 e ρ := fun _ _ h => h
theorem xB {Q : Bool → Hp → Prop} : ∀ e ρ, AfterB B A σ fr H0 Q (some (.exc e ρ)) → ExcA B A σ fr H0 e ρ := fun _ _ h => h
/-- an operand that is no slot -/
def plainX : Ex → Bool
  | .var _ => false
  | .fld _ _ => false
  | _ => true
theorem opd_plain {c : Ex} {ev : Rho → O M} (h : plainX c = true) : opd c ev ρ = O.bind (ev ρ) fun m ρ => some (.ok (.val m) ρ) := by
  cases c <;> first | rfl | simp [plainX] at h
theorem SE.o_of {e : Expr} {c : Ex} (h : plainX c = true) (p : PE X e (tI B A sg cf c)) : PE X e (tO B A sg cf c) := p.imp fun σ H Q ⟨ρ, fr, s, q⟩ => by
  refine ⟨ρ, fr, s, ?_⟩
  rw [opd_plain h] at q
  refine After.bind (P := AfterT B A σ fr H Q) q (fun h => h) (fun _ _ h => h) fun m ρ v H1 _ q m' s => ?_
  exact q v H1 m' trivial s
/-- a test by its value -/
theorem SE.t_of {e : Expr} {c : Ex} (p : PE X e (tI B A sg cf c)) (he : ∀ whole, isTrue e X.env whole = (do let v ← whole; standAt e.pos; holding [v] (truthy v))) : PT X e (tT B A sg cf c) := by
  refine (pt_val p he).imp fun σ H Q ⟨ρ, fr, s, q⟩ => ⟨ρ, fr, s, ?_⟩
  refine After.bind (P := AfterB B A σ fr H Q) q (fun h => h) (fun _ _ h => h) fun m ρ v H1 _ q m' s => ?_
  cases ht : truth m with
  | none => rw [ht] at q; exact q.elim
  | some b =>
    rw [ht] at q
    have hm : m = .imm (.bool b) := by
      cases m with
      | imm d => cases d <;> simp [truth] at ht; subst ht; rfl
      | _ => simp [truth] at ht
    subst hm
    refine ⟨b, ?_, q H1 m' s.drop⟩
    obtain ⟨l, _, Z, fp, lv⟩ := s
    obtain ⟨fq, r⟩ := lv.rep.mem (m := .imm (.bool b)) (v := v) (List.mem_append_right _ List.mem_cons_self)
    cases r with
    | imm r => cases r; rfl
def plainT : Expr → Bool
  | .UnaryOp .Not _ _ => false
  | .BoolOp _ _ _ => false
  | .IfExp _ _ _ _ => false
  | .Compare _ _ _ _ => false
  | _ => true
theorem plainT_ok {e : Expr} {env : Env} (h : plainT e = true) (whole : Sem Value) : isTrue e env whole = (do let v ← whole; standAt e.pos; holding [v] (truthy v)) := by
  cases e with
  | UnaryOp op x p => cases op <;> first | rfl | simp [plainT] at h
  | BoolOp _ _ _ => simp [plainT] at h
  | IfExp _ _ _ _ => simp [plainT] at h
  | Compare _ _ _ _ => simp [plainT] at h
  | _ => rfl
theorem SE.of {e : Expr} {c : Ex} (hc : plainX c = true) (he : plainT e = true) (p : PE X e (tI B A sg cf c)) : SE B A sg cf X e c := ⟨p, SE.o_of hc p, SE.t_of p (plainT_ok he)⟩
/-- what never runs -/
theorem SE.bad {e : Expr} {c : Ex} (h1 : ∀ ρ, eval sg cf c ρ = none) (h2 : plainX c = true) : SE B A sg cf X e c where
  pe := ⟨fun pins s σ H Q I ⟨ρ, fr, _, q⟩ => by rw [h1] at q; exact q.elim⟩
  po := ⟨fun pins s σ H Q I ⟨ρ, fr, _, q⟩ => by rw [opd_plain h2, h1] at q; exact q.elim⟩
  pt := ⟨fun pins s σ H Q I ⟨ρ, fr, _, q⟩ => by rw [h1] at q; exact q.elim⟩
/-! ### constants and slots -/
theorem sta_imm {d : D} {v : V} (s : Sta B ρ σ H fr) (r : ∀ Z, RD B Z H d v) : Sta B ρ σ H ((.imm d, v) :: fr) := by
  obtain ⟨l, e, Z, fp, lv⟩ := s
  have l2 := lv.add (m := .imm d) (v := v) (fq := []) (fun _ _ e => e) (.imm (r Z)) .nil (fun _ h => nomatch h)
  obtain ⟨f3, l3⟩ := l2.perm List.perm_middle.symm
  exact ⟨l, e, Z, f3, l3⟩
theorem se_cst {e : Expr} {d : D} {v : V} (he : plainT e = true) (p : PE X e (tC v)) (r : ∀ Z H, RD B Z H d v) : SE B A sg cf X e (.cst d) := by
  refine .of rfl he (p.imp fun σ H Q ⟨ρ, fr, s, q⟩ => ?_)
  exact q v H .refl (sta_imm s fun Z => r Z H)
theorem putS_same {i : Nat} {m : M} (h : getS ρ i = some m) : putS ρ i m = ρ := by
  unfold getS at h
  unfold putS
  cases e : ρ[i]? with
  | none => rw [e] at h; cases h
  | some x =>
    rw [e] at h
    have hx : x = some m := h
    obtain ⟨hi, e'⟩ := List.getElem?_eq_some_iff.mp e
    rw [← hx, ← e']
    exact List.set_getElem_self hi
theorem sta_copy {i : Nat} {Q : VK} (s : Sta B ρ σ H fr) (q : After B A σ fr H Q (copy ρ i)) : ∃ v, σ[i]? = some (some v) ∧ Q v H := by
  unfold copy at q
  cases hg : getS ρ i with
  | none => rw [hg] at q; exact q.elim
  | some m =>
    obtain ⟨v, hv, s1⟩ := s.take hg
    refine ⟨v, hv, ?_⟩
    rw [hg] at q
    have key : ∀ d, view m = some d → Sta B (putS ρ i (.imm d)) σ H ((.imm d, v) :: fr) := fun d e =>
      Sta.refill (s1.head fun l h => (h.freeze e).dup) hv
    cases m with
    | imm d =>
      have k := key d rfl
      rw [putS_same hg] at k
      exact q v H .refl k
    | lst xs => exact q v H .refl (key _ rfl)
    | dic xs => exact q v H .refl (key _ rfl)
    | ins c fs => exact q.elim
    | thk _ _ _ _ => exact q.elim
    | exc x =>
      have k : Sta B (putS ρ i (.exc x)) σ H ((.exc x, v) :: fr) := Sta.refill (s1.head fun l h => h.dupX) hv
      rw [putS_same hg] at k
      exact q v H .refl k
theorem sta_get {i : Nat} {m : M} (s : Sta B ρ σ H fr) (hg : getS ρ i = some m) : ∃ v, σ[i]? = some (some v) := by
  obtain ⟨l, e, _⟩ := s
  obtain ⟨v, h, _⟩ := env_mem e hg
  exact ⟨v, h⟩
theorem sta_opd {i : Nat} {Q : VK} {ev : Rho → O M} (s : Sta B ρ σ H fr) (q : AfterT B A σ fr H Q (opd (.var i) ev ρ)) : ∃ v, σ[i]? = some (some v) ∧ Q v H := by
  simp only [opd] at q
  cases hg : getS ρ i with
  | none => rw [hg] at q; exact q.elim
  | some m =>
    rw [hg] at q
    obtain ⟨v, hv⟩ := sta_get s hg
    exact ⟨v, hv, q v H .refl hv s⟩
theorem se_var {e : Expr} {i : Nat} (he : plainT e = true) (p : PE X e (tVar i)) : SE B A sg cf X e (.var i) := by
  have h : PE X e (tI B A sg cf (.var i)) := p.imp fun σ H Q ⟨ρ, fr, s, q⟩ => sta_copy s q
  exact ⟨h, p.imp fun σ H Q ⟨ρ, fr, s, q⟩ => sta_opd s q, SE.t_of h (plainT_ok he)⟩
/-! ### two operands -/
def rS (B : Mo) (g : D → D → Option M) : R2 := fun x y H Q => ∃ Z d e m, Vw B Z H d x ∧ Vw B Z H e y ∧ g d e = some m ∧ ∀ z H', New B Z H H' m z → Q z H'
theorem OpS.opR {T : Flds} {f : Value → Value → Sem Value} {g : D → D → Option M} (h : OpS T X f g) : OpR X f (rS (X.mo T) g) := fun pins s σ H x y v u Q I rx ry ⟨Z, d, e, m, h1, h2, h3, q⟩ => h pins s σ H x y v u Q Z d e m I rx ry h1 h2 h3 q
/-- both operands are there: P is what is asked behind (After .. or AfterB ..) -/
theorem two_ops {a b : Ex} {α : Type} {R : V → V → Hp → Prop} {P : O α → Prop} {f : Tmp → Tmp → Rho → O α} (s : Sta B ρ σ H fr) (q : P (O.bind (opd a (eval sg cf a) ρ) fun t ρ => O.bind (opd b (eval sg cf b) ρ) fun u ρ => f t u ρ)) (h0 : ¬ P none) (hx : ∀ e ρ, P (some (.exc e ρ)) → ExcA B A σ fr H e ρ)
    (k : ∀ t u ρ x y H2, P (f t u ρ) → Mono H H2 → TOk B σ H2 t x → TOk B σ H2 u y → Sta B ρ σ H2 (frT u y (frT t x fr)) → R x y H2) :
    tO B A sg cf a σ H fun x H1 => tO B A sg cf b σ H1 fun y H2 => R x y H2 := by
  refine ⟨ρ, fr, s, AfterT.bind (P := P) q h0 hx fun t ρ1 x H1 _ q1 m1 o1 s1 => ⟨ρ1, _, s1, AfterT.bind (P := P) q1 h0 (fun e ρ h => ((hx e ρ h).mono m1).dropT) fun u ρ2 y H2 _ q2 m2 o2 s2 => ?_⟩⟩
  exact k t u ρ2 x y H2 q2 (m1.trans m2) (o1.mono m2) o2 s2
theorem look2 {t u : Tmp} {x y : V} {d e : D} (s : Sta B ρ σ H (frT u y (frT t x fr))) (ot : TOk B σ H t x) (ou : TOk B σ H u y) (ht : t.look ρ = some d) (hu : u.look ρ = some e) : ∃ Z, Vw B Z H d x ∧ Vw B Z H e y ∧ ∀ H' m z, New B Z H H' m z → Sta B ρ σ H' ((m, z) :: fr) := by
  obtain ⟨Z, v, k⟩ := Sta.looks (ts := [t, u]) (vs := [x, y]) s (.cons ot (.cons ou .nil)) (by simp [lookAll, ht, hu] : lookAll ρ [t, u] = some [d, e])
  cases v with
  | cons v1 v =>
    cases v with
    | cons v2 v => exact ⟨Z, v1, v2, k⟩
theorem bind2_some {α β γ : Type} {x : Option α} {y : Option β} {f : α → β → Option γ} {c : γ} (h : (x.bind fun a => y.bind fun b => f a b) = some c) : ∃ a b, x = some a ∧ y = some b ∧ f a b = some c := by
  cases x with
  | none => cases h
  | some a =>
    cases y with
    | none => cases h
    | some b => exact ⟨a, b, rfl, rfl, h⟩
/-- an operator's reading from the tree's -/
theorem op_read {T : Flds} {a b : Ex} {g : D → D → Option M} {Q : VK} (s : Sta (X.mo T) ρ σ H fr)
    (q : After (X.mo T) A σ fr H Q (O.bind (opd a (eval sg cf a) ρ) fun t ρ => O.bind (opd b (eval sg cf b) ρ) fun u ρ => ofM ρ ((t.look ρ).bind fun d => (u.look ρ).bind fun e => g d e))) :
    tOp (rS (X.mo T) g) (tO (X.mo T) A sg cf a) (tO (X.mo T) A sg cf b) σ H Q := by
  refine two_ops (P := After (X.mo T) A σ fr H Q) s q nA xA fun t u ρ2 x y H2 q2 m ot ou s2 => ?_
  cases hg : ((t.look ρ2).bind fun d => (u.look ρ2).bind fun e => g d e) with
  | none => rw [hg] at q2; exact q2.elim
  | some r =>
    rw [hg] at q2
    obtain ⟨d, e, h1, h2, h3⟩ := bind2_some hg
    obtain ⟨Z, v1, v2, k⟩ := look2 s2 ot ou h1 h2
    exact ⟨Z, d, e, r, v1, v2, h3, fun z H' n => q2 z H' (m.trans (.of_ext n.1)) (k H' r z n)⟩
theorem se_bin {T : Flds} {a b : Expr} {ca cb : Ex} {o : Bop} {pos : Pos} (ha : SE (X.mo T) A sg cf X a ca) (hb : SE (X.mo T) A sg cf X b cb) : SE (X.mo T) A sg cf X (.BinOp a (opOf o) b pos) (.bin o ca cb) := by
  refine .of rfl rfl ((pe_op (OpS.opR (T := T) (op_bop o)) ha.po hb.po).imp fun σ H Q ⟨ρ, fr, s, q⟩ => op_read s q)
theorem cop_eq (o : Cop) (t u : Tmp) (ρ : Rho) : ofB ρ (cop o t u ρ) = ofM ρ ((t.look ρ).bind fun d => (u.look ρ).bind fun e => cmpM o d e) := by
  unfold cop cmpM ofB ofM
  cases t.look ρ with
  | none => rfl
  | some d =>
    cases u.look ρ with
    | none => rfl
    | some e =>
      show Option.map _ (copD o d e) = Option.map _ ((copD o d e).map _)
      cases copD o d e <;> rfl
theorem imm_bool {b : Bool} {v : V} (s : Sta B ρ σ H ((.imm (.bool b), v) :: fr)) : v = .bl b := by
  obtain ⟨l, _, Z, fp, lv⟩ := s
  obtain ⟨fq, r⟩ := lv.rep.mem (m := .imm (.bool b)) (v := v) (List.mem_append_right _ List.mem_cons_self)
  cases r with
  | imm r => cases r; rfl
/-- a test from a value's rule, where the tests' own rule has the same reading -/
theorem tTest_of {t : TE} {c : Ex} (i : ∀ σ H Q, tI B A sg cf c σ H Q → t σ H Q) : ∀ σ H Q, tT B A sg cf c σ H Q → tTest t σ H Q := fun σ H Q ⟨ρ, fr, s, q⟩ => by
  refine i σ H _ ⟨ρ, fr, s, ?_⟩
  refine After.bind (P := AfterB B A σ fr H Q) q (fun h => h) (fun _ _ h => h) fun m ρ v H1 _ q m' s => ?_
  cases ht : truth m with
  | none => rw [ht] at q; exact q.elim
  | some b =>
    rw [ht] at q
    have hm : m = .imm (.bool b) := by
      cases m with
      | imm d => cases d <;> simp [truth] at ht; subst ht; rfl
      | _ => simp [truth] at ht
    subst hm
    exact ⟨b, imm_bool s, q H1 m' s.drop⟩
theorem se_cmp {T : Flds} {a b : Expr} {ca cb : Ex} {o : Cop} {pos : Pos} (hu : X.A.units + 64 < cLine) (hm : behindInMarks (copOf o) b = false) (ha : SE (X.mo T) A sg cf X a ca) (hb : SE (X.mo T) A sg cf X b cb) : SE (X.mo T) A sg cf X (.Compare a [copOf o] [b] pos) (.cmp o ca cb) := by
  have i : ∀ σ H Q, tI (X.mo T) A sg cf (.cmp o ca cb) σ H Q → tOp (rS (X.mo T) (cmpM o)) (tO (X.mo T) A sg cf ca) (tO (X.mo T) A sg cf cb) σ H Q := fun σ H Q ⟨ρ, fr, s, q⟩ => by
    refine op_read s ?_
    have e : eval sg cf (.cmp o ca cb) ρ = O.bind (opd ca (eval sg cf ca) ρ) fun t ρ => O.bind (opd cb (eval sg cf cb) ρ) fun u ρ => ofM ρ ((t.look ρ).bind fun d => (u.look ρ).bind fun e => cmpM o d e) := by
      rw [eval]
      simp only [cop_eq]
    rw [e] at q
    exact q
  have p := (pe_cmpR (OpS.opR (T := T) (op_cop o hu)) ha.po hb.po hm (pos := pos)).imp i
  exact ⟨p, SE.o_of rfl p, (pt_cmpR (OpS.opR (T := T) (op_cop o hu)) ha.po hb.po hm).imp (tTest_of i)⟩
/-- an operand that is an exception, by its value -/
theorem xOf_rm {t : Tmp} {v : V} {x : XV} (s : Sta B ρ σ H (frT t v fr)) (o : TOk B σ H t v) (e : xOf ρ t = some x) : ∃ a cls d, v = .ref a ∧ H a = some (ExK cls d a) ∧ RX B x cls d H := by
  obtain ⟨l, env, Z, fp, lv⟩ := s
  have key : ∀ fq, RM B Z H (.exc x) v fq → ∃ a cls d, v = .ref a ∧ H a = some (ExK cls d a) ∧ RX B x cls d H := fun fq r => by
    cases r with
    | exc h r => exact ⟨_, _, _, rfl, h, r⟩
  cases t with
  | val m =>
    cases m with
    | exc y =>
      simp only [xOf, Option.some.injEq] at e
      subst e
      obtain ⟨fq, r⟩ := lv.rep.mem (m := .exc y) (v := v) (List.mem_append_right _ List.mem_cons_self)
      exact key fq r
    | _ => simp [xOf] at e
  | ref i f =>
    cases f with
    | some f => simp [xOf] at e
    | none =>
      simp only [xOf] at e
      cases hg : getS ρ i with
      | none => rw [hg] at e; cases e
      | some m =>
        rw [hg] at e
        cases m with
        | exc y =>
          simp only [Option.some.injEq] at e
          subst e
          obtain ⟨v', h1, h2⟩ := env_mem env hg
          have : σ[i]? = some (some v) := o
          rw [h1] at this; cases this
          obtain ⟨fq, r⟩ := lv.rep.mem (List.mem_append_left _ h2)
          exact key fq r
        | _ => cases e
theorem isn_val {t : Tmp} {v : V} {neg b : Bool} (s : Sta B ρ σ H (frT t v fr)) (o : TOk B σ H t v) (e : isnB neg ρ t = some b) : b = (decide (v = .non) != neg) := by
  unfold isnB at e
  cases hx : xOf ρ t with
  | some x =>
    rw [hx] at e
    obtain ⟨a, cls, d, rfl, _⟩ := xOf_rm s o hx
    simp only [Option.some.injEq] at e
    subst e
    simp
  | none =>
    rw [hx] at e
    simp only at e
    obtain ⟨d, hd, rfl⟩ := Option.map_eq_some_iff.mp e
    obtain ⟨Z, vs, _⟩ := Sta.looks (ts := [t]) (vs := [v]) (fr := fr) s (.cons o .nil) (by simp [lookAll, hd] : lookAll ρ [t] = some [d])
    cases vs with
    | cons h _ =>
      rcases h with h | ⟨_, _, _, rfl, rfl, _⟩ | ⟨_, _, _, rfl, rfl, _⟩
      · cases h <;> simp [isNoneD]
      · simp [isNoneD]
      · simp [isNoneD]
def isnOp (neg : Bool) : CmpOp := if neg then .IsNot else .Is
theorem op_isn (neg : Bool) : OpR X (compareOp (isnOp neg)) (fun x y H Q => y = .non ∧ Q (.bl (decide (x = .non) != neg)) H) := by
  cases neg with
  | false =>
    intro pins s σ H x y v u Q I rx ry ⟨h, q⟩
    exact op_isN pins s σ H x y v u Q I rx ry ⟨h, by simpa using q⟩
  | true =>
    intro pins s σ H x y v u Q I rx ry ⟨h, q⟩
    exact op_notN pins s σ H x y v u Q I rx ry ⟨h, by simpa using q⟩
theorem se_isn {a b : Expr} {ca : Ex} {neg : Bool} {pos : Pos} (hb : PE X b (tC .non)) (hm : behindInMarks (isnOp neg) b = false) (ha : SE B A sg cf X a ca) : SE B A sg cf X (.Compare a [isnOp neg] [b] pos) (.isn neg ca) := by
  have i : ∀ σ H Q, tI B A sg cf (.isn neg ca) σ H Q → tOp (fun x y H Q => y = .non ∧ Q (.bl (decide (x = .non) != neg)) H) (tO B A sg cf ca) (tC .non) σ H Q := fun σ H Q ⟨ρ, fr, s, q⟩ => by
    rw [eval] at q
    refine ⟨ρ, fr, s, AfterT.bind (P := After B A σ fr H Q) q nA xA fun t ρ1 x H1 _ q1 m1 o1 s1 => ?_⟩
    cases hi : isnB neg ρ1 t with
    | none => rw [hi] at q1; exact q1.elim
    | some r =>
      rw [hi] at q1
      have e := isn_val s1 o1 hi
      subst e
      exact ⟨rfl, q1 _ H1 m1 (sta_imm s1.dropT fun Z => .bl _)⟩
  have p := (pe_cmpR (op_isn (X := X) neg) ha.po hb hm (pos := pos)).imp i
  exact ⟨p, SE.o_of rfl p, (pt_cmpR (op_isn (X := X) neg) ha.po hb hm).imp (tTest_of i)⟩
end
end Iv
set_option linter.all false
set_option maxRecDepth 100000
set_option maxHeartbeats 1000000
/-! Iv6: more expressions. -/
namespace Iv
open PySem PySem.Spec PyProof.Rows L2
section
variable {A : Ask} {sg : Sig} {cf : CallFn} {X : Cx} {T : Flds} {σ : L2.St} {fr : List (M × V)} {H H0 H1 : Hp} {ρ : Rho}
theorem cop_some {o : Cop} {t u : Tmp} {b : Bool} (h : cop o t u ρ = some b) : ∃ d e, t.look ρ = some d ∧ u.look ρ = some e ∧ cmpM o d e = some (.imm (.bool b)) := by
  obtain ⟨d, e, h1, h2, h3⟩ := bind2_some h
  exact ⟨d, e, h1, h2, by unfold cmpM; rw [h3]; rfl⟩
/-- New, the operands kept -/
theorem Sta.keepNew {B : Mo} {fr' : List (M × V)} {Z : Addr → Prop} {fp : List Addr} {l : List (M × V)} {H' : Hp} {m : M} {z : V} (env : EnvR ρ σ l) (lv : Lv B Z H (l ++ fr') fp) (n : New B Z H H' m z) : Sta B ρ σ H' ((m, z) :: fr') := by
  obtain ⟨ext, fq, r, nd, new⟩ := n
  obtain ⟨f3, l3⟩ := (lv.add ext r nd new).perm (l' := l ++ (m, z) :: fr') List.perm_middle.symm
  exact ⟨l, env, Z, f3, l3⟩
theorem look2k {B : Mo} {t u : Tmp} {x y : V} {d e : D} (s : Sta B ρ σ H (frT u y (frT t x fr))) (ot : TOk B σ H t x) (ou : TOk B σ H u y) (ht : t.look ρ = some d) (hu : u.look ρ = some e) : ∃ Z, Vw B Z H d x ∧ Vw B Z H e y ∧ ∀ H' m z, New B Z H H' m z → Sta B ρ σ H' ((m, z) :: frT u y (frT t x fr)) := by
  obtain ⟨l, env, Z, fp, lv⟩ := s
  have sub : ∀ p ∈ l, ∃ fq, RM B Z H p.1 p.2 fq := fun p hp => lv.rep.mem (List.mem_append_left _ hp)
  have own : ∀ p ∈ frT u y (frT t x fr), ∃ fq, RM B Z H p.1 p.2 fq := fun p hp => lv.rep.mem (List.mem_append_right _ hp)
  have v := looks_all env sub (ts := [t, u]) (vs := [x, y]) (fr := fr) own (.cons ot (.cons ou .nil)) (by simp [lookAll, ht, hu] : lookAll ρ [t, u] = some [d, e])
  cases v with
  | cons v1 v =>
    cases v with
    | cons v2 v => exact ⟨Z, v1, v2, fun H' m z n => Sta.keepNew env lv n⟩
theorem lastMarks_two {o p : CmpOp} {b c : Expr} : lastMarks [o, p] [b, c] = behindInMarks p c := rfl
theorem se_chn {a b c : Expr} {ca cb cc : Ex} {o p : Cop} {pos : Pos} (hu : X.A.units + 64 < cLine) (hm : behindInMarks (copOf p) c = false) (ha : SE (X.mo T) A sg cf X a ca) (hb : SE (X.mo T) A sg cf X b cb) (hc : SE (X.mo T) A sg cf X c cc) :
    SE (X.mo T) A sg cf X (.Compare a [copOf o, copOf p] [b, c] pos) (.chn o p ca cb cc) := by
  have i : ∀ σ H Q, tI (X.mo T) A sg cf (.chn o p ca cb cc) σ H Q → tChain (rS (X.mo T) (cmpM o)) (rS (X.mo T) (cmpM p)) (tO (X.mo T) A sg cf ca) (tO (X.mo T) A sg cf cb) (tO (X.mo T) A sg cf cc) σ H Q := fun σ H Q ⟨ρ, fr, s, q⟩ => by
    rw [eval] at q
    refine two_ops (P := After (X.mo T) A σ fr H Q) s q nA xA fun t u ρ2 x y H2 q2 m ot ou s2 => ?_
    cases hk : cop o t u ρ2 with
    | none => rw [hk] at q2; exact q2.elim
    | some k =>
      rw [hk] at q2
      obtain ⟨d, e, h1, h2, h3⟩ := cop_some hk
      obtain ⟨Z, v1, v2, kp⟩ := look2k s2 ot ou h1 h2
      refine ⟨Z, d, e, _, v1, v2, h3, fun z H' n => ?_⟩
      have s3 := kp H' _ z n
      have ez := imm_bool s3
      have m3 : Mono H H' := m.trans (.of_ext n.1)
      refine ⟨k, ez, ?_⟩
      cases k with
      | false =>
        rw [if_neg Bool.false_ne_true]
        subst ez
        exact q2 _ H' m3 (s3.drop.dropT.dropT |> fun s => sta_imm s fun Z => .bl false)
      | true =>
        rw [if_pos rfl]
        refine ⟨ρ2, _, s3.drop, AfterT.bind (P := After (X.mo T) A σ fr H Q) q2 nA (fun e ρ h => ((xA e ρ h).dropT.dropT).mono m3) fun v ρ3 w H3 _ q3 m4 ov s4 => ?_⟩
        have mo := Mono.of_ext n.1
        have ou' := (ou.mono mo).mono m4
        cases hp : cop p u v ρ3 with
        | none => rw [hp] at q3; exact q3.elim
        | some k =>
          rw [hp] at q3
          obtain ⟨d', e', g1, g2, g3⟩ := cop_some hp
          -- the middle operand and the last one; the first one is let go
          have s5 : Sta (X.mo T) ρ3 σ H3 (frT v w (frT u y fr)) := by
            cases t with
            | ref i f => exact s4
            | val mt =>
              cases u with
              | ref i f =>
                cases v with
                | ref i f => exact s4.drop
                | val mv => exact s4.head fun l h => (Live.perm h (.swap ..)).drop
              | val mu =>
                cases v with
                | ref i f => exact s4.head fun l h => (Live.perm h (.swap ..)).drop
                | val mv => exact s4.head fun l h => (Live.perm h (((List.Perm.swap ..).cons _).trans (.swap ..))).drop
          obtain ⟨Z', w1, w2, k'⟩ := look2 s5 ou' ov g1 g2
          exact ⟨Z', d', e', _, w1, w2, g3, fun z H' n => q3 z H' ((m3.trans m4).trans (.of_ext n.1)) (k' H' _ z n)⟩
  have pp := (pe_chain (OpS.opR (T := T) (op_cop o hu)) (OpS.opR (T := T) (op_cop p hu)) ha.po hb.po hc.po (pos := pos) hm).imp i
  exact ⟨pp, SE.o_of rfl pp, (pt_chain (OpS.opR (T := T) (op_cop o hu)) (OpS.opR (T := T) (op_cop p hu)) ha.po hb.po hc.po hm).imp (tTest_of i)⟩
/-! ### and, or, not, if -/
variable {B : Mo}
theorem truth_some {m : M} {b : Bool} (h : truth m = some b) : m = .imm (.bool b) := by
  cases m with
  | imm d => cases d <;> simp [truth] at h; subst h; rfl
  | _ => simp [truth] at h
theorem oBool_eq (x : O M) : oBool x = O.bind x fun m ρ => (truth m).map fun b => .ok b ρ := rfl
theorem oBool_and {a b : O M} {f : Rho → O M} (e : b = O.bind a fun m ρ => match truth m with | some true => f ρ | some false => some (.ok (.imm (.bool false)) ρ) | none => none) :
    oBool b = O.bind (oBool a) fun k ρ => if k then oBool (f ρ) else some (.ok false ρ) := by
  subst e
  cases a with
  | none => rfl
  | some r =>
    cases r with
    | exc x ρ => rfl
    | ok m ρ =>
      simp only [O.bind, oBool]
      cases h : truth m with
      | none => rfl
      | some k => cases k <;> rfl
theorem oBool_or {a b : O M} {f : Rho → O M} (e : b = O.bind a fun m ρ => match truth m with | some true => some (.ok (.imm (.bool true)) ρ) | some false => f ρ | none => none) :
    oBool b = O.bind (oBool a) fun k ρ => if k then some (.ok true ρ) else oBool (f ρ) := by
  subst e
  cases a with
  | none => rfl
  | some r =>
    cases r with
    | exc x ρ => rfl
    | ok m ρ =>
      simp only [O.bind, oBool]
      cases h : truth m with
      | none => rfl
      | some k => cases k <;> rfl
theorem AfterB.mono {Q : Bool → Hp → Prop} {o : O Bool} (h : AfterB B A σ fr H0 Q o) (m : Mono H0 H1) : AfterB B A σ fr H1 Q o := by
  cases o with
  | none => exact h
  | some r =>
    cases r with
    | ok a ρ => exact fun H k => h H (m.trans k)
    | exc x ρ => exact ExcA.mono h m
/-- the value of a and b, or: the first one as a value, the rest as it is -/
theorem and_read {ca : Ex} {cb : Ex} {ta tb : TE} (ia : ∀ σ H Q, tI B A sg cf ca σ H Q → ta σ H Q) (ib : ∀ σ H Q, tI B A sg cf cb σ H Q → tb σ H Q) : ∀ σ H Q, tI B A sg cf (.and ca cb) σ H Q → tAndV ta tb σ H Q := fun σ H Q ⟨ρ, fr, s, q⟩ => by
  rw [eval] at q
  refine ia σ H _ ⟨ρ, fr, s, After.bind (P := After B A σ fr H Q) q nA xA fun m ρ1 v H1 _ q1 m1 s1 => ?_⟩
  cases h : truth m with
  | none => rw [h] at q1; exact q1.elim
  | some k =>
    rw [h] at q1
    have e := truth_some h
    subst e
    refine ⟨k, imm_bool s1, ?_⟩
    cases k with
    | true => rw [if_pos rfl]; exact ib σ H1 Q ⟨ρ1, fr, s1.drop, q1.mono m1⟩
    | false =>
      rw [if_neg Bool.false_ne_true]
      have := imm_bool s1
      subst this
      exact q1 _ H1 m1 s1
theorem or_read {ca : Ex} {cb : Ex} {ta tb : TE} (ia : ∀ σ H Q, tI B A sg cf ca σ H Q → ta σ H Q) (ib : ∀ σ H Q, tI B A sg cf cb σ H Q → tb σ H Q) : ∀ σ H Q, tI B A sg cf (.or ca cb) σ H Q → tOrV ta tb σ H Q := fun σ H Q ⟨ρ, fr, s, q⟩ => by
  rw [eval] at q
  refine ia σ H _ ⟨ρ, fr, s, After.bind (P := After B A σ fr H Q) q nA xA fun m ρ1 v H1 _ q1 m1 s1 => ?_⟩
  cases h : truth m with
  | none => rw [h] at q1; exact q1.elim
  | some k =>
    rw [h] at q1
    have e := truth_some h
    subst e
    refine ⟨k, imm_bool s1, ?_⟩
    cases k with
    | false => rw [if_neg Bool.false_ne_true]; exact ib σ H1 Q ⟨ρ1, fr, s1.drop, q1.mono m1⟩
    | true =>
      rw [if_pos rfl]
      have := imm_bool s1
      subst this
      exact q1 _ H1 m1 s1
theorem andT_read {ca cb : Ex} {ta tb : TT} (ia : ∀ σ H Q, tT B A sg cf ca σ H Q → ta σ H Q) (ib : ∀ σ H Q, tT B A sg cf cb σ H Q → tb σ H Q) : ∀ σ H Q, tT B A sg cf (.and ca cb) σ H Q → tAnd ta tb σ H Q := fun σ H Q ⟨ρ, fr, s, q⟩ => by
  rw [oBool_and (a := eval sg cf ca ρ) (f := eval sg cf cb) (by rw [eval] <;> rfl)] at q
  refine ia σ H _ ⟨ρ, fr, s, AfterB.bind (P := AfterB B A σ fr H Q) q nB xB fun b ρ1 H1 q1 m1 s1 => ?_⟩
  cases b with
  | true => rw [if_pos rfl]; exact ib σ H1 Q ⟨ρ1, fr, s1, AfterB.mono q1 m1⟩
  | false => rw [if_neg Bool.false_ne_true]; exact q1 H1 m1 s1
theorem orT_read {ca cb : Ex} {ta tb : TT} (ia : ∀ σ H Q, tT B A sg cf ca σ H Q → ta σ H Q) (ib : ∀ σ H Q, tT B A sg cf cb σ H Q → tb σ H Q) : ∀ σ H Q, tT B A sg cf (.or ca cb) σ H Q → tOr ta tb σ H Q := fun σ H Q ⟨ρ, fr, s, q⟩ => by
  rw [oBool_or (a := eval sg cf ca ρ) (f := eval sg cf cb) (by rw [eval] <;> rfl)] at q
  refine ia σ H _ ⟨ρ, fr, s, AfterB.bind (P := AfterB B A σ fr H Q) q nB xB fun b ρ1 H1 q1 m1 s1 => ?_⟩
  cases b with
  | false => rw [if_neg Bool.false_ne_true]; exact ib σ H1 Q ⟨ρ1, fr, s1, AfterB.mono q1 m1⟩
  | true => rw [if_pos rfl]; exact q1 H1 m1 s1
inductive SEs (B : Mo) (A : Ask) (sg : Sig) (cf : CallFn) (X : Cx) : List Expr → List Ex → Prop
  | nil : SEs B A sg cf X [] []
  | cons {e : Expr} {c : Ex} {es : List Expr} {cs : List Ex} : SE B A sg cf X e c → SEs B A sg cf X es cs → SEs B A sg cf X (e :: es) (c :: cs)
def andE : List Ex → Ex
  | [] => .bad
  | [a] => a
  | a :: b :: r => .and a (andE (b :: r))
def orE : List Ex → Ex
  | [] => .bad
  | [a] => a
  | a :: b :: r => .or a (orE (b :: r))
theorem and_pe {pos : Pos} : ∀ {es : List Expr} {cs : List Ex}, SEs B A sg cf X es cs → es ≠ [] → PE X (.BoolOp .And es pos) (tI B A sg cf (andE cs)) ∧ PW X (.BoolOp .And es pos) (tT B A sg cf (andE cs))
  | _, _, .nil, h => absurd rfl h
  | _, _, .cons p .nil, _ => ⟨pe_one p.pe, pw_and1 p.pt⟩
  | _, _, .cons p (.cons p' r), _ => by
    obtain ⟨h1, h2⟩ := and_pe (pos := pos) (.cons p' r) (List.cons_ne_nil _ _)
    exact ⟨(pe_and p.pe h1).imp (and_read (fun _ _ _ h => h) fun _ _ _ h => h), ⟨fun wh pins s σ H Q I h => (pw_and p.pt h2).run wh pins s σ H Q I (andT_read (fun _ _ _ h => h) (fun _ _ _ h => h) σ H Q h)⟩⟩
theorem or_pe {pos : Pos} : ∀ {es : List Expr} {cs : List Ex}, SEs B A sg cf X es cs → es ≠ [] → PE X (.BoolOp .Or es pos) (tI B A sg cf (orE cs)) ∧ PW X (.BoolOp .Or es pos) (tT B A sg cf (orE cs))
  | _, _, .nil, h => absurd rfl h
  | _, _, .cons p .nil, _ => ⟨pe_one p.pe, pw_or1 p.pt⟩
  | _, _, .cons p (.cons p' r), _ => by
    obtain ⟨h1, h2⟩ := or_pe (pos := pos) (.cons p' r) (List.cons_ne_nil _ _)
    exact ⟨(pe_or p.pe h1).imp (or_read (fun _ _ _ h => h) fun _ _ _ h => h), ⟨fun wh pins s σ H Q I h => (pw_or p.pt h2).run wh pins s σ H Q I (orT_read (fun _ _ _ h => h) (fun _ _ _ h => h) σ H Q h)⟩⟩
theorem se_and {es : List Expr} {cs : List Ex} {pos : Pos} (h : SEs B A sg cf X es cs) (h2 : 2 ≤ es.length) : SE B A sg cf X (.BoolOp .And es pos) (andE cs) := by
  obtain ⟨h1, h3⟩ := and_pe (pos := pos) h (by intro e; subst e; simp at h2)
  refine ⟨h1, SE.o_of ?_ h1, h3.pt⟩
  match cs, h with
  | _, .cons _ .nil => simp at h2
  | _, .cons _ (.cons _ _) => rfl
  | _, .nil => simp at h2
theorem se_or {es : List Expr} {cs : List Ex} {pos : Pos} (h : SEs B A sg cf X es cs) (h2 : 2 ≤ es.length) : SE B A sg cf X (.BoolOp .Or es pos) (orE cs) := by
  obtain ⟨h1, h3⟩ := or_pe (pos := pos) h (by intro e; subst e; simp at h2)
  refine ⟨h1, SE.o_of ?_ h1, h3.pt⟩
  match cs, h with
  | _, .cons _ .nil => simp at h2
  | _, .cons _ (.cons _ _) => rfl
  | _, .nil => simp at h2
theorem se_not {a : Expr} {c : Ex} {pos : Pos} (h : SE B A sg cf X a c) : SE B A sg cf X (.UnaryOp .Not a pos) (.not c) := by
  have p : PE X (.UnaryOp .Not a pos) (tI B A sg cf (.not c)) := (pe_not h.pe).imp fun σ H Q ⟨ρ, fr, s, q⟩ => by
    rw [eval] at q
    refine ⟨ρ, fr, s, After.bind (P := After B A σ fr H Q) q nA xA fun m ρ1 v H1 _ q1 m1 s1 => ?_⟩
    cases h : truth m with
    | none => rw [h] at q1; exact q1.elim
    | some k =>
      rw [h] at q1
      have e := truth_some h
      subst e
      refine ⟨k, imm_bool s1, ?_⟩
      exact q1 _ H1 m1 (sta_imm s1.drop fun Z => .bl _)
  refine ⟨p, SE.o_of rfl p, (pt_not h.pt).imp fun σ H Q ⟨ρ, fr, s, q⟩ => ⟨ρ, fr, s, ?_⟩⟩
  have e : oBool (eval sg cf (.not c) ρ) = O.bind (oBool (eval sg cf c ρ)) fun k ρ => some (.ok (!k) ρ) := by
    rw [eval]
    cases eval sg cf c ρ with
    | none => rfl
    | some r =>
      cases r with
      | exc x ρ => rfl
      | ok m ρ =>
        simp only [O.bind, oBool, ofB]
        cases h : truth m with
        | none => rfl
        | some k => rfl
  rw [e] at q
  exact AfterB.bind (P := AfterB B A σ fr H Q) q nB xB fun b ρ1 H1 q1 m1 s1 => q1 H1 m1 s1
theorem se_ite {t a b : Expr} {ct ca cb : Ex} {pos : Pos} (ht : SE B A sg cf X t ct) (ha : SE B A sg cf X a ca) (hb : SE B A sg cf X b cb) : SE B A sg cf X (.IfExp t a b pos) (.ite ct ca cb) := by
  have e : ∀ ρ, eval sg cf (.ite ct ca cb) ρ = O.bind (oBool (eval sg cf ct ρ)) fun k ρ => if k then eval sg cf ca ρ else eval sg cf cb ρ := fun ρ => by
    rw [eval]
    cases eval sg cf ct ρ with
    | none => rfl
    | some r =>
      cases r with
      | exc x ρ => rfl
      | ok m ρ =>
        simp only [O.bind, oBool]
        cases h : truth m with
        | none => rfl
        | some k => cases k <;> rfl
  have p : PE X (.IfExp t a b pos) (tI B A sg cf (.ite ct ca cb)) := (pe_ifExp ht.pt ha.pe hb.pe).imp fun σ H Q ⟨ρ, fr, s, q⟩ => by
    rw [e] at q
    refine ⟨ρ, fr, s, AfterB.bind (P := After B A σ fr H Q) q nA xA fun k ρ1 H1 q1 m1 s1 => ?_⟩
    cases k with
    | true => rw [if_pos rfl]; exact ⟨ρ1, fr, s1, After.mono q1 m1⟩
    | false => rw [if_neg Bool.false_ne_true]; exact ⟨ρ1, fr, s1, After.mono q1 m1⟩
  refine ⟨p, SE.o_of rfl p, ⟨fun pins s σ H Q I ⟨ρ, fr, st, q⟩ => ?_⟩⟩
  show wpAny _ _ (isTrue t X.env (PySem.eval t X.env) >>= fun k => if k = true then isTrue a X.env (PySem.eval a X.env) else isTrue b X.env (PySem.eval b X.env)) _ _ _
  have e2 : oBool (eval sg cf (.ite ct ca cb) ρ) = O.bind (oBool (eval sg cf ct ρ)) fun k ρ => if k then oBool (eval sg cf ca ρ) else oBool (eval sg cf cb ρ) := by
    rw [e]
    cases oBool (eval sg cf ct ρ) with
    | none => rfl
    | some r =>
      cases r with
      | exc x ρ => rfl
      | ok k ρ => cases k <;> rfl
  rw [e2] at q
  refine wpAny_bind (thn (ht.pt.run pins s σ H (fun k H1 => ∃ ρ1, Sta B ρ1 σ H1 fr ∧ AfterB B A σ fr H1 Q (if k = true then oBool (eval sg cf ca ρ1) else oBool (eval sg cf cb ρ1))) I ⟨ρ, fr, st, ?_⟩) fun k s1 ⟨H1, I1, ρ1, st1, q1⟩ => ?_)
  · exact AfterB.bind (P := AfterB B A σ fr H Q) q nB xB fun k ρ1 H1 q1 m1 s1 => ⟨ρ1, s1, AfterB.mono q1 m1⟩
  · cases k with
    | true => exact ha.pt.run pins s1 σ H1 Q I1 ⟨ρ1, fr, st1, q1⟩
    | false => exact hb.pt.run pins s1 σ H1 Q I1 ⟨ρ1, fr, st1, q1⟩
end
end Iv
set_option linter.all false
set_option maxRecDepth 100000
set_option maxHeartbeats 1000000
/-! Iv7: displays, subscripts, slices, calls of built-in functions and methods. -/
namespace Iv
open PySem PySem.Spec PyProof.Rows L2
def notStar : Expr → Bool
  | .Starred _ _ => false
  | _ => true
theorem star_cons {e : Expr} {es : List Expr} {env : Env} (h : notStar e = true) : starEach (e :: es) env = (false, PySem.eval e env) :: starEach es env := by
  cases e <;> first | rfl | simp [notStar] at h
theorem star_all {env : Env} : ∀ {es : List Expr}, es.all notStar = true → (starEach es env).all (fun x => !x.1) = true
  | [], _ => rfl
  | e :: es, h => by
    simp only [List.all_cons, Bool.and_eq_true] at h
    rw [star_cons h.1]
    simp only [List.all_cons, Bool.not_false, Bool.true_and]
    exact star_all h.2
theorem back_all {pos : Pos} {l : List (Bool × Sem Value)} (h : l.all (fun x => !x.1) = true) : (backTo pos l).all (fun x => !x.1) = true := by
  unfold backTo
  rw [List.all_map]
  exact h
theorem back_any {pos : Pos} {l : List (Bool × Sem Value)} (h : l.all (fun x => !x.1) = true) : (backTo pos l).any (·.1) = false := by
  have := back_all (pos := pos) h
  rw [List.all_eq_true] at this
  rw [List.any_eq_false]
  intro x hx
  have := this x hx
  simpa using this
theorem back_cons {pos : Pos} {e : Expr} {es : List Expr} {env : Env} (h : notStar e = true) : backTo pos (starEach (e :: es) env) = (false, PySem.eval e env) :: backTo pos (starEach es env) := by
  rw [star_cons h]; rfl
def noSuper : Expr → Bool
  | .Call (.Name id _) [] [] _ => id != "super"
  | _ => true
theorem base_ok {o : Expr} {m : Str} {env : Env} {whole : Sem Value} (h : noSuper o = true) : attributeBase o m env whole = whole := by
  unfold attributeBase
  split
  · rename_i id p pos
    have : (id != ("super" : Str)) = true := h
    rw [this]
    simp
  · rfl
theorem few_ok {pos : Pos} {es : List Expr} {env : Env} (h : es.all notStar = true) (hn : es.length < 30) : ((backTo pos (starEach es env)).all (fun x => !x.1) && (backToKw pos (keywordEach [] env)).all (fun x => x.1.isSome)
      && decide (es.length + ([] : List Keyword).length + (if ([] : List Keyword).isEmpty then 0 else 1) < 30)) = true := by
  rw [back_all (star_all h)]
  have e : backToKw pos (keywordEach [] env) = [] := rfl
  rw [e]
  simpa using hn
section
variable {A : Ask} {sg : Sig} {cf : CallFn} {X : Cx} {T : Flds} {σ : L2.St} {fr : List (M × V)} {H H0 H1 : Hp} {ρ : Rho} {B : Mo}
/-! ### lists of expressions -/
theorem AfterD.mono {Q : List V → Hp → Prop} {o : O (List D)} (h : AfterD B A σ fr H0 Q o) (m : Mono H0 H1) : AfterD B A σ fr H1 Q o := by
  cases o with
  | none => exact h
  | some r =>
    cases r with
    | ok a ρ => exact fun v H k => h v H (m.trans k)
    | exc x ρ => exact ExcA.mono h m
theorem AfterTs.mono {Q : List V → Hp → Prop} {o : O (List Tmp)} (h : AfterTs B A σ fr H0 Q o) (m : Mono H0 H1) : AfterTs B A σ fr H1 Q o := by
  cases o with
  | none => exact h
  | some r =>
    cases r with
    | ok a ρ => exact fun v H k => h v H (m.trans k)
    | exc x ρ => exact ExcA.mono h m
theorem pa_ds : ∀ {es : List Expr} {cs : List Ex}, SEs B A sg cf X es cs → es.all notStar = true → PA X es (tDs B A sg cf cs)
  | _, _, .nil, _ => pa_nil.imp fun σ H Q ⟨ρ, fr, s, q⟩ => q [] H .refl rfl s
  | _, _, @SEs.cons _ _ _ _ _ e c es cs p r, h => by
    simp only [List.all_cons, Bool.and_eq_true] at h
    refine (pa_cons p.pe (pa_ds r h.2) (star_cons h.1)).imp fun σ H Q ⟨ρ, fr, s, q⟩ => ?_
    rw [evals] at q
    refine ⟨ρ, fr, s, After.bind (P := AfterD B A σ fr H Q) q (fun h => h) (fun _ _ h => h) fun m ρ1 v H1 _ q1 m1 s1 => ?_⟩
    cases hv : view m with
    | none => rw [hv] at q1; exact q1.elim
    | some d =>
      rw [hv] at q1
      have s2 : Sta B ρ1 σ H1 ((.imm d, v) :: fr) := s1.head fun l h => h.freeze hv
      refine ⟨ρ1, _, s2, AfterD.bind (P := AfterD B A σ fr H Q) q1 (fun h => h) (fun e ρ h => (ExcA.drop h).mono m1) fun ds ρ2 vs H2 _ q2 m2 hl s3 => ?_⟩
      exact q2 (v :: vs) H2 (m1.trans m2) (by simp [hl]) s3
theorem pa_os : ∀ {es : List Expr} {cs : List Ex}, SEs B A sg cf X es cs → es.all notStar = true → PA X es (tOs B A sg cf cs)
  | _, _, .nil, _ => pa_nil.imp fun σ H Q ⟨ρ, fr, s, q⟩ => q [] H .refl .nil s
  | _, _, @SEs.cons _ _ _ _ _ e c es cs p r, h => by
    simp only [List.all_cons, Bool.and_eq_true] at h
    refine (pa_cons p.po (pa_os r h.2) (star_cons h.1)).imp fun σ H Q ⟨ρ, fr, s, q⟩ => ?_
    rw [opds] at q
    refine ⟨ρ, fr, s, AfterT.bind (P := AfterTs B A σ fr H Q) q (fun h => h) (fun _ _ h => h) fun t ρ1 v H1 _ q1 m1 o1 s1 => ?_⟩
    refine ⟨ρ1, _, s1, AfterTs.bind (P := AfterTs B A σ fr H Q) q1 (fun h => h) (fun e ρ h => (ExcA.dropT h).mono m1) fun ts ρ2 vs H2 _ q2 m2 o2 s3 => ?_⟩
    exact q2 (v :: vs) H2 (m1.trans m2) (.cons (o1.mono m2) o2) s3
theorem arg_pe {e : Expr} {c : Ex} (p : SE B A sg cf X e c) (k : Bool) : PE X e (fun σ H Q => ∃ ρ fr, Sta B ρ σ H fr ∧ AfterT B A σ fr H Q (arg k c (eval sg cf c) ρ)) := by
  have gen : PE X e (fun σ H Q => ∃ ρ fr, Sta B ρ σ H fr ∧ AfterT B A σ fr H Q (O.bind (eval sg cf c ρ) fun m ρ => some (.ok (.val m) ρ))) := p.pe.imp fun σ H Q ⟨ρ, fr, s, q⟩ =>
    ⟨ρ, fr, s, After.bind (P := AfterT B A σ fr H Q) q (fun h => h) (fun _ _ h => h) fun m ρ1 v H1 _ q1 m1 s1 => q1 v H1 m1 trivial s1⟩
  cases k with
  | false =>
    have e : ∀ ρ, arg false c (eval sg cf c) ρ = O.bind (eval sg cf c ρ) fun m ρ => some (.ok (.val m) ρ) := fun ρ => by cases c <;> rfl
    simp only [e]; exact gen
  | true =>
    cases c with
    | var i =>
      have e : ∀ ρ, arg true (.var i) (eval sg cf (.var i)) ρ = opd (.var i) (eval sg cf (.var i)) ρ := fun ρ => rfl
      simp only [e]; exact p.po
    | _ => exact gen
theorem pa_as {rs : List Nat} : ∀ {es : List Expr} {cs : List Ex} {j : Nat}, SEs B A sg cf X es cs → es.all notStar = true → PA X es (tAs B A sg cf rs j cs)
  | _, _, j, .nil, _ => pa_nil.imp fun σ H Q ⟨ρ, fr, s, q⟩ => q [] H .refl .nil s
  | _, _, j, @SEs.cons _ _ _ _ _ e c es cs p r, h => by
    simp only [List.all_cons, Bool.and_eq_true] at h
    refine (pa_cons (arg_pe p (rs.contains j)) (pa_as (rs := rs) (j := j + 1) r h.2) (star_cons h.1)).imp fun σ H Q ⟨ρ, fr, s, q⟩ => ?_
    rw [args] at q
    refine ⟨ρ, fr, s, AfterT.bind (P := AfterTs B A σ fr H Q) q (fun h => h) (fun _ _ h => h) fun t ρ1 v H1 _ q1 m1 o1 s1 => ?_⟩
    refine ⟨ρ1, _, s1, AfterTs.bind (P := AfterTs B A σ fr H Q) q1 (fun h => h) (fun e ρ h => (ExcA.dropT h).mono m1) fun ts ρ2 vs H2 _ q2 m2 o2 s3 => ?_⟩
    exact q2 (v :: vs) H2 (m1.trans m2) (.cons (o1.mono m2) o2) s3
/-! ### displays -/
theorem frDs_val : ∀ {ds : List D} {vs : List V} {fr : List (M × V)}, frDs ds vs fr = frTs (ds.map fun d => Tmp.val (.imm d)) vs fr
  | [], _, _ => rfl
  | _ :: _, [], _ => rfl
  | d :: ds, v :: vs, fr => by
    simp only [frDs, List.map_cons, frTs, frT]
    exact frDs_val
theorem frDs_mem : ∀ {ds : List D} {vs : List V} {fr : List (M × V)} {p : M × V}, p ∈ fr → p ∈ frDs ds vs fr
  | [], _, _, _, h => h
  | _ :: _, [], _, _, h => h
  | _ :: ds, _ :: vs, fr, p, h => frDs_mem (ds := ds) (vs := vs) (List.mem_cons_of_mem _ h)
theorem rds_of {Z : Addr → Prop} : ∀ {ds : List D} {vs : List V} {fr : List (M × V)}, vs.length = ds.length → (∀ p ∈ frDs ds vs fr, ∃ fq, RM B Z H p.1 p.2 fq) → RDs B Z H ds vs
  | [], [], _, _, _ => .nil
  | [], _ :: _, _, h, _ => by simp at h
  | _ :: _, [], _, h, _ => by simp at h
  | d :: ds, v :: vs, fr, h, hf => by
    obtain ⟨fq, r⟩ := hf (.imm d, v) (frDs_mem (ds := ds) (vs := vs) List.mem_cons_self)
    cases r with
    | imm r => exact .cons r (rds_of (fr := (.imm d, v) :: fr) (by simpa using h) hf)
theorem dropDs : ∀ {ds : List D} {vs : List V} {fr : List (M × V)}, Sta B ρ σ H (frDs ds vs fr) → Sta B ρ σ H fr
  | [], _, _, h => h
  | _ :: _, [], _, h => h
  | _ :: ds, _ :: vs, fr, h => (dropDs (ds := ds) (vs := vs) h).drop
/-- the things in hand, as they stand -/
theorem sta_ds {ds : List D} {vs : List V} (s : Sta B ρ σ H (frDs ds vs fr)) (hl : vs.length = ds.length) : ∃ Z, RDs B Z H ds vs ∧ ∀ H' m z, New B Z H H' m z → Sta B ρ σ H' ((m, z) :: fr) := by
  have s' := s
  rw [frDs_val] at s'
  have ok : TOks B σ H (ds.map fun d => Tmp.val (.imm d)) vs := by
    clear s s'
    induction ds generalizing vs with
    | nil => cases vs with
      | nil => exact .nil
      | cons _ _ => simp at hl
    | cons d ds ih => cases vs with
      | nil => simp at hl
      | cons v vs => exact .cons trivial (ih (by simpa using hl))
  have hd : lookAll ρ (ds.map fun d => Tmp.val (.imm d)) = some ds := by
    clear s s' ok hl
    induction ds with
    | nil => rfl
    | cons d ds ih => simp [lookAll, Tmp.look, view, ih]
  obtain ⟨l, env, Z, fp, lv⟩ := s
  obtain ⟨l', env', Z', fp', lv'⟩ := s'
  have r := rds_of (Z := Z) hl (fun p hp => lv.rep.mem (List.mem_append_right _ hp))
  refine ⟨Z, r, fun H' m z n => ?_⟩
  have s1 := Sta.keepNew env lv n
  -- let the things go
  have key : ∀ (ds : List D) (vs : List V) (fr : List (M × V)) (x : M × V), Sta B ρ σ H' (x :: frDs ds vs fr) → Sta B ρ σ H' (x :: fr) := by
    intro ds
    induction ds with
    | nil => intro vs fr x h; exact h
    | cons d ds ih =>
      intro vs fr x h
      cases vs with
      | nil => exact h
      | cons v vs => exact (ih vs ((.imm d, v) :: fr) x h).head fun l h => (Live.perm h (.swap ..)).drop
  exact key ds vs fr _ s1
theorem evals_len {cs : List Ex} : ∀ {ρ ρ' : Rho} {ds : List D}, evals sg cf cs ρ = some (.ok ds ρ') → ds.length = cs.length := by
  induction cs with
  | nil => intro ρ ρ' ds h; rw [evals] at h; cases h; rfl
  | cons c cs ih =>
    intro ρ ρ' ds h
    rw [evals] at h
    cases h1 : eval sg cf c ρ with
    | none => rw [h1] at h; cases h
    | some r =>
      rw [h1] at h
      cases r with
      | exc x ρ => cases h
      | ok m ρ1 =>
        simp only [O.bind] at h
        cases hv : view m with
        | none => rw [hv] at h; cases h
        | some d =>
          rw [hv] at h
          simp only at h
          cases h2 : evals sg cf cs ρ1 with
          | none => rw [h2] at h; cases h
          | some r =>
            rw [h2] at h
            cases r with
            | exc x ρ => cases h
            | ok ds' ρ2 =>
              cases h
              simp [ih h2]
theorem se_tup {es : List Expr} {cs : List Ex} {k : Nat} {pos : Pos} (h : SEs B A sg cf X es cs) (hs : es.all notStar = true) (hl : cs.length ≤ 1000) : SE B A sg cf X (.Tuple es k pos) (.tup cs) := by
  refine .of rfl rfl ((pe_tupF (pa_ds h hs)).imp fun σ H Q ⟨ρ, fr, s, q⟩ => ?_)
  rw [eval] at q
  refine ⟨ρ, fr, s, AfterD.bind (P := After B A σ fr H Q) q nA xA fun ds ρ1 vs H1 e1 q1 m1 hl1 s1 => ?_⟩
  obtain ⟨Z, r, k⟩ := sta_ds s1 hl1
  have := evals_len e1
  refine ⟨by rw [hl1, this, sizeLine_eq]; omega, fun p o ho hp => ?_⟩
  have n := New.tup (B := B) ho hp r
  exact q1 _ _ (m1.trans (.of_ext n.1)) (k _ _ _ n)
theorem se_lst {es : List Expr} {cs : List Ex} {pos : Pos} (h : SEs B A sg cf X es cs) (hs : es.all notStar = true) (hl : cs.length ≤ 1000) : SE B A sg cf X (.List es pos) (.lst cs) := by
  refine .of rfl rfl ((pe_lst (pa_ds h hs)).imp fun σ H Q ⟨ρ, fr, s, q⟩ => ?_)
  rw [eval] at q
  refine ⟨ρ, fr, s, AfterD.bind (P := After B A σ fr H Q) q nA xA fun ds ρ1 vs H1 e1 q1 m1 hl1 s1 => ?_⟩
  obtain ⟨Z, r, k⟩ := sta_ds s1 hl1
  have := evals_len e1
  refine ⟨by rw [hl1, this, sizeLine_eq]; omega, fun p hp => ?_⟩
  have n := New.lst (B := B) hp r
  exact q1 _ _ (m1.trans (.of_ext n.1)) (k _ _ _ n)
/-! ### subscripts, slices -/
def rIxI (B : Mo) : R2 := fun x y H Q => ∃ Z d e d', Vw B Z H d x ∧ Vw B Z H e y ∧ subD d e = some d' ∧ ∀ z, RD B Z H d' z → Q z H
theorem ix_I : IxR X (rIxI (X.mo T)) := fun value slice pins s σ H x y v u Q I rx ry ⟨Z, d, e, d', h1, h2, h3, q⟩ hs => ix_ok value slice x y v u Q d e d' I rx ry h1 h2 h3 q hs
def isSlice : Expr → Bool
  | .Slice _ _ _ _ => true
  | _ => false
theorem plainIx {b : Expr} (h : isSlice b = false) : PlainIx b := fun o i => by
  cases b <;> first | rfl | simp [isSlice] at h
theorem se_sub {a b : Expr} {ca cb : Ex} {pos : Pos} (hb' : isSlice b = false) (ha : SE (X.mo T) A sg cf X a ca) (hb : SE (X.mo T) A sg cf X b cb) : SE (X.mo T) A sg cf X (.Subscript a b pos) (.sub ca cb) := by
  refine .of rfl rfl ((pe_ix (ix_I (T := T)) ha.po hb.po (plainIx hb')).imp fun σ H Q ⟨ρ, fr, s, q⟩ => ?_)
  rw [eval] at q
  refine two_ops (P := After (X.mo T) A σ fr H Q) s q nA xA fun t u ρ2 x y H2 q2 m ot ou s2 => ?_
  cases hg : ((t.look ρ2).bind fun d => (u.look ρ2).bind fun e => subD d e) with
  | none => rw [hg] at q2; exact q2.elim
  | some r =>
    rw [hg] at q2
    obtain ⟨d, e, h1, h2, h3⟩ := bind2_some hg
    obtain ⟨Z, v1, v2, k⟩ := look2 s2 ot ou h1 h2
    exact ⟨Z, d, e, r, v1, v2, h3, fun z n => q2 z H2 m (k H2 _ z (.imm n))⟩
def AfterP (B : Mo) (A : Ask) (σ : L2.St) (fr : List (M × V)) (H0 : Hp) (c : Ex) (Q : Option Int → Hp → Prop) : O M → Prop
  | none => False
  | some (.ok m ρ) => ∃ i, optInt c m = some i ∧ ∀ H, Mono H0 H → Sta B ρ σ H fr → Q i H
  | some (.exc x ρ) => ExcA B A σ fr H0 x ρ
def tP (B : Mo) (A : Ask) (sg : Sig) (cf : CallFn) (c : Ex) : TO := fun σ H Q => ∃ ρ fr, Sta B ρ σ H fr ∧ AfterP B A σ fr H c Q (eval sg cf c ρ)
theorem imm_int {i : Int} {v : V} (s : Sta B ρ σ H ((.imm (.int i), v) :: fr)) : v = .int i := by
  obtain ⟨l, _, Z, fp, lv⟩ := s
  obtain ⟨fq, r⟩ := lv.rep.mem (m := .imm (.int i)) (v := v) (List.mem_append_right _ List.mem_cons_self)
  cases r with
  | imm r => cases r; rfl
theorem po_I {lo : Option Expr} {c : Ex} (h : (lo = none ∧ c = .cst .none) ∨ ∃ e, lo = some e ∧ SE B A sg cf X e c ∧ isNo c = false) : PO X lo (tP B A sg cf c) := by
  rcases h with ⟨rfl, rfl⟩ | ⟨e, rfl, p, hn⟩
  · refine ⟨fun pins s σ H Q I ⟨ρ, fr, st, q⟩ => po_none.run pins s σ H Q I ?_⟩
    rw [eval] at q
    obtain ⟨i, hi, q⟩ := q
    cases hi
    exact q H .refl st
  · refine ⟨fun pins s σ H Q I ⟨ρ, fr, st, q⟩ => ?_⟩
    cases he : eval sg cf c ρ with
    | none => rw [he] at q; exact q.elim
    | some r =>
      rw [he] at q
      cases r with
      | exc x ρ1 =>
        refine (po_some p.pe).run pins s σ H Q I ⟨ρ, fr, st, ?_⟩
        rw [he]
        exact q
      | ok m ρ1 =>
        obtain ⟨i, hi, q⟩ := q
        unfold optInt at hi
        rw [hn] at hi
        cases m with
        | imm d =>
          cases d with
          | int j =>
            cases hi
            refine (po_some p.pe).run pins s σ H Q I ⟨ρ, fr, st, ?_⟩
            rw [he]
            exact fun v H1 m1 s1 => ⟨j, imm_int s1, q H1 m1 s1.drop⟩
          | _ => cases hi
        | _ => cases hi
def rSlI (B : Mo) : V → Option Int → Option Int → Hp → VK → Prop := fun x lo hi H Q => ∃ d m, slcD d lo hi = some m ∧ ∃ Z, Vw B Z H d x ∧ ∀ z H', New B Z H H' m z → Q z H'
theorem sl_I : SlR X (rSlI (X.mo T)) := fun pins s σ H x v vl vu lo hi sl Q I rx hs pl pu ⟨d, m, hg, Z, hx, q⟩ => sl_ok (T := T) d m lo hi hg pins s σ H x v vl vu lo hi sl Q I rx hs pl pu ⟨rfl, rfl, Z, hx, q⟩
theorem se_slc {a : Expr} {lo hi : Option Expr} {ca cl ch : Ex} {p pos : Pos} (ha : SE (X.mo T) A sg cf X a ca) (hl : (lo = none ∧ cl = .cst .none) ∨ ∃ e, lo = some e ∧ SE (X.mo T) A sg cf X e cl ∧ isNo cl = false)
    (hh : (hi = none ∧ ch = .cst .none) ∨ ∃ e, hi = some e ∧ SE (X.mo T) A sg cf X e ch ∧ isNo ch = false) : SE (X.mo T) A sg cf X (.Subscript a (.Slice lo hi none p) pos) (.slc ca cl ch) := by
  refine .of rfl rfl ((pe_slice (sl_I (T := T)) ha.po (po_I hl) (po_I hh)).imp fun σ H Q ⟨ρ, fr, s, q⟩ => ?_)
  rw [eval] at q
  refine ⟨ρ, fr, s, AfterT.bind (P := After (X.mo T) A σ fr H Q) q nA xA fun t ρ1 x H1 _ q1 m1 o1 s1 => ⟨ρ1, _, s1, ?_⟩⟩
  cases h1 : eval sg cf cl ρ1 with
  | none => rw [h1] at q1; exact q1.elim
  | some r =>
    rw [h1] at q1
    cases r with
    | exc e ρ2 => exact (ExcA.dropT q1).mono m1
    | ok m ρ2 =>
      simp only [O.bind] at q1
      cases hm : optInt cl m with
      | none => rw [hm] at q1; exact q1.elim
      | some i =>
        rw [hm] at q1
        refine ⟨i, hm, fun H2 m2 s2 => ⟨ρ2, _, s2, ?_⟩⟩
        simp only at q1
        cases h2 : eval sg cf ch ρ2 with
        | none => rw [h2] at q1; exact q1.elim
        | some r2 =>
          rw [h2] at q1
          cases r2 with
          | exc e ρ3 => exact (ExcA.dropT q1).mono (m1.trans m2)
          | ok n ρ3 =>
            simp only at q1
            cases hn : optInt ch n with
            | none => rw [hn] at q1; exact q1.elim
            | some j =>
              rw [hn] at q1
              refine ⟨j, hn, fun H3 m3 s3 => ?_⟩
              simp only at q1
              cases hx : t.look ρ3 with
              | none => rw [hx] at q1; exact q1.elim
              | some d =>
                cases hg : slcD d i j with
                | none => simp [hx, hg, ofM, After] at q1
                | some r =>
                  simp only [hx, hg, ofM, Option.bind_some, Option.map_some] at q1
                  obtain ⟨Z, v, k⟩ := Sta.looks (ts := [t]) (vs := [x]) s3 (.cons ((o1.mono m2).mono m3) .nil) (by simp [lookAll, hx] : lookAll ρ3 [t] = some [d])
                  cases v with
                  | cons v1 _ => exact ⟨d, r, hg, Z, v1, fun z H' n => q1 z H' (((m1.trans m2).trans m3).trans (.of_ext n.1)) (k H' r z n)⟩
/-! ### calls of built-in functions -/
def rCS (B : Mo) (g : List D → Option M) : List V → Hp → VK → Prop := fun xs H Q => ∃ Z ds m, Vws B Z H ds xs ∧ g ds = some m ∧ ∀ z H', New B Z H H' m z → Q z H'
theorem CallS.callR {f : Value} {g : List D → Option M} (h : CallS T X f g) : CallR X f (rCS (X.mo T) g) := fun pins s σ H xs us Q I r ⟨Z, ds, m, h1, h2, q⟩ => h pins s σ H xs us Q Z ds m I r h1 h2 q
theorem prm_read {cs : List Ex} {p : Prm} {Q : VK} (h : tI B A sg cf (.prm p cs) σ H Q) : tCB (rCS B (prmD p)) (tOs B A sg cf cs) σ H Q := by
  obtain ⟨ρ, fr, s, q⟩ := h
  rw [eval] at q
  refine ⟨ρ, fr, s, AfterTs.bind (P := After B A σ fr H Q) q nA xA fun ts ρ1 vs H1 _ q1 m1 o1 s1 => ?_⟩
  cases hl : lookAll ρ1 ts with
  | none => rw [hl] at q1; exact q1.elim
  | some ds =>
    cases hg : prmD p ds with
    | none => simp [hl, hg, ofM, After] at q1
    | some m =>
      simp only [hl, hg, ofM, Option.bind_some, Option.map_some] at q1
      obtain ⟨Z, v, k⟩ := Sta.looks s1 o1 hl
      exact ⟨Z, ds, m, v, hg, fun z H' n => q1 z H' (m1.trans (.of_ext n.1)) (k H' m z n)⟩
theorem se_prmB {x : Str} {es : List Expr} {cs : List Ex} {p : Prm} {id : String} {p0 pos : Pos} (hc : CallS T X (.builtin id) (prmD p)) (hg : Gl X x) (hm : X.mg x = none) (hv : bootBuiltins x = some (.builtin id)) (hn : x ≠ "__name__") (hd : (x == ("__debug__" : Str)) = false)
    (h : SEs (X.mo T) A sg cf X es cs) (hs : es.all notStar = true) (hne : es ≠ []) : SE (X.mo T) A sg cf X (.Call (.Name x p0) es [] pos) (.prm p cs) := by
  match es, h, hs, hne with
  | e :: es, h, hs, _ =>
    have hs' := hs
    simp only [List.all_cons, Bool.and_eq_true] at hs'
    exact .of rfl rfl ((pe_callB hc.callR hg hm hv (pa_os h hs) hn hd (star_cons hs'.1) (back_any (star_all hs'.2))).imp fun σ H Q h => prm_read h)
theorem se_prmT {x : Str} {es : List Expr} {cs : List Ex} {p : Prm} {id : String} {p0 pos : Pos} (hc : CallS T X (.type id) (prmD p)) (hg : Gl X x) (hm : X.mg x = none) (hv : bootBuiltins x = some (.type id)) (hn : x ≠ "__name__") (hd : (x == ("__debug__" : Str)) = false)
    (h : SEs (X.mo T) A sg cf X es cs) (hs : es.all notStar = true) (hne : es ≠ []) : SE (X.mo T) A sg cf X (.Call (.Name x p0) es [] pos) (.prm p cs) := by
  match es, h, hs, hne with
  | e :: es, h, hs, _ =>
    have hs' := hs
    simp only [List.all_cons, Bool.and_eq_true] at hs'
    exact .of rfl rfl ((pe_callTy hc.callR hg hm hv (pa_os h hs) hn hd (star_cons hs'.1) (back_any (star_all hs'.2))).imp fun σ H Q h => prm_read h)
end
end Iv
set_option linter.all false
set_option maxRecDepth 100000
set_option maxHeartbeats 1000000
/-! Iv8: fields, changes in place, dict displays. -/
namespace Iv
open PySem PySem.Spec PyProof.Rows L2
section
variable {A : Ask} {sg : Sig} {cf : CallFn} {X : Cx} {T : Flds} {σ : L2.St} {fr : List (M × V)} {H H' H0 H1 : Hp} {ρ : Rho} {B : Mo} {Z : Addr → Prop}
/-! ### fields -/
theorem fl_inj {f g : Nat} {x : Str} (h : B.T.fl[f]? = some x) (h' : B.T.fl[g]? = some x) : f = g := by
  obtain ⟨h1, e1⟩ := List.getElem?_eq_some_iff.mp h
  obtain ⟨h2, e2⟩ := List.getElem?_eq_some_iff.mp h'
  exact (List.getElem_inj B.T.nd).mp (e1.trans e2.symm)
theorem RF.name : ∀ {fs : List (Nat × M)} {fvs : List (Str × V)} {fp : List Addr} {f : Nat} {m : M}, RF B Z H fs fvs fp → lookF fs f = some m → ∃ x, B.T.fl[f]? = some x
  | _, _, _, f, m, .nil, e => by simp [lookF] at e
  | _, _, _, f, m, @RF.cons _ _ _ g y n v fs fvs fp fq hy r rs, e => by
    by_cases h : f = g
    · subst h; exact ⟨y, hy⟩
    · refine RF.name rs (m := m) ?_
      simp only [lookF, List.lookup_cons] at e ⊢
      rw [show (f == g) = false by simpa using h] at e
      exact e
/-- the instance in a slot -/
theorem slot_ins {i : Nat} {l : List (M × V)} {fp : List Addr} {c : String} {fs : List (Nat × M)} (env : EnvR ρ σ l) (sub : ∀ p ∈ l, ∃ fq, RM B Z H p.1 p.2 fq) (hg : getS ρ i = some (.ins c fs)) :
    ∃ a C dx fvs fq, σ[i]? = some (some (.ref a)) ∧ H a = some (.ins C dx fvs) ∧ (C = He.ga B.K (Str.ofString c) ∧ Cls B.K C ∧ ∀ x ∈ B.T.fl, NoAttr B.K C x) ∧ RF B Z H fs fvs fq := by
  obtain ⟨v, h1, h2⟩ := env_mem env hg
  obtain ⟨fq, r⟩ := sub _ h2
  cases r with
  | ins h c r => exact ⟨_, _, _, _, _, h1, h, c, r⟩
theorem getP_ins {i f : Nat} {m : M} (h : getP ρ i (some f) = some m) : ∃ c fs, getS ρ i = some (.ins c fs) ∧ lookF fs f = some m := by
  simp only [getP] at h
  cases hg : getS ρ i with
  | none => rw [hg] at h; cases h
  | some n =>
    rw [hg] at h
    cases n with
    | ins c fs => exact ⟨c, fs, rfl, h⟩
    | _ => cases h
theorem mem_of_fl {f : Nat} {x : Str} (h : B.T.fl[f]? = some x) : x ∈ B.T.fl := List.mem_of_getElem? h
/-- a field's own list or dict -/
theorem se_fld {o : Expr} {i f : Nat} {x : Str} {pos : Pos} (ho : PE X o (tVar i)) (hx : T.fl[f]? = some x) (hb : noSuper o = true) : SE (X.mo T) A sg cf X (.Attribute o x pos) (.fld i f) := by
  have p := pe_fld (f := x) (pos := pos) ho (base_ok hb)
  have key : ∀ (σ : L2.St) (H : Hp) (ρ : Rho) (fr : List (M × V)) (m : M), Sta (X.mo T) ρ σ H fr → getP ρ i (some f) = some m → ∃ a C dx fvs v, σ[i]? = some (some (.ref a)) ∧ H a = some (.ins C dx fvs) ∧ Cls X.K C ∧ NoAttr X.K C x ∧ fvs.lookup x = some v ∧
      (∀ d, m = .imm d → Sta (X.mo T) ρ σ H ((.imm d, v) :: fr)) ∧ ((∃ ys, m = .lst ys) ∨ (∃ ys, m = .dic ys) → ∃ b u, v = .ref b ∧ H b = some u ∧ mutO u = true) := by
    intro σ H ρ fr m s hg
    obtain ⟨c, fs, g1, g2⟩ := getP_ins hg
    obtain ⟨l, env, Z, fp, lv⟩ := s
    obtain ⟨a, C, dx, fvs, fq, h1, h2, ⟨h3, h4, h5⟩, h6⟩ := slot_ins (fp := fp) env (fun p hp => lv.rep.mem (List.mem_append_left _ hp)) g1
    obtain ⟨v, f2, k1, k2⟩ := h6.look hx g2
    refine ⟨a, C, dx, fvs, v, h1, h2, h4, h5 x (mem_of_fl hx), k1, fun d e => ?_, fun h => ?_⟩
    · subst e
      cases k2 with
      | imm r => exact Sta.keepNew env lv (.imm r)
    · rcases h with ⟨ys, rfl⟩ | ⟨ys, rfl⟩
      · cases k2 with
        | lst h r => exact ⟨_, _, rfl, h, rfl⟩
      · cases k2 with
        | dic h r => exact ⟨_, _, rfl, h, rfl⟩
  have pe : PE X (.Attribute o x pos) (tI (X.mo T) A sg cf (.fld i f)) := p.imp fun σ H Q ⟨ρ, fr, s, q⟩ => by
    rw [eval] at q
    unfold copyF at q
    cases hg : getP ρ i (some f) with
    | none => rw [hg] at q; exact q.elim
    | some m =>
      rw [hg] at q
      obtain ⟨a, C, dx, fvs, v, h1, h2, h3, h4, h5, h6, _⟩ := key σ H ρ fr m s hg
      cases m with
      | imm d => exact ⟨_, h1, a, C, dx, fvs, v, rfl, h2, h3, h4, h5, q v H .refl (h6 d rfl)⟩
      | _ => exact q.elim
  refine ⟨pe, p.imp fun σ H Q ⟨ρ, fr, s, q⟩ => ?_, SE.t_of pe (plainT_ok rfl)⟩
  simp only [opd] at q
  cases hg : getP ρ i (some f) with
  | none => rw [hg] at q; exact q.elim
  | some m =>
    rw [hg] at q
    obtain ⟨a, C, dx, fvs, v, h1, h2, h3, h4, h5, h6, h7⟩ := key σ H ρ fr m s hg
    cases m with
    | imm d => exact ⟨_, h1, a, C, dx, fvs, v, rfl, h2, h3, h4, h5, q v H .refl trivial (h6 d rfl)⟩
    | lst ys =>
      obtain ⟨b, u, e1, e2, e3⟩ := h7 (.inl ⟨ys, rfl⟩)
      exact ⟨_, h1, a, C, dx, fvs, v, rfl, h2, h3, h4, h5, q v H .refl ⟨a, C, dx, fvs, h1, h2, x, b, u, hx, h5, e1, e2, e3⟩ s⟩
    | dic ys =>
      obtain ⟨b, u, e1, e2, e3⟩ := h7 (.inr ⟨ys, rfl⟩)
      exact ⟨_, h1, a, C, dx, fvs, v, rfl, h2, h3, h4, h5, q v H .refl ⟨a, C, dx, fvs, h1, h2, x, b, u, hx, h5, e1, e2, e3⟩ s⟩
    | ins c fs => exact q.elim
    | exc y => exact q.elim
    | thk _ _ _ _ => exact q.elim
/-- a field of what is in hand -/
theorem RF.fpAt {f : Nat} {x : Str} (hx : B.T.fl[f]? = some x) : ∀ {fs : List (Nat × M)} {fvs : List (Str × V)} {fp : List Addr} {m : M}, RF B Z H fs fvs fp → lookF fs f = some m → ∃ v fq, fvs.lookup x = some v ∧ RM B Z H m v fq ∧ fq.Sublist fp
  | _, _, _, m, .nil, e => by simp [lookF] at e
  | _, _, _, m, @RF.cons _ _ _ g y n v fs fvs fp fq hy r rs, e => by
    by_cases h : f = g
    · subst h
      rw [hx] at hy; cases hy
      simp only [lookF, List.lookup_cons, beq_self_eq_true] at e
      cases e
      exact ⟨v, fp, by simp [List.lookup_cons], r, List.sublist_append_left _ _⟩
    · have hne : x ≠ y := fun e => h (fl_inj hx (e ▸ hy))
      have e' : lookF fs f = some m := by
        simp only [lookF, List.lookup_cons] at e ⊢
        rw [show (f == g) = false by simpa using h] at e
        exact e
      obtain ⟨v', fq', h1, h2, h3⟩ := RF.fpAt hx rs e'
      refine ⟨v', fq', ?_, h2, h3.trans (List.sublist_append_right _ _)⟩
      rw [List.lookup_cons, show (x == y) = false by simpa using hne]
      exact h1
theorem sta_tfl {c : String} {fs : List (Nat × M)} {f : Nat} {x : Str} {m : M} {w : V} (s : Sta B ρ σ H ((.ins c fs, w) :: fr)) (hx : B.T.fl[f]? = some x) (hl : lookF fs f = some m) :
    ∃ a C dx fvs v, w = .ref a ∧ H a = some (.ins C dx fvs) ∧ Cls B.K C ∧ NoAttr B.K C x ∧ fvs.lookup x = some v ∧ Sta B ρ σ H ((m, v) :: fr) := by
  obtain ⟨l, env, Z, fp, lv⟩ := s
  obtain ⟨f1, lv1⟩ := lv.perm List.perm_middle
  obtain ⟨r, nd, nz, zs⟩ := lv1
  cases r with
  | @cons _ _ _ fa fb r rs =>
    cases r with
    | @ins a C dx _ fvs _ f0 h cl rf =>
      obtain ⟨v, fq, k1, k2, k3⟩ := rf.fpAt hx hl
      refine ⟨a, C, dx, fvs, v, rfl, h, cl.2.1, cl.2.2 x (mem_of_fl hx), k1, ?_⟩
      have sub : (fq ++ fb).Sublist (a :: f0 ++ fb) := (k3.trans (List.sublist_cons_self _ _)).append (.refl _)
      have lv2 : Lv B Z H ((m, v) :: (l ++ fr)) (fq ++ fb) := ⟨.cons k2 rs, nd.sublist sub, fun b hb => nz b (sub.subset hb), zs⟩
      obtain ⟨f3, l3⟩ := lv2.perm List.perm_middle.symm
      exact ⟨l, env, Z, f3, l3⟩
theorem se_tfl {o : Expr} {c : Ex} {f : Nat} {x : Str} {pos : Pos} (ho : SE (X.mo T) A sg cf X o c) (hx : T.fl[f]? = some x) (hb : noSuper o = true) : SE (X.mo T) A sg cf X (.Attribute o x pos) (.tfl c f) := by
  refine .of rfl rfl ((pe_fld (f := x) (pos := pos) ho.pe (base_ok hb)).imp fun σ H Q ⟨ρ, fr, s, q⟩ => ?_)
  rw [eval] at q
  refine ⟨ρ, fr, s, After.bind (P := After (X.mo T) A σ fr H Q) q nA xA fun m ρ1 w H1 _ q1 m1 s1 => ?_⟩
  cases m with
  | ins cc fs =>
    cases hl : lookF fs f with
    | none => simp [hl, ofM, After] at q1
    | some m =>
      simp only [hl, ofM, Option.map_some] at q1
      obtain ⟨a, C, dx, fvs, v, e, h1, h2, h3, h4, s2⟩ := sta_tfl s1 hx hl
      exact ⟨a, C, dx, fvs, v, e, h1, h2, h3, h4, q1 v H1 m1 s2⟩
  | _ => exact q1.elim
/-! ### an own list in its place changes -/
theorem kp_upd {a : Addr} {o o' : HO} (h : H a = some o) (hz : ¬ Z a) (hs : ¬ stays o) : Kp Z H (upd H a o') := fun b u e k => by
  by_cases hb : b = a
  · subst hb
    rw [h] at e; cases e
    rcases k with k | k
    · exact (hz k).elim
    · exact (hs k.st).elim
  · rw [upd_ne hb]; exact e
theorem mono_upd {a : Addr} {o o' : HO} (h : H a = some o) (ev : Evo H o o') : Mono H (upd H a o') := fun b u e _ => by
  by_cases hb : b = a
  · subst hb
    rw [h] at e; cases e
    exact ⟨o', upd_same, ev⟩
  · exact ⟨u, by rw [upd_ne hb]; exact e, .refl u⟩
theorem RF.write {f : Nat} {x : Str} (hx : B.T.fl[f]? = some x) {b : Addr} {m m' : M} {o' : HO} (hk : Kp Z H (upd H b o')) : ∀ {fs : List (Nat × M)} {fvs : List (Str × V)} {fp : List Addr}, RF B Z H fs fvs fp → fp.Nodup → lookF fs f = some m → fvs.lookup x = some (.ref b) →
    (∀ fq, RM B Z H m (.ref b) fq → b ∈ fq ∧ RM B Z (upd H b o') m' (.ref b) fq) → RF B Z (upd H b o') (setF f m' fs) fvs fp
  | _, _, _, .nil, _, e, _, _ => by simp [lookF] at e
  | _, _, _, @RF.cons _ _ _ g y n v fs fvs fp fq hy r rs, nd, e, l, w => by
    obtain ⟨n1, n2, n3⟩ := List.nodup_append.mp nd
    by_cases h : g = f
    · subst h
      rw [hx] at hy; cases hy
      simp only [lookF, List.lookup_cons, beq_self_eq_true] at e
      cases e
      have l' : v = .ref b := by simpa [List.lookup_cons] using l
      subst l'
      obtain ⟨hb, r'⟩ := w _ r
      rw [setF, if_pos rfl]
      exact .cons hx r' (rs.keep hk (fun _ z => z) fun c hc => upd_ne fun e => n3 b hb c hc e.symm)
    · have hne : x ≠ y := fun e => h (fl_inj (e ▸ hy) hx)
      have e' : lookF fs f = some m := by
        simp only [lookF, List.lookup_cons] at e ⊢
        rw [show (f == g) = false by simpa using Ne.symm h] at e
        exact e
      have l' : fvs.lookup x = some (.ref b) := by
        rw [List.lookup_cons, show (x == y) = false by simpa using hne] at l
        exact l
      rw [setF, if_neg h]
      obtain ⟨v', fq', k1, k2, k3⟩ := rs.fpAt hx e'
      rw [l'] at k1; cases k1
      obtain ⟨hb, _⟩ := w _ k2
      exact .cons hy (r.keep hk (fun _ z => z) fun c hc => upd_ne fun e => n3 c hc b (k3.subset hb) e) (RF.write hx hk rs n2 e' l' w)
/-- the list, dict at a path -/
theorem sta_path {i : Nat} {f : Option Nat} {m : M} {v : V} (s : Sta B ρ σ H fr) (ok : TOk B σ H (.ref i f) v) (hg : getP ρ i f = some m) (own : (∃ ys, m = .lst ys) ∨ ∃ ys, m = .dic ys) :
    ∃ Z b fq, v = .ref b ∧ RM B Z H m (.ref b) fq ∧ b ∈ fq ∧ ¬ Z b ∧ (∀ p ∈ fr, ∃ fq, RM B Z H p.1 p.2 fq) ∧ ∀ o o' m' ρ', H b = some o → ¬ stays o → putP ρ i m' f = some ρ' → (∀ fq, RM B Z H m (.ref b) fq → RM B Z (upd H b o') m' (.ref b) fq) → Sta B ρ' σ (upd H b o') fr := by
  obtain ⟨l, env, Z, fp, lv⟩ := s
  cases f with
  | none =>
    have hg : getS ρ i = some m := hg
    obtain ⟨v', l', h1, h2, h3⟩ := env.take hg
    have : σ[i]? = some (some v) := ok
    rw [h1] at this; cases this
    obtain ⟨f1, lv1⟩ := lv.perm (l' := (m, v) :: (l' ++ fr)) (h3.append_right fr)
    obtain ⟨r, nd, nz, zs⟩ := lv1
    cases r with
    | @cons _ _ _ fa fb r rs =>
      obtain ⟨b, rfl, hb⟩ : ∃ b, v = .ref b ∧ b ∈ fa := by
        rcases own with ⟨ys, rfl⟩ | ⟨ys, rfl⟩
        · cases r with
          | lst h _ => exact ⟨_, rfl, by simp⟩
        · cases r with
          | dic h _ => exact ⟨_, rfl, by simp⟩
      refine ⟨Z, b, fa, rfl, r, hb, nz b (List.mem_append_left _ hb), fun p hp => rs.mem (List.mem_append_right _ hp), fun o o' m' ρ' ho hs hp hw => ?_⟩
      cases hp
      obtain ⟨n1, n2, n3⟩ := List.nodup_append.mp nd
      have hk := kp_upd (o' := o') ho (nz b (List.mem_append_left _ hb)) hs
      have lv2 : Lv B Z (upd H b o') ((m', .ref b) :: (l' ++ fr)) (fa ++ fb) := by
        refine ⟨.cons (hw _ r) (rs.keep hk (fun _ z => z) fun c hc => upd_ne fun e => n3 b hb c hc e.symm), nd, nz, zs.put ho hs (nz b (List.mem_append_left _ hb))⟩
      obtain ⟨f3, l3⟩ := lv2.perm List.perm_middle.symm
      exact Sta.refill ⟨l', h2, Z, f3, l3⟩ h1
  | some f =>
    obtain ⟨c, fs, g1, g2⟩ := getP_ins hg
    obtain ⟨v', l', h1, h2, h3⟩ := env.take g1
    obtain ⟨a, C, dx, fvs, t1, t2, x, b, u, hx, t3, rfl, t4, t5⟩ := ok
    rw [h1] at t1; cases t1
    obtain ⟨f1, lv1⟩ := lv.perm (l' := (.ins c fs, .ref a) :: (l' ++ fr)) (h3.append_right fr)
    obtain ⟨r, nd, nz, zs⟩ := lv1
    cases r with
    | @cons _ _ _ fa fb r rs =>
      cases r with
      | @ins _ _ _ _ _ _ f0 h cl rf =>
        rw [t2] at h; cases h
        obtain ⟨n1, n2, n3⟩ := List.nodup_append.mp nd
        obtain ⟨v2, fq, k1, k2, k3⟩ := rf.fpAt hx g2
        rw [t3] at k1; cases k1
        have hb : b ∈ fq := by
          rcases own with ⟨ys, rfl⟩ | ⟨ys, rfl⟩
          · cases k2 with
            | lst h _ => simp
          · cases k2 with
            | dic h _ => simp
        have hb0 : b ∈ f0 := k3.subset hb
        have hab : a ≠ b := fun e => (List.nodup_cons.mp n1).1 (e ▸ hb0)
        refine ⟨Z, b, fq, rfl, k2, hb, nz b (List.mem_append_left _ (List.mem_cons_of_mem _ hb0)), fun p hp => rs.mem (List.mem_append_right _ hp), fun o o' m' ρ' ho hs hp hw => ?_⟩
        simp only [putP, g1] at hp
        cases hp
        have hk := kp_upd (o' := o') ho (nz b (List.mem_append_left _ (List.mem_cons_of_mem _ hb0))) hs
        have rf' := rf.write hx (m' := m') hk (List.nodup_cons.mp n1).2 g2 t3 fun fq r => ⟨by
          rcases own with ⟨ys, rfl⟩ | ⟨ys, rfl⟩
          · cases r with
            | lst h _ => simp
          · cases r with
            | dic h _ => simp, hw fq r⟩
        have lv2 : Lv B Z (upd H b o') ((.ins c (setF f m' fs), .ref a) :: (l' ++ fr)) (a :: f0 ++ fb) := by
          refine ⟨.cons (.ins (by rw [upd_ne hab]; exact t2) cl rf') (rs.keep hk (fun _ z => z) fun c hc => upd_ne fun e => n3 b (List.mem_cons_of_mem _ hb0) c hc e.symm), nd, nz, zs.put ho hs (nz b (List.mem_append_left _ (List.mem_cons_of_mem _ hb0)))⟩
        obtain ⟨f3, l3⟩ := lv2.perm List.perm_middle.symm
        exact Sta.refill ⟨l', h2, Z, f3, l3⟩ h1
end
end Iv
set_option linter.all false
set_option maxRecDepth 100000
set_option maxHeartbeats 1000000
/-! Iv9: methods that change a list in its place; built-in methods; dict displays. -/
namespace Iv
open PySem PySem.Spec PyProof.Rows L2
section
variable {A : Ask} {sg : Sig} {cf : CallFn} {X : Cx} {T : Flds} {σ : L2.St} {fr : List (M × V)} {H H' H0 H1 : Hp} {ρ : Rho} {B : Mo} {Z : Addr → Prop}
def pathE (i : Nat) : Option Nat → Ex
  | none => .var i
  | some f => .fld i f
theorem opd_path {i : Nat} {f : Option Nat} {xs : List D} {ev : Rho → O M} (h : getP ρ i f = some (.lst xs)) : opd (pathE i f) ev ρ = some (.ok (.ref i f) ρ) := by
  cases f with
  | none =>
    have h : getS ρ i = some (.lst xs) := h
    simp only [pathE, opd, h]
  | some f => simp only [pathE, opd, h]
theorem list_at {i : Nat} {f : Option Nat} {xs : List D} {v : V} (s : Sta B ρ σ H fr) (ok : TOk B σ H (.ref i f) v) (hg : getP ρ i f = some (.lst xs)) :
    ∃ Z b us, v = .ref b ∧ H b = some (.lst us) ∧ RDs B Z H xs us ∧ (∀ p ∈ fr, ∃ fq, RM B Z H p.1 p.2 fq) ∧ ∀ ys ws ρ', RDs B Z H ys ws → putP ρ i (.lst ys) f = some ρ' → Sta B ρ' σ (upd H b (.lst ws)) fr := by
  obtain ⟨Z, b, fq, e, r, hb, hz, hf, w⟩ := sta_path s ok hg (.inl ⟨xs, rfl⟩)
  cases r with
  | @lst _ us _ h rd =>
    refine ⟨Z, b, us, e, h, rd, hf, fun ys ws ρ' rw' hp => ?_⟩
    refine w _ _ _ ρ' h (fun z => z) hp fun fq r => ?_
    cases r with
    | lst h' rd' => exact .lst upd_same (rw'.keep (kp_upd h hz fun z => z) fun _ z => z)
theorem path_rm {Z : Addr → Prop} {l : List (M × V)} {i : Nat} {f : Option Nat} {m : M} {v : V} (env : EnvR ρ σ l) (sub : ∀ p ∈ l, ∃ fq, RM B Z H p.1 p.2 fq) (ok : TOk B σ H (.ref i f) v) (hg : getP ρ i f = some m) : ∃ fq, RM B Z H m v fq := by
  cases f with
  | none =>
    obtain ⟨v', h1, h2⟩ := env_mem env hg
    have : σ[i]? = some (some v) := ok
    rw [h1] at this; cases this
    exact sub _ h2
  | some f =>
    obtain ⟨a, C, dx, fvs, h1, h2, x, _, _, hx, h3, _⟩ := ok
    simp only [getP] at hg
    cases hs : getS ρ i with
    | none => rw [hs] at hg; cases hg
    | some m' =>
      rw [hs] at hg
      obtain ⟨v', g1, g2⟩ := env_mem env hs
      rw [h1] at g1; cases g1
      obtain ⟨fq, r⟩ := sub _ g2
      cases r with
      | ins h c rf =>
        rw [h2] at h; cases h
        obtain ⟨v'', fq', k1, k2⟩ := rf.look hx hg
        rw [h3] at k1; cases k1
        exact ⟨_, k2⟩
      | _ => cases hg
/-- an item of an own list, told once more -/
theorem list_dup {i j : Nat} {f : Option Nat} {xs : List D} {v : V} {d : D} (s : Sta B ρ σ H fr) (ok : TOk B σ H (.ref i f) v) (hg : getP ρ i f = some (.lst xs)) (hd : xs[j]? = some d) :
    ∃ b us u, v = .ref b ∧ H b = some (.lst us) ∧ us[j]? = some u ∧ Sta B ρ σ H ((.imm d, u) :: fr) := by
  obtain ⟨l, env, Z, fp, lv⟩ := s
  obtain ⟨fq, r⟩ := path_rm env (fun p hp => lv.rep.mem (List.mem_append_left _ hp)) ok hg
  cases r with
  | lst h rd =>
    obtain ⟨u, hu, ru⟩ := rd.get hd
    refine ⟨_, _, u, rfl, h, hu, ?_⟩
    obtain ⟨f3, l3⟩ := (lv.add (fun _ _ e => e) (.imm ru) .nil (fun _ h => nomatch h)).perm (l' := l ++ (.imm d, u) :: fr) List.perm_middle.symm
    exact ⟨l, env, Z, f3, l3⟩
def rExtendV (K : PySem.W.Frag) : V → List V → Hp → VK → Prop := fun x vs H Q => ∃ l b xs zs, x = .ref l ∧ vs = [.ref b] ∧ H l = some (.lst xs) ∧ (Rd H b (.lst zs) ∨ KL K b zs) ∧ xs.length + zs.length ≤ sizeLine ∧ Q .non (upd H l (.lst (xs ++ zs)))
theorem mt_extendV : MtM X "list.extend" (rExtendV X.K) := by
  intro pins s σ H x vs v us Q I rx rv h
  obtain ⟨l, b, xs, zs, rfl, rfl, hH, hB, hz, q⟩ := h
  cases rx
  obtain ⟨u, rfl, ru⟩ := rv.one
  cases ru
  obtain ⟨_, its, n, r, _, e⟩ := I.lstM hH
  obtain ⟨its2, n2, r2, e2⟩ : ∃ (its2 : List Value) (n2 : Nat), Vals zs its2 ∧ s.heap.get? b = some { cls := .type "list", data := .seq its2.toArray n2 } := by
    rcases hB with (hB | ⟨o, hB⟩) | ⟨its2, n2, hB, _, r2⟩
    · obtain ⟨_, its2, n2, r2, e2⟩ := I.hok b _ hB
      exact ⟨its2, n2, r2, e2⟩
    · obtain ⟨_, _, its2, n2, r2, e2⟩ := I.hok b _ hB
      exact ⟨its2, n2, r2, e2⟩
    · exact ⟨its2, n2, r2, I.kIn _ _ hB⟩
  have hl := r.length
  have hl2 := r2.length
  have hsz : its.toArray.size + its2.toArray.size ≤ sizeLine := by simp only [List.size_toArray]; omega
  have hlong : ¬ (!its.toArray.isEmpty && Builtin.List.listTooLong (its.toArray.size + its2.toArray.size)) = true := fun z => by
    rw [notLongL hsz, Bool.and_false] at z; cases z
  refine call_meets PySem.F.slot_list_extend ⟨_, e, rfl⟩ PySem.F.entry_list_extend (PySem.F.args_list_extend_2 _ _)
    (AutoSeq1.list_extend_list_list_0 l its.toArray n b its2.toArray n2 hlong (by simp only [List.size_toArray]; omega) (by simp only [List.size_toArray] at *; omega)) ⟨e, e2, ?_⟩
  exact ⟨.non, _, I.lset (its' := its ++ its2) hH e (by simp) (r.append r2) (by rw [List.length_append]; omega), rfl, q⟩
def mutR (K : PySem.W.Frag) (p : Mut) : V → List V → Hp → VK → Prop := match p with
  | .append => rAppend
  | .extend => rExtendV K
  | .clear => rClear
  | .pop => rPop
def mutName : Mut → Str
  | .append => "append"
  | .extend => "extend"
  | .clear => "clear"
  | .pop => "pop"
theorem mut_read {p : Mut} {i : Nat} {f : Option Nat} {cs : List Ex} {Q : VK} (h : tI (X.mo T) A sg cf (.mut p i f cs) σ H Q) : tBM X.K "list" (mutR X.K p) (tO (X.mo T) A sg cf (pathE i f)) (tDs (X.mo T) A sg cf cs) σ H Q := by
  obtain ⟨ρ, fr, s, q⟩ := h
  rw [eval] at q
  cases hg : getP ρ i f with
  | none => rw [hg] at q; exact q.elim
  | some m0 =>
    rw [hg] at q
    cases m0 with
    | lst xs0 =>
      simp only at q
      refine ⟨ρ, fr, s, ?_⟩
      rw [opd_path hg]
      intro x H1 m1 ok s1
      obtain ⟨Z0, b0, us0, e0, h0, _⟩ := list_at s1 ok hg
      subst e0
      refine ⟨.inl ⟨rfl, _, SqL.of h0⟩, ρ, fr, s1, AfterD.bind (P := After (X.mo T) A σ fr H Q) q nA (fun e ρ h => (xA e ρ h).mono m1) fun ds ρ2 vs H2 e2 q2 m2 hl s2 => ?_⟩
      have ok2 := ok.mono m2
      cases hg2 : getP ρ2 i f with
      | none => rw [hg2] at q2; exact q2.elim
      | some m =>
        rw [hg2] at q2
        simp only [Option.bind_some] at q2
        cases hm : mutD p m ds with
        | none => rw [hm] at q2; exact q2.elim
        | some r =>
          obtain ⟨m', d'⟩ := r
          rw [hm] at q2
          simp only [Option.bind_some] at q2
          cases hpp : putP ρ2 i m' f with
          | none => rw [hpp] at q2; exact q2.elim
          | some ρ' =>
            rw [hpp] at q2
            simp only [Option.map_some] at q2
            cases m with
            | lst xs =>
              have ok3 : TOk (X.mo T) σ H2 (.ref i f) (.ref b0) := ok2
              obtain ⟨Z, b, us, e, hb, rd, hf, w⟩ := list_at s2 ok3 hg2
              cases e
              have fin : ∀ (ys : List D) (ws : List V) (v : V), m' = .lst ys → RDs (X.mo T) Z H2 ys ws → (∀ Z H, RD (X.mo T) Z H d' v) ∨ RD (X.mo T) Z H2 d' v ∧ d' = d' → (∀ Z H, RD (X.mo T) Z H d' v) → Q v (upd H2 b0 (.lst ws)) := by
                intro ys ws v e rw' _ hd
                subst e
                have s3 := dropDs (w ys ws ρ' rw' hpp)
                exact q2 v _ ((m1.trans m2).trans (mono_upd hb ⟨_, rfl⟩)) (sta_imm s3 fun Z => hd Z _)
              cases p with
              | append =>
                match ds, vs, hm, hl, s2, hf with
                | [d], [v], hm, _, s2, hf =>
                  simp only [mutD] at hm
                  split at hm
                  · rename_i hlen
                    cases hm
                    obtain ⟨fq, r⟩ := hf (.imm d, v) List.mem_cons_self
                    cases r with
                    | imm r =>
                      refine ⟨b0, us, v, rfl, rfl, hb, by rw [← line_eq, ← rd.length]; exact hlen, ?_⟩
                      exact fin _ _ .non rfl (rd.append (.cons r .nil)) (.inl fun _ _ => .non) fun _ _ => .non
                  · cases hm
                | [], _, hm, _, _, _ => simp [mutD] at hm
                | _ :: _ :: _, _, hm, _, _, _ => simp [mutD] at hm
                | [_], [], _, hl, _, _ => simp at hl
                | [_], _ :: _ :: _, _, hl, _, _ => simp at hl
              | extend =>
                match ds, vs, hm, hl, s2, hf with
                | [.list ys], [v], hm, _, s2, hf =>
                  simp only [mutD] at hm
                  split at hm
                  · rename_i hlen
                    cases hm
                    obtain ⟨fq, r⟩ := hf (.imm (.list ys), v) List.mem_cons_self
                    cases r with
                    | imm r =>
                      cases r with
                      | lst z h rs => exact ⟨b0, _, us, _, rfl, rfl, hb, .inl h, by rw [← line_eq, ← rd.length, ← rs.length]; exact hlen, fin _ _ .non rfl (rd.append rs) (.inl fun _ _ => .non) fun _ _ => .non⟩
                      | klst h rs => exact ⟨b0, _, us, _, rfl, rfl, hb, .inr h, by rw [← line_eq, ← rd.length, ← rs.length]; exact hlen, fin _ _ .non rfl (rd.append rs) (.inl fun _ _ => .non) fun _ _ => .non⟩
                  · cases hm
                | [], _, hm, _, _, _ => simp [mutD] at hm
                | _ :: _ :: _, _, hm, _, _, _ => simp [mutD] at hm
                | [_], [], _, hl, _, _ => simp at hl
                | [_], _ :: _ :: _, _, hl, _, _ => simp at hl
                | [.none], [_], hm, _, _, _ => simp [mutD] at hm
                | [.bool _], [_], hm, _, _, _ => simp [mutD] at hm
                | [.int _], [_], hm, _, _, _ => simp [mutD] at hm
                | [.str _], [_], hm, _, _, _ => simp [mutD] at hm
                | [.tuple _], [_], hm, _, _, _ => simp [mutD] at hm
                | [.dict _], [_], hm, _, _, _ => simp [mutD] at hm
              | clear =>
                match ds, vs, hm, hl with
                | [], [], hm, _ =>
                  simp only [mutD] at hm
                  cases hm
                  exact ⟨b0, us, rfl, rfl, hb, fin [] [] .non rfl .nil (.inl fun _ _ => .non) fun _ _ => .non⟩
                | _ :: _, _, hm, _ => simp [mutD] at hm
                | [], _ :: _, _, hl => simp at hl
              | pop =>
                match ds, vs, hm, hl with
                | [], [], hm, _ =>
                  simp only [mutD] at hm
                  obtain ⟨d, hd, e⟩ := Option.map_eq_some_iff.mp hm
                  cases e
                  obtain ⟨b1, us1, v, e1, h1, hv, s3⟩ := list_dup (show Sta (X.mo T) ρ2 σ H2 fr from s2) ok3 hg2 hd
                  cases e1
                  obtain ⟨Z', b2, us', e2, hb', rd', _, w'⟩ := list_at s3 ok3 hg2
                  cases e2
                  rw [h1] at hb hb'; cases hb; cases hb'
                  rw [rd.length] at hv
                  refine ⟨b0, us, v, rfl, rfl, h1, hv, ?_⟩
                  have rl : RDs (X.mo T) Z' H2 xs.dropLast us.dropLast := by
                    rw [List.dropLast_eq_take, List.dropLast_eq_take, rd'.length]
                    exact rd'.take _
                  exact q2 v _ ((m1.trans m2).trans (mono_upd h1 ⟨_, rfl⟩)) (w' _ _ ρ' rl hpp)
                | _ :: _, _, hm, _ => simp [mutD] at hm
                | [], _ :: _, _, hl => simp at hl
            | imm d => cases p <;> (cases ds <;> simp [mutD] at hm)
            | dic d => cases p <;> (cases ds <;> simp [mutD] at hm)
            | ins c d => cases p <;> (cases ds <;> simp [mutD] at hm)
            | exc y => cases p <;> (cases ds <;> simp [mutD] at hm)
            | thk _ _ _ _ => cases p <;> (cases ds <;> simp [mutD] at hm)
    | imm d => exact q.elim
    | dic d => exact q.elim
    | ins c d => exact q.elim
    | exc y => exact q.elim
    | thk _ _ _ _ => exact q.elim
theorem se_append {o : Expr} {i : Nat} {f : Option Nat} {es : List Expr} {cs : List Ex} {apos pos : Pos} (ho : SE (X.mo T) A sg cf X o (pathE i f)) (hb : noSuper o = true) (h : SEs (X.mo T) A sg cf X es cs) (hs : es.all notStar = true) (hne : es ≠ []) (hl : es.length < 30)
    (hline : (apos.endLine == pos.line) = true) : SE (X.mo T) A sg cf X (.Call (.Attribute o "append" apos) es [] pos) (.mut .append i f cs) := by
  match es, h, hs, hne, hl with
  | e :: es, h, hs, _, hl =>
    have hs' := hs
    simp only [List.all_cons, Bool.and_eq_true] at hs'
    exact .of rfl rfl ((pe_bm PySem.F.plainAttrs_list PySem.F.slot_list_append PySem.F.type_list_append (mt_append (X := X)) ho.po (pa_ds h hs) (base_ok hb) (few_ok hs hl) hline (star_cons hs'.1) (back_any (star_all hs'.2))).imp fun σ H Q h => mut_read h)
theorem se_extend {o : Expr} {i : Nat} {f : Option Nat} {es : List Expr} {cs : List Ex} {apos pos : Pos} (ho : SE (X.mo T) A sg cf X o (pathE i f)) (hb : noSuper o = true) (h : SEs (X.mo T) A sg cf X es cs) (hs : es.all notStar = true) (hne : es ≠ []) (hl : es.length < 30)
    (hline : (apos.endLine == pos.line) = true) : SE (X.mo T) A sg cf X (.Call (.Attribute o "extend" apos) es [] pos) (.mut .extend i f cs) := by
  match es, h, hs, hne, hl with
  | e :: es, h, hs, _, hl =>
    have hs' := hs
    simp only [List.all_cons, Bool.and_eq_true] at hs'
    exact .of rfl rfl ((pe_bm PySem.F.plainAttrs_list PySem.F.slot_list_extend PySem.F.type_list_extend (mt_extendV (X := X)) ho.po (pa_ds h hs) (base_ok hb) (few_ok hs hl) hline (star_cons hs'.1) (back_any (star_all hs'.2))).imp fun σ H Q h => mut_read h)
theorem se_clear {o : Expr} {i : Nat} {f : Option Nat} {apos pos : Pos} (ho : SE (X.mo T) A sg cf X o (pathE i f)) (hb : noSuper o = true) (hline : (apos.endLine == pos.line) = true) : SE (X.mo T) A sg cf X (.Call (.Attribute o "clear" apos) [] [] pos) (.mut .clear i f []) := by
  refine .of rfl rfl ((pe_bm0 PySem.F.plainAttrs_list PySem.F.slot_list_clear PySem.F.type_list_clear (mt_clear (X := X)) ho.po (base_ok hb) hline).imp fun σ H Q h => ?_)
  obtain ⟨ρ, fr, s, q⟩ := mut_read (p := .clear) h
  refine ⟨ρ, fr, s, ?_⟩
  revert q
  cases opd (pathE i f) (eval sg cf (pathE i f)) ρ with
  | none => exact fun q => q
  | some r =>
    cases r with
    | exc x ρ => exact fun q => q
    | ok t ρ1 =>
      intro q v H1 m1 o1 s1
      obtain ⟨h1, ρ2, fr2, s2, q2⟩ := q v H1 m1 o1 s1
      rw [evals] at q2
      exact ⟨h1, q2 [] H1 .refl rfl s2⟩
theorem se_pop {o : Expr} {i : Nat} {f : Option Nat} {apos pos : Pos} (ho : SE (X.mo T) A sg cf X o (pathE i f)) (hb : noSuper o = true) (hline : (apos.endLine == pos.line) = true) : SE (X.mo T) A sg cf X (.Call (.Attribute o "pop" apos) [] [] pos) (.mut .pop i f []) := by
  refine .of rfl rfl ((pe_bm0 PySem.F.plainAttrs_list PySem.F.slot_list_pop PySem.F.type_list_pop (mt_pop (X := X)) ho.po (base_ok hb) hline).imp fun σ H Q h => ?_)
  obtain ⟨ρ, fr, s, q⟩ := mut_read (p := .pop) h
  refine ⟨ρ, fr, s, ?_⟩
  revert q
  cases opd (pathE i f) (eval sg cf (pathE i f)) ρ with
  | none => exact fun q => q
  | some r =>
    cases r with
    | exc x ρ => exact fun q => q
    | ok t ρ1 =>
      intro q v H1 m1 o1 s1
      obtain ⟨h1, ρ2, fr2, s2, q2⟩ := q v H1 m1 o1 s1
      rw [evals] at q2
      exact ⟨h1, q2 [] H1 .refl rfl s2⟩
end
end Iv
set_option linter.all false
set_option maxRecDepth 100000
set_option maxHeartbeats 1000000
/-! Iv10: calls of defs, of methods; instances made. -/
namespace Iv
open PySem PySem.Spec PyProof.Rows L2
/-- a def's promise, where no guard stands -/
structure FnG (P : Program) (w : World) (K : PySem.W.Frag) (mg : Str → Option Value) (base : Heap) (k : Nat) (f : Addr) (fd : FuncData) (ps : List Str) (sp : Sp) : Prop where
  len : ∀ vs H Q E, sp vs H Q E → vs.length = ps.length
  run : ∀ (A : Around) (outer : List Env) (s : Shared) (H : Hp) (args : Args) (us : List Value) (vs : List V) (Q : VK) (E : XK), Room k A → A.guards = some [] → Env0 P w K mg base A outer s H → BindsTo s fd args (ps.zip us) → Vals vs us → sp vs H Q E →
    codeAny (model P w) A (.call (.ref f) args) (CR (L2.CX P w) outer P w H s Q E) s
theorem FnG.mono {P : Program} {w : World} {K : PySem.W.Frag} {mg : Str → Option Value} {base : Heap} {j k : Nat} {f : Addr} {fd : FuncData} {ps : List Str} {sp : Sp} (F : FnG P w K mg base j f fd ps sp) (h : j ≤ k) :
    FnG P w K mg base k f fd ps sp := ⟨F.len, fun A outer s H args us vs Q E hr => F.run A outer s H args us vs Q E (hr.mono h)⟩
def zipO : List (Option M) → List V → List (M × V)
  | some m :: ms, v :: vs => (m, v) :: zipO ms vs
  | none :: ms, _ :: vs => zipO ms vs
  | _, _ => []
/-- behind a call: vs the arguments, fr all that stands apart -/
def AfterC (B : Mo) (R : XV → Value → Option Addr → Hp → Prop) (vs : List V) (fr : List (M × V)) (H : Hp) (Q : VK) (E : XK) : Option CRes → Prop
  | none => False
  | some (.ret m ps) => ∀ v H', Mono H H' → Live B H' ((m, v) :: (zipO ps vs ++ fr)) → Q v H'
  | some (.exc x ps) => ∀ cls d H', R x cls d H' → Mono H H' → Live B H' (zipO ps vs ++ fr) → E cls d H'
/-- what a def promises: what the small language's def tells -/
def spI (B : Mo) (R : XV → Value → Option Addr → Hp → Prop) (cf : CallFn) (key : FK) : Sp := fun vs H Q E => ∃ ms fr, ms.length = vs.length ∧ Live B H (zipM ms vs ++ fr) ∧ AfterC B R vs fr H Q E (cf key ms)
/-! ### lending and giving back -/
section
variable {B : Mo} {A : Ask} {sg : Sig} {cf : CallFn} {σ : L2.St} {fr : List (M × V)} {H H0 H1 : Hp} {ρ ρ1 : Rho}
theorem frTs_perm : ∀ {ts : List Tmp} {vs : List V} {fr : List (M × V)} {p : M × V}, (frTs ts vs (p :: fr)).Perm (p :: frTs ts vs fr)
  | [], _, _, _ => .refl _
  | _ :: _, [], _, _ => .refl _
  | t :: ts, v :: vs, fr, p => by
    cases t with
    | val m =>
      show (frTs ts vs ((m, v) :: p :: fr)).Perm (p :: frTs ts vs ((m, v) :: fr))
      exact (frTs_perm.trans (frTs_perm.cons _)).trans ((List.Perm.swap ..).trans (frTs_perm.symm.cons _))
    | ref i f => exact frTs_perm (ts := ts) (vs := vs)
theorem Sta.permF {fr fr' : List (M × V)} (h : Sta B ρ σ H fr) (p : fr.Perm fr') : Sta B ρ σ H fr' := h.head fun l q => q.perm (p.append_right l)
theorem lend_ok : ∀ {ts : List Tmp} {vs : List V} {fr : List (M × V)} {ρ ρ1 : Rho} {ms : List M}, Sta B ρ σ H (frTs ts vs fr) → TOks B σ H ts vs → lend ρ ts = some (ms, ρ1) → ms.length = vs.length ∧ Sta B ρ1 σ H (zipM ms vs ++ fr)
  | [], _, fr, ρ, ρ1, ms, s, .nil, e => by
    simp only [lend, Option.some.injEq, Prod.mk.injEq] at e
    obtain ⟨rfl, rfl⟩ := e
    exact ⟨rfl, s⟩
  | t :: ts, v :: vs, fr, ρ, ρ1, ms, s, .cons o os, e => by
    cases t with
    | val m =>
      simp only [lend] at e
      cases h : lend ρ ts with
      | none => rw [h] at e; cases e
      | some q =>
        rw [h] at e
        simp only [Option.map_some, Option.some.injEq, Prod.mk.injEq] at e
        obtain ⟨rfl, rfl⟩ := e
        obtain ⟨hl, k⟩ := lend_ok (ms := q.1) (ρ1 := q.2) (fr := (m, v) :: fr) (show Sta B ρ σ H (frTs ts vs ((m, v) :: fr)) from s) os h
        exact ⟨by simp [hl], k.permF List.perm_middle⟩
    | ref i f =>
      cases f with
      | some f => simp [lend] at e
      | none =>
        simp only [lend] at e
        cases hg : getS ρ i with
        | none => rw [hg] at e; cases e
        | some m =>
          rw [hg] at e
          simp only [Option.bind_some] at e
          cases h : lend (ρ.set i none) ts with
          | none => rw [h] at e; cases e
          | some q =>
            rw [h] at e
            simp only [Option.map_some, Option.some.injEq, Prod.mk.injEq] at e
            obtain ⟨rfl, rfl⟩ := e
            have s' : Sta B ρ σ H (frTs ts vs fr) := s
            obtain ⟨v', hv, s1⟩ := s'.take hg
            have ho : σ[i]? = some (some v) := o
            rw [hv] at ho; cases ho
            obtain ⟨hl, k⟩ := lend_ok (ms := q.1) (ρ1 := q.2) (s1.permF frTs_perm.symm) os h
            exact ⟨by simp [hl], k.permF List.perm_middle⟩
theorem drops_any {l fr : List (M × V)} (h : Sta B ρ σ H (l ++ fr)) : Sta B ρ σ H fr := h.head fun r q => by
  rw [List.append_assoc] at q
  exact q.drops
theorem give_ok : ∀ {ts : List Tmp} {vs : List V} {ps : List (Option M)} {fr : List (M × V)} {ρ : Rho}, TOks B σ H0 ts vs → Sta B ρ σ H (zipO ps vs ++ fr) → Sta B (giveBack ρ ts ps) σ H fr
  | [], _, ps, fr, ρ, .nil, s => by
    cases ps <;> exact drops_any s
  | t :: ts, v :: vs, [], fr, ρ, .cons o os, s => by
    cases t with
    | val m => exact drops_any s
    | ref i f => cases f <;> exact drops_any s
  | t :: ts, v :: vs, p :: ps, fr, ρ, .cons o os, s => by
    cases t with
    | val m =>
      show Sta B (giveBack ρ ts ps) σ H fr
      cases p with
      | none => exact give_ok os s
      | some m' => exact give_ok os (Sta.drop s)
    | ref i f =>
      cases f with
      | some f => exact drops_any s
      | none =>
        show Sta B (giveBack (ρ.set i p) ts ps) σ H fr
        have ho : σ[i]? = some (some v) := o
        cases p with
        | none => exact give_ok os (s.clear i)
        | some m' =>
          refine give_ok os ?_
          have h1 : Sta B ρ σ H ((m', v) :: (zipO ps vs ++ fr)) := s
          exact (h1.clear i).refill ho
/-- a call's end is the expression's end -/
theorem call_end {ts : List Tmp} {vs : List V} {key : FK} {Q : VK} (s : Sta B ρ σ H (frTs ts vs fr)) (o : TOks B σ H ts vs) (m0 : Mono H0 H) (q : After B A σ fr H0 Q (callT cf key ts ρ)) : spI B A.R cf key vs H Q (WE A.W σ) := by
  unfold callT at q
  cases hl : lend ρ ts with
  | none => rw [hl] at q; exact q.elim
  | some p =>
    obtain ⟨ms, ρ1⟩ := p
    rw [hl] at q
    obtain ⟨h1, s1⟩ := lend_ok s o hl
    obtain ⟨l, env, lv⟩ := s1
    refine ⟨ms, l ++ fr, h1, lv.perm ?_, ?_⟩
    · rw [← List.append_assoc, ← List.append_assoc]
      exact List.perm_append_comm.append_right _
    simp only at q
    cases hc : cf key ms with
    | none => rw [hc] at q; exact q.elim
    | some r =>
      rw [hc] at q
      have back : ∀ {H' : Hp} {ps : List (Option M)} {x : List (M × V)}, Live B H' (x ++ (zipO ps vs ++ (l ++ fr))) → Sta B (giveBack ρ1 ts ps) σ H' (x ++ fr) := fun {H' ps x} lv' => by
        refine give_ok (ps := ps) (vs := vs) o ⟨l, env, lv'.perm ?_⟩
        rw [← List.append_assoc, ← List.append_assoc, ← List.append_assoc, ← List.append_assoc]
        refine List.Perm.append_right _ ?_
        refine (List.perm_append_comm).trans ?_
        rw [List.append_assoc]
        exact (List.perm_append_comm (l₁ := x) (l₂ := zipO ps vs)).append_left l
      cases r with
      | ret m ps => exact fun v H' m' lv' => q v H' (m0.trans m') (back (x := [(m, v)]) lv')
      | exc x ps => exact fun cls d H' r m' lv' => q cls d H' r (m0.trans m') (back (x := []) lv')
end
/-! ### the rules -/
section
variable {X : Cx} {T : Flds} {A : Ask} {sg : Sig} {cf : CallFn} {k : Nat} {f C : Addr} {fd : FuncData} {ps : List Str} {sp : Sp} {E : L2.St → XK} {x m : Str} {p pos apos : Pos} {e o : Expr} {es : List Expr} {ta : TE} {t : TA}
theorem run_fnG {pins : List (Addr × Obj)} {σ : L2.St} {H : Hp} {s : Shared} {Q : VK} {us : List Value} {vs : List V} (F : FnG X.prog X.w X.K X.mg X.base k f fd ps sp) (hr : Room k X.A) (hgd : X.A.guards = some []) (hb : Binds X.K fd ps []) (hx : PassesAt (L2.CX X.prog X.w) X σ (E σ))
    (I : Inv X pins σ H s) (r : Vals vs us) (h : sp vs H Q (E σ)) : wpAny (model X.prog X.w) X.A (call (.ref f) us) (EP X pins σ Q) X.xe s := by
  have hl : us.length = ps.length := by rw [← r.length]; exact F.len _ _ _ _ h
  have b := hb s us I.kIn (by rw [List.append_nil]; exact hl)
  rw [List.append_nil] at b
  refine wpAny_call (codeAny_mono (F.run X.A X.stack s H ⟨us, []⟩ us vs Q (E σ) hr hgd I.env0 b r h) fun r s' hq => ?_)
  cases r with
  | error e => exact hx pins H s e s' I hq
  | ok fl =>
    cases fl with
    | ret u => exact I.after hq
    | next => exact False.elim hq
    | brk => exact False.elim hq
    | cont => exact False.elim hq
theorem pe_callG (F : FnG X.prog X.w X.K X.mg X.base k f fd ps sp) (hr : Room k X.A) (hgd : X.A.guards = some []) (hg : Gl X x) (hm : X.mg x = some (.ref f)) (hk : PySem.W.keepIn X.K (.ref f) = true) (hb : Binds X.K fd ps []) (hx : ∀ σ, PassesAt (L2.CX X.prog X.w) X σ (E σ))
    (ha : PA X (e :: es) t) (hdb : (x == ("__debug__" : Str)) = false) (hs : (e :: es).all notStar = true) : PE X (.Call (.Name x p) (e :: es) [] pos) (tCallS sp E t) := by
  simp only [List.all_cons, Bool.and_eq_true] at hs
  refine ⟨fun pins s σ H Q I h => ?_⟩
  refine wpAny_Call_Name_kw (ld_glob I hg hm ?_ hdb)
  refine PySem.W.callWith_K (h₀ := X.base) I.ok.mod.kin hk (thn (ha.run pos pins s σ H _ I h) fun us s1 ⟨vs, H1, I1, r, q⟩ => ⟨I1.kIn, ?_⟩) (star_cons hs.1) (back_any (star_all hs.2))
  exact run_fnG F hr hgd hb (hx σ) I1 r q
theorem pe_callG0 (F : FnG X.prog X.w X.K X.mg X.base k f fd ps sp) (hr : Room k X.A) (hgd : X.A.guards = some []) (hg : Gl X x) (hm : X.mg x = some (.ref f)) (hk : PySem.W.keepIn X.K (.ref f) = true) (hb : Binds X.K fd ps []) (hx : ∀ σ, PassesAt (L2.CX X.prog X.w) X σ (E σ))
    (hdb : (x == ("__debug__" : Str)) = false) : PE X (.Call (.Name x p) [] [] pos) (tCallS sp E tNil) := by
  refine ⟨fun pins s σ H Q I h => ?_⟩
  refine wpAny_Call_Name_kw (ld_glob I hg hm ?_ hdb)
  exact PySem.W.callWith_K0 I.kIn hk (run_fnG (us := []) F hr hgd hb (hx σ) I .nil h)
/-- how a def of the module, a method is known -/
structure Has (B : Mo) (R : XV → Value → Option Addr → Hp → Prop) (mg : Str → Option Value) (base : Heap) (k : Nat) (cf : CallFn) (key : FK) (f : Addr) (fd : FuncData) (ps : List Str) : Prop where
  fn : FnG B.P B.w B.K mg base k f fd ps (spI B R cf key)
  bind : Binds B.K fd ps []
def KeyAt (B : Mo) (mg : Str → Option Value) (f : Addr) : FK → Prop
  | .fn x => mg (Str.ofString x) = some (.ref f) ∧ PySem.W.keepIn B.K (.ref f) = true
  | .mt c m => Meth B.K (He.ga B.K (Str.ofString c)) (Str.ofString m) f
  | .lm => False
def Known (B : Mo) (R : XV → Value → Option Addr → Hp → Prop) (mg : Str → Option Value) (base : Heap) (k : Nat) (cf : CallFn) (key : FK) : Prop := ∃ f fd ps, Has B R mg base k cf key f fd ps ∧ KeyAt B mg f key
/-- how a class is known that instances are made of -/
structure MkOk (B : Mo) (R : XV → Value → Option Addr → Hp → Prop) (mg : Str → Option Value) (base : Heap) (k : Nat) (cf : CallFn) (c : String) (f : Addr) (fd : FuncData) (ps : List Str) : Prop where
  has : Has B R mg base k cf (.mt c "__init__") f fd ps
  mg : mg (Str.ofString c) = some (.ref (He.ga B.K (Str.ofString c)))
  made : Mk B.K (He.ga B.K (Str.ofString c)) f
  cls : Cls B.K (He.ga B.K (Str.ofString c))
  no : ∀ x ∈ B.T.fl, NoAttr B.K (He.ga B.K (Str.ofString c)) x
/-- what a body may lean on -/
structure Ctx (X : Cx) (T : Flds) (A : Ask) (sg : Sig) (cf : CallFn) (k : Nat) : Prop where
  room : Room (k + 1) X.A
  gd : X.A.guards = some []
  tk : Takes X A.W
  calm : X.calm = true
  nd : X.N.Nodup
  has : ∀ key ∈ sg.keys, Known (X.mo T) A.R X.mg X.base k cf key
  makes : ∀ cl, FK.mt cl "__init__" ∈ sg.keys → ∃ f fd ps, MkOk (X.mo T) A.R X.mg X.base k cf cl f fd ps
theorem cal_read {B : Mo} {cs : List Ex} {rs : List Nat} {j : Nat} {key : FK} {σ : L2.St} {H : Hp} {Q : VK}
    (h : ∃ ρ fr, Sta B ρ σ H fr ∧ After B A σ fr H Q (O.bind (args sg cf rs j cs ρ) fun ts ρ => callT cf key ts ρ)) : tCallS (spI B A.R cf key) (WE A.W) (tAs B A sg cf rs j cs) σ H Q := by
  obtain ⟨ρ, fr, s, q⟩ := h
  refine ⟨ρ, fr, s, AfterTs.bind (P := After B A σ fr H Q) q nA xA fun ts ρ1 vs H1 e1 q1 m1 o1 s1 => ?_⟩
  exact call_end s1 o1 m1 q1
theorem SEs.nil_iff {B : Mo} {cs : List Ex} (h : SEs B A sg cf X es cs) : es = [] ↔ cs = [] := by
  cases h <;> simp
theorem se_cal {cs : List Ex} {name : String} (c : Ctx X T A sg cf k) (hk : FK.fn name ∈ sg.keys) (hg : Gl X (Str.ofString name)) (hdb : (Str.ofString name == ("__debug__" : Str)) = false) (h : SEs (X.mo T) A sg cf X es cs) (hs : es.all notStar = true) :
    SE (X.mo T) A sg cf X (.Call (.Name (Str.ofString name) p) es [] pos) (.cal name cs) := by
  obtain ⟨f, fd, ps, F, hm, hkp⟩ := c.has _ hk
  refine .of rfl rfl ?_
  cases es with
  | nil =>
    obtain rfl := h.nil_iff.mp rfl
    refine (pe_callG0 (E := WE A.W) F.fn (c.room.mono (Nat.le_succ k)) c.gd hg hm hkp F.bind (passAt c.tk) hdb).imp fun σ H Q ⟨ρ, fr, s, q⟩ => ?_
    rw [eval, args] at q
    exact call_end (ts := []) (vs := []) s .nil .refl q
  | cons e es =>
    refine (pe_callG (E := WE A.W) F.fn (c.room.mono (Nat.le_succ k)) c.gd hg hm hkp F.bind (passAt c.tk) (pa_as (rs := sg.inpl (.fn name)) (j := 0) h hs) hdb hs).imp fun σ H Q ⟨ρ, fr, s, q⟩ => ?_
    rw [eval] at q
    exact cal_read ⟨ρ, fr, s, q⟩
/-! ### methods -/
def tMethG (X : Cx) (k : Nat) (m : Str) (E : L2.St → XK) (ta : TE) (t : List Nat → TA) : TE := fun σ H Q => ta σ H fun x H1 => ∃ C f fd ps sp a dx fs rs, x = .ref a ∧ H1 a = some (.ins C dx fs) ∧ fs.lookup m = none ∧ Cls X.K C ∧ Meth X.K C m f ∧ FnG X.prog X.w X.K X.mg X.base k f fd ps sp ∧ Binds X.K fd ps [] ∧
  t rs σ H1 fun vs H2 => sp (x :: vs) H2 Q (E σ)
theorem meth_eq {o : Expr} {m : Str} {es : List Expr} {apos pos : Pos} {env : Env} (hb : noSuper o = true) (hs : es.all notStar = true) (hn : es.length < 30) (hl : (apos.endLine == pos.line) = true) : ∃ pl : Sem Bool, PySem.eval (.Call (.Attribute o m apos) es [] pos) env = (do
      let ov ← PySem.eval o env
      standAt apos.atName
      let (f, first) ← holding [ov] (getMethod ov m pl)
      callWith pos f first (backTo pos (starEach es env)) (backToKw pos (keywordEach [] env))) := by
  have hform : methodCallForm (es.length + ([] : List Keyword).length) (backTo pos (starEach es env)) (backToKw pos (keywordEach [] env)) = true := few_ok hs hn
  have hpos : methodCallPos true o env apos pos = pure pos := by unfold methodCallPos; simp [hl]
  refine ⟨?_, ?_⟩
  rotate_left
  · rw [arm_eval_Call, base_ok hb]
    unfold methodCall
    rw [hform, hpos]
    rfl
theorem pe_methG {t : List Nat → TA} (he : PE X o ta) (hr : Room k X.A) (hgd : X.A.guards = some []) (hx : ∀ σ, PassesAt (L2.CX X.prog X.w) X σ (E σ)) (ha : ∀ rs, PA X (e :: es) (t rs)) (hb : noSuper o = true) (hs : (e :: es).all notStar = true) (hn : (e :: es).length < 30) (hl : (apos.endLine == pos.line) = true) :
    PE X (.Call (.Attribute o m apos) (e :: es) [] pos) (tMethG X k m E ta t) := by
  obtain ⟨pl, ht⟩ := meth_eq (m := m) (env := X.env) hb hs hn hl
  simp only [List.all_cons, Bool.and_eq_true] at hs
  refine ⟨fun pins s σ H Q I h => ?_⟩
  refine PySem.W.methodCall_KW (pl := pl) (thn (he.run pins s σ H _ I h) fun u s1 ⟨x, H1, I1, rx, C, f, fd, ps, sp, a, dx, fs, rs, ex, ea, l, c, hm, F, hbd, q⟩ => ?_) ht
  subst ex
  obtain rfl : u = Value.ref a := rx
  refine getmeth_ok I1 ea c hm l ?_
  refine PySem.W.callWith_K (first := [.ref a]) (h₀ := X.base) I.ok.mod.kin hm.kp (thn ((ha rs).run pos pins s1 σ H1 _ I1 q) fun us s2 ⟨vs, H2, I2, r, q2⟩ => ⟨I2.kIn, ?_⟩) (star_cons hs.1) (back_any (star_all hs.2))
  exact run_fnG (us := .ref a :: us) (vs := .ref a :: vs) F hr hgd hbd (hx σ) I2 (.cons rfl r) q2
theorem pe_methG0 (he : PE X o ta) (hr : Room k X.A) (hgd : X.A.guards = some []) (hx : ∀ σ, PassesAt (L2.CX X.prog X.w) X σ (E σ)) (hb : noSuper o = true) (hl : (apos.endLine == pos.line) = true) :
    PE X (.Call (.Attribute o m apos) [] [] pos) (tMethG X k m E ta fun _ => tNil) := by
  obtain ⟨pl, ht⟩ := meth_eq (m := m) (es := []) (env := X.env) hb rfl (by decide) hl
  refine ⟨fun pins s σ H Q I h => ?_⟩
  refine PySem.W.methodCall_KW (pl := pl) (thn (he.run pins s σ H _ I h) fun u s1 ⟨x, H1, I1, rx, C, f, fd, ps, sp, a, dx, fs, rs, ex, ea, l, c, hm, F, hbd, q⟩ => ?_) ht
  subst ex
  obtain rfl : u = Value.ref a := rx
  refine getmeth_ok I1 ea c hm l ?_
  exact PySem.W.callWith_K0 (first := [.ref a]) I1.kIn hm.kp (run_fnG (us := [.ref a]) (vs := [.ref a]) F hr hgd hbd (hx σ) I1 (.cons rfl .nil) q)
theorem RF.names {B : Mo} {Z : Addr → Prop} {H : Hp} {y : Str} (hy : y ∉ B.T.fl) : ∀ {fs : List (Nat × M)} {fvs : List (Str × V)} {fp : List Addr}, RF B Z H fs fvs fp → fvs.lookup y = none
  | _, _, _, .nil => rfl
  | _, _, _, @RF.cons _ _ _ g z n v fs fvs fp fq hz r rs => by
    rw [List.lookup_cons]
    have hne : (y == z) = false := by
      cases h : y == z with
      | false => rfl
      | true =>
        have : y = z := by simpa using h
        subst this
        exact absurd (List.mem_of_getElem? hz) hy
    rw [hne]
    exact RF.names hy rs
theorem cls_at {B : Mo} {σ : L2.St} {H : Hp} {ρ : Rho} {t : Tmp} {v : V} {fr : List (M × V)} {c : String} (s : Sta B ρ σ H (frT t v fr)) (o : TOk B σ H t v) (h : clsOf ρ t = some c) :
    ∃ a dx fvs, v = .ref a ∧ H a = some (.ins (He.ga B.K (Str.ofString c)) dx fvs) ∧ Cls B.K (He.ga B.K (Str.ofString c)) ∧ ∀ y, y ∉ B.T.fl → fvs.lookup y = none := by
  have key : ∀ (fs : List (Nat × M)) (Z : Addr → Prop) (fq : List Addr), RM B Z H (.ins c fs) v fq → ∃ a dx fvs, v = .ref a ∧ H a = some (.ins (He.ga B.K (Str.ofString c)) dx fvs) ∧ Cls B.K (He.ga B.K (Str.ofString c)) ∧ ∀ y, y ∉ B.T.fl → fvs.lookup y = none := by
    intro fs Z fq r
    cases r with
    | ins h hc rf =>
      obtain ⟨rfl, h2, _⟩ := hc
      exact ⟨_, _, _, rfl, h, h2, fun y hy => rf.names hy⟩
  obtain ⟨l, env, Z, fp, lv⟩ := s
  cases t with
  | val m =>
    cases m with
    | ins c' fs =>
      simp only [clsOf, Option.some.injEq] at h
      subst h
      obtain ⟨fq, r⟩ := lv.rep.mem (m := .ins c' fs) (v := v) (List.mem_append_right _ List.mem_cons_self)
      exact key fs Z fq r
    | _ => simp [clsOf] at h
  | ref i f =>
    cases f with
    | some f => simp [clsOf] at h
    | none =>
      simp only [clsOf] at h
      cases hg : getS ρ i with
      | none => rw [hg] at h; cases h
      | some m =>
        rw [hg] at h
        cases m with
        | ins c' fs =>
          simp only [Option.some.injEq] at h
          subst h
          obtain ⟨v', h1, h2⟩ := env_mem env hg
          have : σ[i]? = some (some v) := o
          rw [h1] at this; cases this
          obtain ⟨fq, r⟩ := lv.rep.mem (List.mem_append_left _ h2)
          exact key fs Z fq r
        | _ => cases h
theorem mth_read {cr : Ex} {cs : List Ex} {name : String} (c : Ctx X T A sg cf k) (hf : Str.ofString name ∉ T.fl) {σ : L2.St} {H : Hp} {Q : VK} (h : tI (X.mo T) A sg cf (.mth cr name cs) σ H Q) :
    tMethG X k (Str.ofString name) (WE A.W) (tO (X.mo T) A sg cf cr) (fun rs => tAs (X.mo T) A sg cf rs 1 cs) σ H Q := by
  obtain ⟨ρ, fr, s, q⟩ := h
  rw [eval] at q
  refine ⟨ρ, fr, s, AfterT.bind (P := After (X.mo T) A σ fr H Q) q nA xA fun t ρ1 v H1 _ q1 m1 o1 s1 => ?_⟩
  cases hc : clsOf ρ1 t with
  | none => rw [hc] at q1; exact q1.elim
  | some cl =>
    rw [hc] at q1
    simp only at q1
    split at q1
    · rename_i hk
      have hk' : FK.mt cl name ∈ sg.keys := by simpa using hk
      obtain ⟨f, fd, ps, F, hm⟩ := c.has _ hk'
      obtain ⟨a, dx, fvs, rfl, ea, hC, hn⟩ := cls_at s1 o1 hc
      refine ⟨_, f, fd, ps, _, a, dx, fvs, sg.inpl (.mt cl name), rfl, ea, hn _ hf, hC, hm, F.fn, F.bind, ρ1, _, s1, ?_⟩
      refine AfterTs.bind (P := After (X.mo T) A σ fr H Q) q1 nA (fun e ρ h => (ExcA.dropT h).mono m1) fun ts ρ2 vs H2 _ q2 m2 o2 s2 => ?_
      exact call_end (ts := t :: ts) (vs := .ref a :: vs) s2 (.cons (o1.mono m2) o2) (m1.trans m2) q2
    · exact q1.elim
theorem se_mth {cr : Ex} {cs : List Ex} {name : String} (c : Ctx X T A sg cf k) (hf : Str.ofString name ∉ T.fl) (ho : SE (X.mo T) A sg cf X o cr) (h : SEs (X.mo T) A sg cf X es cs) (hs : es.all notStar = true) (hb : noSuper o = true) (hn : es.length < 30) (hl : (apos.endLine == pos.line) = true) :
    SE (X.mo T) A sg cf X (.Call (.Attribute o (Str.ofString name) apos) es [] pos) (.mth cr name cs) := by
  refine .of rfl rfl ?_
  cases es with
  | nil =>
    obtain rfl := h.nil_iff.mp rfl
    refine (pe_methG0 (E := WE A.W) ho.po (c.room.mono (Nat.le_succ k)) c.gd (passAt c.tk) hb hl).imp fun σ H Q q => ?_
    obtain ⟨ρ, fr, s, q⟩ := mth_read c hf q
    refine ⟨ρ, fr, s, ?_⟩
    revert q
    cases opd cr (eval sg cf cr) ρ with
    | none => exact fun q => q
    | some r =>
      cases r with
      | exc x ρ => exact fun q => q
      | ok t ρ1 =>
        refine fun q v H1 m1 o1 s1 => ?_
        obtain ⟨C, f, fd, ps, sp, a, dx, fs, rs, e1, e2, e3, e4, e5, e6, e7, ρ2, fr2, s2, q2⟩ := q v H1 m1 o1 s1
        refine ⟨C, f, fd, ps, sp, a, dx, fs, rs, e1, e2, e3, e4, e5, e6, e7, ?_⟩
        rw [args] at q2
        exact q2 [] H1 .refl .nil s2
  | cons e es => exact (pe_methG (E := WE A.W) ho.po (c.room.mono (Nat.le_succ k)) c.gd (passAt c.tk) (fun rs => pa_as (rs := rs) (j := 1) h hs) hb hs hn hl).imp fun σ H Q q => mth_read c hf q
/-! ### an instance is made -/
theorem run_makeG {pins : List (Addr × Obj)} {σ : L2.St} {H : Hp} {s : Shared} {Q : VK} {us : List Value} {vs : List V} (M : Mk X.K C f) (F : FnG X.prog X.w X.K X.mg X.base k f fd ps sp) (hr : Room (k + 1) X.A) (hgd : X.A.guards = some []) (hb : Binds X.K fd ps [])
    (hx : PassesAt (L2.CX X.prog X.w) X σ (E σ)) (I : Inv X pins σ H s) (r : Vals vs us)
    (h : ∀ x dx, H x = none → H dx = none → dx ≠ x → sp (.ref x :: vs) (upd (upd H dx (.own x)) x (.ins C dx [])) (fun v H2 => v = .non ∧ Q (.ref x) H2) (E σ)) :
    wpAny (model X.prog X.w) X.A (call (.ref C) us) (EP X pins σ Q) X.xe s := by
  have hq := h (s.heap.objs.size + 1) s.heap.objs.size (I.hok.fresh (Nat.le_succ _)) (I.hok.fresh (Nat.le_refl _)) (Nat.ne_of_lt (Nat.lt_succ_self _))
  have I2 := Inv.made (C := C) I
  have r2 : Vals (V.ref (s.heap.objs.size + 1) :: vs) (Value.ref (s.heap.objs.size + 1) :: us) := .cons rfl r
  have hl : (Value.ref (s.heap.objs.size + 1) :: us).length = ps.length := by
    have e := r2.length
    rw [F.len _ _ _ _ hq] at e
    exact e.symm
  refine wpAny_call (make_map (f := f) I.kIn M.makes M.init (beq_iff_eq.mp M.fn) (codeAny_mono (F.run _ X.stack _ _ ⟨Value.ref (s.heap.objs.size + 1) :: us, []⟩ (Value.ref (s.heap.objs.size + 1) :: us) _ _ (E σ) (hr.make C us []) ?_
    (I2.env0.make C us []) (by have := hb _ (Value.ref (s.heap.objs.size + 1) :: us) I2.kIn (by rw [List.append_nil]; exact hl); rw [List.append_nil] at this; exact this) r2 hq) fun r s' hq' => ?_))
  · have e : (Code.builtin "type.__call__" { pos := Value.ref C :: us }).guards = [] := by first | rfl | simp [Code.guards, Code.isGuard]
    simp [Around.under, e, hgd, pushGuards]
  cases r with
  | error e => exact hx pins _ _ e s' I2 hq'
  | ok fl =>
    cases fl with
    | ret u =>
      obtain ⟨v, H', I3, rv, ev, q3⟩ := I2.after hq'
      subst ev
      exact ⟨rv, ⟨V.ref (s.heap.objs.size + 1), H', I3, rfl, q3⟩⟩
    | next => exact False.elim hq'
    | brk => exact False.elim hq'
    | cont => exact False.elim hq'
def tMakeG (C : Addr) (sp : Sp) (E : L2.St → XK) (t : TA) : TE := fun σ H Q => t σ H fun vs H1 => ∀ x dx, H1 x = none → H1 dx = none → dx ≠ x →
  sp (.ref x :: vs) (upd (upd H1 dx (.own x)) x (.ins C dx [])) (fun v H2 => v = .non ∧ Q (.ref x) H2) (E σ)
theorem pe_makeG (M : Mk X.K C f) (F : FnG X.prog X.w X.K X.mg X.base k f fd ps sp) (hr : Room (k + 1) X.A) (hgd : X.A.guards = some []) (hg : Gl X x) (hm : X.mg x = some (.ref C)) (hb : Binds X.K fd ps []) (hx : ∀ σ, PassesAt (L2.CX X.prog X.w) X σ (E σ))
    (ha : PA X (e :: es) t) (hdb : (x == ("__debug__" : Str)) = false) (hs : (e :: es).all notStar = true) : PE X (.Call (.Name x p) (e :: es) [] pos) (tMakeG C sp E t) := by
  simp only [List.all_cons, Bool.and_eq_true] at hs
  refine ⟨fun pins s σ H Q I h => ?_⟩
  refine wpAny_Call_Name_kw (ld_glob I hg hm ?_ hdb)
  refine PySem.W.callWith_K (h₀ := X.base) I.ok.mod.kin M.kp (thn (ha.run pos pins s σ H _ I h) fun us s1 ⟨vs, H1, I1, r, q⟩ => ⟨I1.kIn, ?_⟩) (star_cons hs.1) (back_any (star_all hs.2))
  exact run_makeG M F hr hgd hb (hx σ) I1 r q
theorem pe_makeG0 (M : Mk X.K C f) (F : FnG X.prog X.w X.K X.mg X.base k f fd ps sp) (hr : Room (k + 1) X.A) (hgd : X.A.guards = some []) (hg : Gl X x) (hm : X.mg x = some (.ref C)) (hb : Binds X.K fd ps []) (hx : ∀ σ, PassesAt (L2.CX X.prog X.w) X σ (E σ))
    (hdb : (x == ("__debug__" : Str)) = false) : PE X (.Call (.Name x p) [] [] pos) (tMakeG C sp E tNil) := by
  refine ⟨fun pins s σ H Q I h => ?_⟩
  refine wpAny_Call_Name_kw (ld_glob I hg hm ?_ hdb)
  exact PySem.W.callWith_K0 I.kIn M.kp (run_makeG (us := []) M F hr hgd hb (hx σ) I .nil h)
theorem make_end {B : Mo} {σ : L2.St} {H H0 : Hp} {ρ : Rho} {fr : List (M × V)} {ts : List Tmp} {vs : List V} {cl : String} {Q : VK} (hc : Cls B.K (He.ga B.K (Str.ofString cl))) (hno : ∀ x ∈ B.T.fl, NoAttr B.K (He.ga B.K (Str.ofString cl)) x)
    (s : Sta B ρ σ H (frTs ts vs fr)) (o : TOks B σ H ts vs) (m0 : Mono H0 H)
    (q : After B A σ fr H0 Q (match lend ρ ts with
      | none => none
      | some (ms, ρ1) => match cf (.mt cl "__init__") (.ins cl [] :: ms) with
        | some (.ret (.imm .none) (some m :: _)) => some (.ok m ρ1)
        | _ => none)) : ∀ x dx, H x = none → H dx = none → dx ≠ x →
      spI B A.R cf (.mt cl "__init__") (.ref x :: vs) (upd (upd H dx (.own x)) x (.ins (He.ga B.K (Str.ofString cl)) dx [])) (fun v H2 => v = .non ∧ Q (.ref x) H2) (WE A.W σ) := by
  intro x dx hx hdx hne
  cases hl : lend ρ ts with
  | none => rw [hl] at q; exact q.elim
  | some p =>
    obtain ⟨ms, ρ1⟩ := p
    rw [hl] at q
    obtain ⟨h1, l, env, Z, fp, lv⟩ := lend_ok s o hl
    simp only at q
    have ext : ∀ b u, H b = some u → (upd (upd H dx (.own x)) x (.ins (He.ga B.K (Str.ofString cl)) dx [])) b = some u := fun b u e => by
      rw [upd_ne (fun z => by subst z; rw [hx] at e; cases e), upd_ne (fun z => by subst z; rw [hdx] at e; cases e)]
      exact e
    have lv2 := lv.add (m := .ins cl []) (v := .ref x) (fq := [x]) ext (.ins upd_same ⟨rfl, hc, hno⟩ .nil) (by simp) (fun a ha => by simp at ha; subst ha; exact hx)
    refine ⟨.ins cl [] :: ms, l ++ fr, by simp [h1], Live.perm ⟨Z, _, lv2⟩ ?_, ?_⟩
    · refine List.Perm.cons _ ?_
      show (l ++ (zipM ms vs ++ fr)).Perm (zipM ms vs ++ (l ++ fr))
      rw [← List.append_assoc, ← List.append_assoc]
      exact List.perm_append_comm.append_right _
    split at q
    · rename_i m ps' hcf
      rw [hcf]
      refine fun v H2 m2 lv' => ?_
      have hv : v = .non := by
        obtain ⟨Z2, fp2, lv3⟩ := lv'
        obtain ⟨fq, r⟩ := lv3.rep.mem (m := .imm .none) (v := v) List.mem_cons_self
        cases r with
        | imm r => cases r; rfl
      refine ⟨hv, q _ _ (m0.trans (Mono.trans (.of_ext ext) m2)) ⟨l, env, ?_⟩⟩
      have l4 : Live B H2 (zipO ps' vs ++ ((m, .ref x) :: (l ++ fr))) := Live.perm lv'.drop List.perm_middle.symm
      exact l4.drops.perm List.perm_middle.symm
    · exact q.elim
theorem se_new {cs : List Ex} {cl : String} (c : Ctx X T A sg cf k) (hk : FK.mt cl "__init__" ∈ sg.keys) (hg : Gl X (Str.ofString cl)) (hdb : (Str.ofString cl == ("__debug__" : Str)) = false) (h : SEs (X.mo T) A sg cf X es cs) (hs : es.all notStar = true) :
    SE (X.mo T) A sg cf X (.Call (.Name (Str.ofString cl) p) es [] pos) (.new cl cs) := by
  obtain ⟨f, fd, ps, F⟩ := c.makes _ hk
  refine .of rfl rfl ?_
  cases es with
  | nil =>
    obtain rfl := h.nil_iff.mp rfl
    refine (pe_makeG0 (E := WE A.W) F.made F.has.fn c.room c.gd hg F.mg F.has.bind (passAt c.tk) hdb).imp fun σ H Q ⟨ρ, fr, s, q⟩ => ?_
    rw [eval, args] at q
    exact make_end (ts := []) (vs := []) F.cls F.no s .nil .refl q
  | cons e es =>
    refine (pe_makeG (E := WE A.W) F.made F.has.fn c.room c.gd hg F.mg F.has.bind (passAt c.tk) (pa_as (rs := []) (j := 0) h hs) hdb hs).imp fun σ H Q ⟨ρ, fr, s, q⟩ => ?_
    rw [eval] at q
    refine ⟨ρ, fr, s, AfterTs.bind (P := After (X.mo T) A σ fr H Q) q nA xA fun ts ρ1 vs H1 e1 q1 m1 o1 s1 => ?_⟩
    exact make_end F.cls F.no s1 o1 m1 q1
end
end Iv
set_option linter.all false
set_option maxRecDepth 100000
set_option maxHeartbeats 1000000
/-! Iv11: statements. -/
namespace Iv
open PySem PySem.Spec PyProof.Rows L2
def Same (pr : List Nat) (σ σ' : L2.St) : Prop := ∀ j ∈ pr, σ'[j]? = σ[j]?
theorem Same.refl {pr : List Nat} {σ : L2.St} : Same pr σ σ := fun _ _ => rfl
theorem Same.trans {pr : List Nat} {σ σ1 σ2 : L2.St} (h : Same pr σ σ1) (k : Same pr σ1 σ2) : Same pr σ σ2 := fun j hj => (k j hj).trans (h j hj)
theorem Same.set {pr : List Nat} {σ : L2.St} {i : Nat} {v : Option V} (h : pr.contains i = false) : Same pr σ (σ.set i v) := fun j hj => by
  have hne : i ≠ j := fun e => by subst e; simp [hj] at h
  exact List.getElem?_set_ne hne
section
variable (B : Mo) (A : Ask) (pr : List Nat)
def AfterS (σ0 : L2.St) (fr : List (M × V)) (H0 : Hp) (D : Ends) : Option Out → Prop
  | none => False
  | some (.nx ρ) => ∀ σ H, Same pr σ0 σ → Mono H0 H → Sta B ρ σ H fr → D.nx σ H
  | some (.br ρ) => ∀ σ H, Same pr σ0 σ → Mono H0 H → Sta B ρ σ H fr → D.bk σ H
  | some (.ct ρ) => ∀ σ H, Same pr σ0 σ → Mono H0 H → Sta B ρ σ H fr → D.ct σ H
  | some (.rt m ρ) => ∀ v σ H, Same pr σ0 σ → Mono H0 H → Sta B ρ σ H ((m, v) :: fr) → D.rt v H
  | some (.ex x ρ) => ∀ σ cls d H, Same pr σ0 σ → A.R x cls d H → Mono H0 H → Sta B ρ σ H fr → A.W cls d σ H
variable (sg : Sig) (cf : CallFn) (fu : Nat)
def tS (c : Sm) : TS := fun D σ H => ∃ ρ fr, Sta B ρ σ H fr ∧ AfterS B A pr σ fr H D (exec sg cf pr fu c ρ)
def tSs (cs : List Sm) : TS := fun D σ H => ∃ ρ fr, Sta B ρ σ H fr ∧ AfterS B A pr σ fr H D (execs sg cf pr fu cs ρ)
end
theorem _root_.L2.PS.imp {X : Cx} {e : Stmt} {t t' : TS} (h : PS X e t) (i : ∀ D σ H, t' D σ H → t D σ H) : PS X e t' := ⟨fun pins s σ H D I q => h.run pins s σ H D I (i D σ H q)⟩
theorem _root_.L2.PSs.imp {X : Cx} {e : List Stmt} {t t' : TS} (h : PSs X e t) (i : ∀ D σ H, t' D σ H → t D σ H) : PSs X e t' := ⟨fun pins s σ H D I q => h.run pins s σ H D I (i D σ H q)⟩
section
variable {B : Mo} {A : Ask} {pr : List Nat} {sg : Sig} {cf : CallFn} {fu : Nat} {X : Cx} {T : Flds} {σ σ1 : L2.St} {fr : List (M × V)} {H H0 H1 : Hp} {ρ : Rho} {D : Ends}
theorem AfterS.mono {o : Option Out} (h : AfterS B A pr σ fr H0 D o) (s : Same pr σ σ1) (m : Mono H0 H1) : AfterS B A pr σ1 fr H1 D o := by
  cases o with
  | none => exact h
  | some r =>
    cases r with
    | nx ρ => exact fun σ2 H s2 m2 => h σ2 H (s.trans s2) (m.trans m2)
    | br ρ => exact fun σ2 H s2 m2 => h σ2 H (s.trans s2) (m.trans m2)
    | ct ρ => exact fun σ2 H s2 m2 => h σ2 H (s.trans s2) (m.trans m2)
    | rt v ρ => exact fun v σ2 H s2 m2 => h v σ2 H (s.trans s2) (m.trans m2)
    | ex x ρ => exact fun σ2 c d H s2 r m2 => h σ2 c d H (s.trans s2) r (m.trans m2)
/-- an expression's value in hand, go on -/
theorem AfterS.ofE {x : O M} {f : M → Rho → Option Out} {Q : VK} (h : AfterS B A pr σ fr H0 D (Out.ofO x f)) (k : ∀ m ρ v H, x = some (.ok m ρ) → AfterS B A pr σ fr H0 D (f m ρ) → Mono H0 H → Sta B ρ σ H ((m, v) :: fr) → Q v H) : After B A σ fr H0 Q x := by
  cases x with
  | none => exact h.elim
  | some r =>
    cases r with
    | ok m ρ => exact fun v H m' s => k m ρ v H rfl h m' s
    | exc e ρ => exact fun c d H r m s => h σ c d H .refl r m s
theorem AfterS.ofB {x : O Bool} {f : Bool → Rho → Option Out} {Q : Bool → Hp → Prop} (h : AfterS B A pr σ fr H0 D (Out.ofO x f)) (k : ∀ b ρ H, AfterS B A pr σ fr H0 D (f b ρ) → Mono H0 H → Sta B ρ σ H fr → Q b H) : AfterB B A σ fr H0 Q x := by
  cases x with
  | none => exact h.elim
  | some r =>
    cases r with
    | ok m ρ => exact fun H m' s => k m ρ H h m' s
    | exc e ρ => exact fun c d H r m s => h σ c d H .refl r m s
theorem AfterS.ofD {x : O (List PyData)} {f : List PyData → Rho → Option Out} {Q : List V → Hp → Prop} {E : Ends} (h : AfterS B A pr σ fr H0 E (Out.ofO x f)) (k : ∀ ds ρ vs H, x = some (.ok ds ρ) → AfterS B A pr σ fr H0 E (f ds ρ) → Mono H0 H → vs.length = ds.length → Sta B ρ σ H (frDs ds vs fr) → Q vs H) : AfterD B A σ fr H0 Q x := by
  cases x with
  | none => exact h.elim
  | some r =>
    cases r with
    | ok m ρ => exact fun v H m' hl s => k m ρ v H rfl h m' hl s
    | exc e ρ => exact fun c d H r m s => h σ c d H .refl r m s
theorem Sta.put' {i : Nat} {m : M} {v : V} (h : Sta B ρ σ H ((m, v) :: fr)) : Sta B (putS ρ i m) (σ.set i (some v)) H fr := by
  by_cases hi : i < ρ.length
  · exact h.put hi
  · have e1 : putS ρ i m = ρ := List.set_eq_of_length_le (by omega)
    have e2 : σ.set i (some v) = σ := List.set_eq_of_length_le (by rw [← h.len]; omega)
    rw [e1, e2]
    exact h.drop
/-! ### one after another -/
theorem ss_nil : PSs X [] (tSs B A pr sg cf fu []) := pss_nil.imp fun D σ H ⟨ρ, fr, s, q⟩ => by
  rw [execs] at q
  exact q σ H .refl .refl s
theorem ss_cons {st : Stmt} {rest : List Stmt} {c : Sm} {cs : List Sm} (h1 : PS X st (tS B A pr sg cf fu c)) (h2 : PSs X rest (tSs B A pr sg cf fu cs)) : PSs X (st :: rest) (tSs B A pr sg cf fu (c :: cs)) := by
  refine (pss_cons h1 h2).imp fun D σ H ⟨ρ, fr, s, q⟩ => ⟨ρ, fr, s, ?_⟩
  rw [execs] at q
  cases he : exec sg cf pr fu c ρ with
  | none => rw [he] at q; exact q.elim
  | some r =>
    rw [he] at q
    cases r with
    | nx ρ1 => exact fun σ1 H1 s1 m1 t1 => ⟨ρ1, fr, t1, AfterS.mono q s1 m1⟩
    | _ => exact q
/-! ### the statements -/
def noComp : Expr → Bool
  | .ListComp _ _ _ _ => false
  | .SetComp _ _ _ _ => false
  | .DictComp _ _ _ _ _ => false
  | _ => true
theorem no_swap {e : Expr} {tg : Option Expr} {l : Nat} {env : Env} (h : noComp e = true) : swapsWith e tg l env = pure false := by
  unfold swapsWith
  cases e <;> first | rfl | simp [noComp] at h
theorem asg_read {i : Nat} {c : Ex} (h : tS B A pr sg cf fu (.asg i c) D σ H) : tAsg (tI B A sg cf c) (gName i) D σ H := by
  obtain ⟨ρ, fr, s, q⟩ := h
  rw [exec] at q
  split at q
  · exact q.elim
  · rename_i hp
    refine ⟨ρ, fr, s, AfterS.ofE q fun m ρ1 v H1 _ q1 m1 s1 => ?_⟩
    exact q1 _ _ (.set (by simpa using hp)) m1 s1.put'
theorem ss_asg {i : Nat} {x : Str} {e : Expr} {c : Ex} {p pos : Pos} (hN : X.N.Nodup) (hi : X.N[i]? = some x) (hx : Loc X.env.scope x) (hf : X.fn x = true ∨ X.env.scope.names.lookup x = some .local) (hc : noComp e = true) (he : SE B A sg cf X e c) : PS X (.Assign [.Name x p] e pos) (tS B A pr sg cf fu (.asg i c)) :=
  (ps_set hN hi hx he.pe (no_swap hc) hf).imp fun D σ H h => asg_read h
/-- x = y, the thing handed on -/
theorem ss_mov {i j : Nat} {x : Str} {e : Expr} {p pos : Pos} (hN : X.N.Nodup) (hi : X.N[i]? = some x) (hx : Loc X.env.scope x) (hf : X.fn x = true ∨ X.env.scope.names.lookup x = some .local) (hc : noComp e = true) (he : PE X e (tVar j)) : PS X (.Assign [.Name x p] e pos) (tS B A pr sg cf fu (.mov i j)) :=
  (ps_set hN hi hx he (no_swap hc) hf).imp fun D σ H ⟨ρ, fr, s, q⟩ => by
    rw [exec] at q
    split at q
    · exact q.elim
    · rename_i hp
      simp only [Bool.or_eq_true, not_or, Bool.not_eq_true] at hp
      cases hg : getS ρ j with
      | none => rw [hg] at q; exact q.elim
      | some m =>
        rw [hg] at q
        obtain ⟨v, hv, s1⟩ := s.take hg
        exact ⟨v, hv, q _ _ (.set hp.1) .refl s1.put'⟩
theorem ss_exp {e : Expr} {c : Ex} {pos : Pos} (hc : noComp e = true) (he : SE B A sg cf X e c) : PS X (.Expr e pos) (tS B A pr sg cf fu (.exp c)) :=
  (ps_expr he.pe (no_swap hc)).imp fun D σ H ⟨ρ, fr, s, q⟩ => by
    rw [exec] at q
    refine ⟨ρ, fr, s, AfterS.ofE q fun m ρ1 v H1 _ q1 m1 s1 => ?_⟩
    exact q1 _ _ .refl m1 s1.drop
theorem ss_pas {pos : Pos} : PS X (.Pass pos) (tS B A pr sg cf fu .pas) := ps_pass.imp fun D σ H ⟨ρ, fr, s, q⟩ => by
  rw [exec] at q
  exact q σ H .refl .refl s
theorem ss_brk {pos : Pos} : PS X (.Break pos) (tS B A pr sg cf fu .brk) := ps_break.imp fun D σ H ⟨ρ, fr, s, q⟩ => by
  rw [exec] at q
  exact q σ H .refl .refl s
theorem ss_cnt {pos : Pos} : PS X (.Continue pos) (tS B A pr sg cf fu .cnt) := ps_continue.imp fun D σ H ⟨ρ, fr, s, q⟩ => by
  rw [exec] at q
  exact q σ H .refl .refl s
theorem ss_bad {st : Stmt} {c : Sm} (h : ∀ ρ, exec sg cf pr fu c ρ = none) : PS X st (tS B A pr sg cf fu c) := ⟨fun pins s σ H D I ⟨ρ, fr, _, q⟩ => by rw [h] at q; exact q.elim⟩
theorem ss_if {c : Expr} {cc : Ex} {a b : List Stmt} {ca cb : List Sm} {pos : Pos} (hc : SE B A sg cf X c cc) (ha : PSs X a (tSs B A pr sg cf fu ca)) (hb : PSs X b (tSs B A pr sg cf fu cb)) : PS X (.If c a b pos) (tS B A pr sg cf fu (.ite cc ca cb)) := by
  refine (ps_if hc.pt ha hb).imp fun D σ H ⟨ρ, fr, s, q⟩ => ⟨ρ, fr, s, ?_⟩
  rw [exec] at q
  refine AfterS.ofB q fun b ρ1 H1 q1 m1 s1 => ?_
  cases b with
  | true => exact ⟨ρ1, fr, s1, AfterS.mono q1 .refl m1⟩
  | false => exact ⟨ρ1, fr, s1, AfterS.mono q1 .refl m1⟩
def isVar : Ex → Bool
  | .var _ => true
  | _ => false
theorem ss_ret {e : Expr} {c : Ex} {pos : Pos} (hv : isVar c = false) (he : SE B A sg cf X e c) : PS X (.Return (some e) pos) (tS B A pr sg cf fu (.ret c)) :=
  (ps_ret he.pe).imp fun D σ H ⟨ρ, fr, s, q⟩ => by
    have e1 : exec sg cf pr fu (.ret c) ρ = Out.ofO (eval sg cf c ρ) fun m ρ => some (.rt m ρ) := by
      rw [exec]; intro i e; subst e; simp [isVar] at hv
    rw [e1] at q
    exact ⟨ρ, fr, s, AfterS.ofE q fun m ρ1 v H1 _ q1 m1 s1 => q1 v _ _ .refl m1 s1⟩
theorem ss_retV {e : Expr} {i : Nat} {pos : Pos} (he : PE X e (tVar i)) : PS X (.Return (some e) pos) (tS B A pr sg cf fu (.ret (.var i))) :=
  (ps_ret he).imp fun D σ H ⟨ρ, fr, s, q⟩ => by
    rw [exec] at q
    split at q
    · rw [eval] at q
      exact sta_copy (A := A) s (AfterS.ofE (Q := D.rt) q fun m ρ1 v H1 _ q1 m1 s1 => q1 v _ _ .refl m1 s1)
    · cases hg : getS ρ i with
      | none => rw [hg] at q; exact q.elim
      | some m =>
        rw [hg] at q
        obtain ⟨v, hv, s1⟩ := s.take hg
        exact ⟨v, hv, q v σ H .refl .refl s1⟩
theorem ss_retN {pos : Pos} : PS X (.Return none pos) (tS B A pr sg cf fu (.ret (.cst .none))) := ps_retN.imp fun D σ H ⟨ρ, fr, s, q⟩ => by
  rw [exec] at q
  · rw [eval] at q
    exact q .non σ H .refl .refl (sta_imm s fun Z => .non)
  · intro i e; cases e
end
end Iv
set_option linter.all false
set_option maxRecDepth 100000
set_option maxHeartbeats 2000000
/-! Iv11x: try .. except C as e: y = e, the exception kept; try .. except C: a constant. -/
namespace Iv
open PySem PySem.Spec PyProof.Rows L2
section
variable {X : Cx} {pins : List (Addr × Obj)} {σ : L2.St} {H : Hp} {s : Shared}
/-- an exception's object that nobody tracks yet is tracked from here on -/
theorem track {ad : Addr} {ob : Obj} {fv : Array Value} {cls : Value} {dd : Option Addr} (I : Inv X pins σ H s) (ho : s.heap.get? ad = some ob) (hz : Zc cls dd ob) (hv : ob.data = .fields fv) (hn : H ad = none) (old : X.s_0.heap.get? ad = none) (nl : ad ≠ X.env.locals) (np : ∀ p ∈ X.pn ++ pins, p.1 ≠ ad) : Inv X pins σ (upd H ad (ExK cls dd ad)) s where
  ok := I.ok
  os := I.os
  bare := I.bare
  base := {
    keep := I.base.keep
    slot := I.base.slot
    there := I.base.there
    free := fun b o e n x => by
      have hb : b ≠ ad := fun z => by rw [z, old] at e; cases e
      rw [upd_ne hb]
      exact I.base.free b o e n x
    tups := fun b xs e => by
      have q := I.base.tups b xs e
      rw [upd_ne (ne_of_none q hn)]
      exact q
    frzs := fun b o u e => by
      have q := I.base.frzs b o u e
      rw [upd_ne (ne_of_none q hn)]
      exact q
    tbls := fun b ps e => by
      obtain ⟨mo, q⟩ := I.base.tbls b ps e
      exact ⟨mo, by rw [upd_ne (ne_of_none q hn)]; exact q⟩ }
  loc := I.loc
  cell := I.cell
  free := by rw [upd_ne (Ne.symm nl)]; exact I.free
  freeC := fun x c e => by
    have hc : c ≠ ad := fun z => by
      obtain ⟨v, o, h1, h2⟩ := I.cell x c e
      rw [z, ho] at h1
      cases h1
      rw [hv] at h2
      cases h2
    rw [upd_ne hc]
    exact I.freeC x c e
  pin := fun p hp => by
    obtain ⟨h1, h2, h3⟩ := I.pin p hp
    exact ⟨h1, by rw [upd_ne (np p hp)]; exact h2, h3⟩
  hok := fun b u e => by
    by_cases hb : b = ad
    · subst hb
      rw [upd_same] at e
      cases e
      exact ⟨⟨ob, fv, ho, hz, hv⟩, ⟨ob, ho⟩, fun _ _ ⟨o, v, q, r⟩ k => ⟨o, v, k o q, r⟩⟩
    · rw [upd_ne hb] at e
      refine (I.hok b u e).stay (fun _ _ _ q => q) (fun c q => ?_) fun c xs q => ?_
      · rw [upd_ne (ne_of_none q hn)]; exact q
      · rw [upd_ne (ne_of_none q hn)]; exact q
  len := I.len
theorem inSuite (I : Inv X pins σ H s) (ad : Addr) : Inv (X.suite ad (X.pn ++ pins)) [] σ H s :=
  { ok := I.ok.suite _ _, os := I.os, bare := I.bare, base := I.base, loc := I.loc, cell := I.cell, free := I.free, freeC := I.freeC, pin := fun p hp => I.pin p (by rw [List.append_nil] at hp; exact hp), hok := I.hok, len := I.len }
theorem outSuite {ad : Addr} (I : Inv (X.suite ad (X.pn ++ pins)) [] σ H s) (ok : X.Ok) : Inv X pins σ H s :=
  { ok := ok, os := I.os, bare := I.bare, base := I.base, loc := I.loc, cell := I.cell, free := I.free, freeC := I.freeC, pin := fun p hp => I.pin p (by rw [List.append_nil]; exact hp), hok := I.hok, len := I.len }
end
/-- the wish of a try's body: the exception that is caught stands in H, its name's slot is i -/
def wKeep (K : PySem.W.Frag) (c : Value) (i : Nat) (ts : TS) (Wout : WX) (D : Ends) : WX := fun cls dd σ H =>
  ∃ b, PySem.W.exmOne K cls c = some b ∧ (b = false → Wout cls dd σ H) ∧
    (b = true → ∀ ad, H ad = none → ts { nx := fun σ' H' => D.nx (σ'.set i none) H', rt := D.rt, bk := fun σ' H' => D.bk (σ'.set i none) H', ct := fun σ' H' => D.ct (σ'.set i none) H' } (σ.set i (some (.ref ad))) (upd H ad (ExK cls dd ad)))
section
variable {X : Cx} {x n : Str} {c : Value} {i : Nat} {body suite : List Stmt} {st0 : Stmt} {np pos pos' : Pos} {tb : WX → TS} {ts : TS} {Wout : WX}
theorem ps_keep (hs : X.stack = X.env :: X.outer) (hex : X.ex = []) (hf : X.env.frame = some X.env.locals) (hN : X.N.Nodup) (hi : X.N[i]? = some n) (hl : X.env.kindOf n = some .local) (hc : Names X x c) (tk : Takes X Wout)
    (hb : ∀ (W : WX) (pn : List (Addr × Obj)) (xe : Value → Shared → Prop), Takes (X.tr pn xe) W → PassesOwn (model X.prog X.w) X.A X.env xe → PSs (X.tr pn xe) body (tb W))
    (hsu : ∀ (ad : Addr) (pn : List (Addr × Obj)), PSs (X.suite ad pn) (st0 :: suite) ts) :
    PS X (.Try body [.ExceptHandler (some (.Name x np)) (some n) (st0 :: suite) pos'] [] [] pos) (fun D σ H => tb (wKeep X.K c i ts Wout D) D σ H) := by
  refine ⟨fun pins s σ H D I h => wpAny_Try_except ?_⟩
  have ok := I.ok
  have frE : X.A.frames = some (X.env :: X.outer) := ok.frames.trans (by rw [hs])
  let hd0 : ExceptHandler := .ExceptHandler (some (.Name x np)) (some n) (st0 :: suite) pos'
  let catch_ : Value → Shared → Prop := fun e s1 => wpAny (model X.prog X.w) X.A (noteFrame e X.env) (fun _ s2 => wpAny (model X.prog X.w) X.A (setFlight e none) (fun _ s3 => wpAny (model X.prog X.w) X.A (handleBy e X.env [hd0]) (SP X pins D) X.xe s3) X.xe s2) X.xe s1
  have caught : Takes (X.tr (X.pn ++ pins) catch_) (wKeep X.K c i ts Wout D) := by
    intro u s1 xx
    obtain ⟨ad, G0, t0, pins1, σ1, H1, cls, dd, rfl, J0, nb, up, sky, na, os, ag, b, hb1, hno, hyes⟩ := xx
    have J : Inv X pins σ1 H1 t0 := J0.ofTry ok
    have skyE : Sky G0 (X.env :: X.outer) ad (Zc cls dd) X.env.locals s1.heap := hs ▸ sky
    refine Sky.land Zc.steady frE hf skyE fun g3 fl3 up3 => ?_
    have L3 : Inv X pins σ1 H1 { s1 with heap := g3 } := J.landed nb fl3.1 (up.trans up3) os ag
    obtain ⟨o3, v3, ho3, hz3, hv3⟩ := fl3.there
    have offF : ad ∉ frs (X.env :: X.outer) := fun hm => by
      obtain ⟨_, o', e', hnf⟩ := fl3.2.2.1.mem hm
      rw [ho3] at e'
      cases e'
      exact hnf _ hv3
    have offL : ad ≠ X.env.locals := fun z => offF (List.mem_filterMap.mpr ⟨X.env, List.mem_cons_self, hf.trans (by rw [z])⟩)
    have noT : t0.heap.get? ad = none := by
      cases e : t0.heap.get? ad with
      | none => rfl
      | some o =>
        have z := nb ad o e (by rw [hs]; exact offF)
        rw [fl3.2.1] at z
        cases z
    have no0 : X.s_0.heap.get? ad = none := by
      cases e : X.s_0.heap.get? ad with
      | none => rfl
      | some o =>
        obtain ⟨o', z⟩ := J.base.there ad o e (by rw [hex]; exact fun z => nomatch z)
        rw [noT] at z
        cases z
    have noP : ∀ p ∈ X.pn ++ pins, p.1 ≠ ad := fun p hp z => by
      have q := (J.pin p hp).1
      rw [z, noT] at q
      cases q
    refine wpAny_handleBy_cons (codeAny_handlers_test ?_) (fun q => nomatch q)
    have tyL : PySem.W.Looks (model X.prog X.w) g3 (typeOf (.ref ad)) cls := fun A' Q' E' s' k q => wpAny_typeOf_ref (k _ _ ho3) (hz3.1 ▸ q)
    have isL := PySem.W.exm_one (M := model X.prog X.w) L3.kIn tyL hb1
    have T3 := inSuite L3 ad
    have named : ∀ {Q' E' : Value → Shared → Prop}, Q' c { s1 with heap := g3 } → wpAny (model X.prog X.w) (X.A.mark (some (.ref ad))) (PySem.eval (.Name x np) X.env) Q' E' { s1 with heap := g3 } := fun {Q' E'} q => by
      obtain ⟨hg, hdb, hm | ⟨hm, hv, hnn⟩⟩ := hc
      · exact ld_glob (X := X.suite ad (X.pn ++ pins)) T3 hg hm q hdb
      · exact ld_blt (X := X.suite ad (X.pn ++ pins)) T3 hg hm hv q hnn hdb
    refine named (isL.here ?_)
    cases b with
    | false =>
      refine wpAny_handleBy_nil ?_
      obtain ⟨_, _, _, o1, w1, tb1, oT, tv, ho1, _, hw1, hw2, _⟩ := id fl3
      unfold PySem.passOn
      refine wpAny_bind (wpAny_field ho1 hw1 hw2 ?_)
      rw [if_neg (show ¬ ((Value.ref tb1 == Value.none) = true) by simp)]
      have go : wpAny (model X.prog X.w) X.A (setFlight (.ref ad) X.env.frame) (fun _ s4 => wpAny (model X.prog X.w) X.A (throw (.ref ad) : Sem Flow) (SP X pins D) X.xe s4) X.xe { s1 with heap := g3 } := by
        rw [hf]
        refine HandSPX.setFlight_upZ fl3 fun g4 fl4 up4 => wpAny_throw (tk _ _ ⟨ad, G0, t0, pins, σ1, H1, cls, dd, rfl, J, nb, (up.trans up3).trans up4, .inr (.inr ?_), na, os, ag, hno rfl⟩)
        exact hs ▸ fl4
      first
        | exact wpAny_bind (wpAny_pure (wpAny_bind go))
        | exact wpAny_bind go
    | true =>
      refine codeAny_handlers_suite_as (HandSPX.lands_againZ fl3 fun g4 fl4 up4 => ?_)
      have L4 : Inv X pins σ1 H1 { s1 with heap := g4 } := J.landed nb fl4.1 ((up.trans up3).trans up4) os ag
      obtain ⟨o4, v4, ho4, hz4, hv4⟩ := fl4.there
      have T4 := inSuite (track L4 ho4 hz4 hv4 na no0 offL noP) ad
      refine store_ok (X := X.suite ad (X.pn ++ pins)) (v := .ref ad) T4 hN hi (.inl hl) rfl (fun s5 T5 => ?_) (.inr hl)
      refine wpAny_mono ((hsu ad (X.pn ++ pins)).run [] s5 _ _ _ T5 (hyes rfl ad na)) (fun f s6 out => ?_) (fun _ _ z => z.elim)
      have fin : ∀ {σ6 : L2.St} {H6 : Hp} {Q' : Shared → Prop}, Inv (X.suite ad (X.pn ++ pins)) [] σ6 H6 s6 → (∀ s7, Inv X pins (σ6.set i none) H6 s7 → Q' s7) → wpAny (model X.prog X.w) X.A (do bindName X.env n .none; unbindBehindTheSuite X.env n pos') (fun _ s7 => Q' s7) X.xe s6 :=
        fun {σ6 H6 Q'} T6 hq => gone_ok (outSuite T6 ok) hN hi hl hq
      cases f with
      | next =>
        obtain ⟨σ6, H6, T6, q6⟩ := out
        exact fin T6 fun s7 J7 => ⟨_, _, J7, q6⟩
      | brk =>
        obtain ⟨σ6, H6, T6, q6⟩ := out
        exact fin T6 fun s7 J7 => ⟨_, _, J7, q6⟩
      | cont =>
        obtain ⟨σ6, H6, T6, q6⟩ := out
        exact fin T6 fun s7 J7 => ⟨_, _, J7, q6⟩
      | ret w =>
        obtain ⟨v6, σ6, H6, T6, r6, q6⟩ := out
        exact fin T6 fun s7 J7 => ⟨_, _, _, J7, r6, q6⟩
  refine wpAny_mono ((hb (wKeep X.K c i ts Wout D) (X.pn ++ pins) catch_ caught PassesOwn.looking).run [] s σ H D (I.toTry _) h) (fun f s1 out => ?_) (fun _ _ z => z)
  cases f with
  | next =>
    obtain ⟨σ1, H1, J, q⟩ := out
    exact wpAny_execs_nil ⟨σ1, H1, J.ofTry ok, q⟩
  | brk =>
    obtain ⟨σ1, H1, J, q⟩ := out
    exact ⟨σ1, H1, J.ofTry ok, q⟩
  | cont =>
    obtain ⟨σ1, H1, J, q⟩ := out
    exact ⟨σ1, H1, J.ofTry ok, q⟩
  | ret w =>
    obtain ⟨v1, σ1, H1, J, r, q⟩ := out
    exact ⟨v1, σ1, H1, J.ofTry ok, r, q⟩
end
end Iv
set_option linter.all false
set_option maxRecDepth 100000
set_option maxHeartbeats 2000000
/-! Iv11r: raise C('text'), raise C(e) of own exceptions. -/
namespace Iv
open PySem PySem.Spec PyProof.Rows L2
/-- HallError.__init__(self, ..): an own class that has ValueError's -/
structure XBase (K : PySem.W.Frag) (CH : Addr) : Prop where
  ga : PySem.W.specialIn K (.ref CH) "__getattribute__" = some (some (.builtin "type.__getattribute__"))
  ty : PySem.W.typeIn K (.ref CH) = some (.type "type")
  rd : PySem.W.readsIn K CH (.type "type") = true
  fi : PySem.W.findCls K (.ref CH) (.type "type") "__init__" = some (.val (.builtin "ValueError.__init__"))
section
variable {X : Cx} {e : Expr} {es : List Expr} {ta : TA} {CH : Addr} {x : Str} {p1 p2 pos : Pos}
theorem pe_hinit (hg : Gl X x) (hm : X.mg x = some (.ref CH)) (hb : XBase X.K CH) (hdb : (x == ("__debug__" : Str)) = false) (ha : PA X (e :: es) ta) (hst : (e :: es).all notStar = true) (hn : (e :: es).length < 30) (hl : (p2.endLine == pos.line) = true) :
    PE X (.Call (.Attribute (.Name x p1) "__init__" p2) (e :: es) [] pos) (tVeI X.K ta) := by
  obtain ⟨pl, hc⟩ := meth_eq (o := .Name x p1) (m := "__init__") (env := X.env) rfl hst hn hl
  simp only [List.all_cons, Bool.and_eq_true] at hst
  refine ⟨fun pins s σ H Q I h => PySem.W.methodCall_KW (pl := pl) (ld_glob I hg hm ?_ hdb) hc⟩
  obtain ⟨m, fr⟩ := I.fr
  refine PySem.W.method_of_cls fr I.ok.mod.kin hb.ga (PySem.W.cls_val fr I.ok.mod.kin hb.ty hb.rd hb.fi (by decide +kernel) ?_)
  refine PyProof.Rows.callWith_method1 (thn (ha.run pos pins _ σ H _ (I.tok _) h) fun us s1 ⟨vs, H1, I1, r1, ad, C, ws, ev, hlw, T, ea, q⟩ => ?_) (star_cons hst.1) (back_any (star_all hst.2))
  subst ev
  cases r1 with
  | @cons _ u0 _ ur ra rr =>
    obtain rfl : u0 = Value.ref ad := ra
    refine oinit_ok T I1 ea ?_ fun s' J => ⟨.non, H1, J, rfl, q⟩
    have hz := Paired.length rr
    rw [sizeLine_eq]
    omega
end
/-- what C's own __init__ promises: the field f holds what was handed in -/
def spE (K : PySem.W.Frag) (f : Str) : Sp := fun vs H Q _ => ∃ (ad C : Addr) (v : V), vs = [.ref ad, v] ∧ OexC K C ∧ PySem.W.findIn K (.ref C) f = some none ∧ H ad = some (exo ad C none) ∧
  ∀ dx, H dx = none → dx ≠ ad → Q .non (upd (upd H dx (exd dx [(f, v)])) ad (exo ad C (some dx)))
/-- the text of such an __init__: Base.__init__(self, 'text'); self.f = v -/
def initB (sc : Scope) (self v : Str) : List Stmt → Option (Str × Str)
  | [.Expr (.Call (.Attribute (.Name b _) i p2) [.Name s1 _, .Constant (.str _) _ _] [] pos) _, .Assign [.Attribute (.Name s2 _) f _] (.Name v1 _) _] =>
    if i = "__init__" ∧ s1 = self ∧ s2 = self ∧ v1 = v ∧ (p2.endLine == pos.line) = true ∧ sc.names.lookup self = some .local ∧ sc.names.lookup v = some .local ∧ sc.names.lookup b = some .globalImplicit ∧ (b == ("__debug__" : Str)) = false ∧ (self == ("__debug__" : Str)) = false ∧ (self == ("__classdict__" : Str)) = false ∧ (v == ("__debug__" : Str)) = false ∧ (v == ("__classdict__" : Str)) = false then some (b, f) else none
  | _ => none
theorem init_fn {P : Program} {w : World} {K : PySem.W.Frag} {mg : Str → Option Value} {base : Heap} {x qual self v b f : Str} {params : Arguments} {body : List Stmt} {scope : Scope} {fi CH : Addr} {fd : FuncData} (F : FunD K x qual params body scope [] [] fi fd) (S : FnScope [self, v] [self, v] scope)
    (hi : initB scope self v body = some (b, f)) (hm : mg b = some (.ref CH)) (hb : XBase K CH) : FnOk P w K mg base (L2.CX P w) 1 fi fd [self, v] (spE K f) := by
  refine F.ok (k := 0) S (fun vs H Q E ⟨_, _, _, e, _⟩ => by rw [e]; rfl) fun cdv A outer s H vs Q E hr hsp => ?_
  unfold initB at hi
  split at hi
  rotate_left
  · cases hi
  split at hi
  rotate_left
  · cases hi
  rename_i b' _ i p2 s1 p3 m j p4 pos p5 s2 p6 f' p7 v1 p8 p9 hcond
  simp only [Option.some.injEq, Prod.mk.injEq] at hi
  obtain ⟨rfl, rfl⟩ := hi
  obtain ⟨rfl, rfl, rfl, rfl, hl, k1, k2, k3, d1, d2, d3, d4, d5⟩ := hcond
  obtain ⟨ad, C, u, rfl, T, hf, ha, q⟩ := hsp
  let X : Cx := cxOf (L2.CX P w) P w K mg base [s2, v1] qual scope fi cdv A outer s H E
  have pS : ∀ p, PE X (.Name s2 p) (tVar 0) := fun p => pe_var (pos := p) (i := 0) rfl (.inl k1) d2 d3
  have pV : ∀ p, PE X (.Name v1 p) (tVar 1) := fun p => pe_var (pos := p) (i := 1) rfl (.inl k2) d4 d5
  have pA : PA X [.Name s2 p3, .Constant (.str m) j p4] (tCons (tVar 0) (tCons (tC (.str m)) tNil)) := pa_cons (pS p3) (pa_cons pe_str pa_nil)
  have h1 := fun p1 => pe_hinit (X := X) (x := b') (p1 := p1) (e := .Name s2 p3) (es := [.Constant (.str m) j p4]) (p2 := p2) (pos := pos) k3 hm hb d1 pA rfl (by simp) hl
  refine ⟨_, pss_cons (ps_expr (h1 _) (no_swap rfl)) (pss_one (ps_ost (pS p6) (pV p8) (no_swap rfl))), ?_⟩
  exact ⟨.ref ad, rfl, ad, C, [.str m], rfl, by simp, T, ha, u, rfl, .ref ad, rfl, ad, C, rfl, T, hf, .inl ⟨ha, q⟩⟩
/-- an own exception class without own __init__ -/
structure XPl (K : PySem.W.Frag) (mg : Str → Option Value) (c : String) : Prop where
  ex : PySem.W.excIn K (He.ga K (Str.ofString c)) [.type "ValueError", .type "Exception", .type "BaseException", .type "object"] "ValueError.__new__" = true
  mg : mg (Str.ofString c) = some (.ref (He.ga K (Str.ofString c)))
  kp : PySem.W.keepIn K (.ref (He.ga K (Str.ofString c))) = true
  sub : PySem.W.subIn K (.ref (He.ga K (Str.ofString c))) (.type "BaseException") = some true
  ty : PySem.W.typeIn K (.ref (He.ga K (Str.ofString c))) = some (.type "type")
/-- an own exception class with an __init__ that keeps the field f -/
structure XIn (P : Program) (w : World) (K : PySem.W.Frag) (mg : Str → Option Value) (base : Heap) (c : String) (f : Str) : Prop where
  ox : OexC K (He.ga K (Str.ofString c))
  at_ : mg (Str.ofString c) = some (.ref (He.ga K (Str.ofString c)))
  nf : PySem.W.findIn K (.ref (He.ga K (Str.ofString c))) f = some none
  init : ∃ (fi : Addr) (fd : FuncData) (ps : List Str), PySem.W.findIn K (.ref (He.ga K (Str.ofString c))) "__init__" = some (some (.ref fi)) ∧ PySem.W.typeIn K (.ref fi) = some (.type "function") ∧ FnOk P w K mg base (L2.CX P w) 1 fi fd ps (spE K f) ∧ Binds K fd ps []
section
variable {X : Cx} {T : Flds} {A : Ask} {sg : Sig} {cf : CallFn} {pr : List Nat} {fu : Nat} {c : String} {p p2 pos pos' : Pos}
theorem ss_raiseP {m : Str} {j : Nat} (hc : X.calm = true) (tk : Takes X A.W) (hR : A.R = RX (X.mo T)) (hx : c ∈ T.xs) (P : XPl X.K X.mg c) (hg : Gl X (Str.ofString c)) (hdb : (Str.ofString c == ("__debug__" : Str)) = false) :
    PS X (.Raise (some (.Call (.Name (Str.ofString c) p) [.Constant (.str m) j p2] [] pos)) none pos') (tS (X.mo T) A pr sg cf fu (.rse c false (.cst (.str m)))) := by
  refine (ps_raise hc tk (pmk_own F.excBase_ValueError P.ex P.mg P.kp (raises_own P.sub P.ty) hg hdb)).imp fun D σ H ⟨ρ, fr, s, q⟩ => ?_
  rw [exec, eval] at q
  have q : AfterS (X.mo T) A pr σ fr H D (some (.ex ⟨c, .none⟩ ρ)) := q
  exact q σ _ _ H .refl (by rw [hR]; exact ⟨hx, rfl, .inl ⟨rfl, rfl⟩⟩) .refl s
theorem ss_raiseI {e : Expr} {ce : Ex} {f : Str} (hc : X.calm = true) (tk : Takes X A.W) (hR : A.R = RX (X.mo T)) (hx : c ∈ T.xs) (P : XIn X.prog X.w X.K X.mg X.base c f) (hr : Room 2 X.A) (hg : Gl X (Str.ofString c)) (hdb : (Str.ofString c == ("__debug__" : Str)) = false) (he : SE (X.mo T) A sg cf X e ce) (hs : notStar e = true) :
    PS X (.Raise (some (.Call (.Name (Str.ofString c) p) [e] [] pos)) none pos') (tS (X.mo T) A pr sg cf fu (.rse c true ce)) := by
  obtain ⟨fi, fd, ps, h1, h2, h3, h4⟩ := P.init
  have pa : PA X [e] (tCons (tI (X.mo T) A sg cf ce) tNil) := pa_cons he.pe pa_nil (by rw [star_cons hs])
  have pz : Passes (L2.CX X.prog X.w) X (fun _ _ _ => False) := fun _ _ _ _ _ _ _ h => by
    obtain ⟨_, _, _, _, _, _, _, _, _, _, _, _, z⟩ := h
    exact z.elim
  refine (ps_raise hc tk (pmk_oex (dvs := []) P.ox h1 h2 h3 hr h4 .nil pz hg P.at_ pa hdb (star_cons hs) (back_any (star_all rfl)))).imp fun D σ H ⟨ρ, fr, s, q⟩ => ?_
  rw [exec] at q
  refine ⟨ρ, fr, s, AfterS.ofE q fun m ρ1 v H1 _ q1 m1 s1 => ?_⟩
  cases hv : view m with
  | none => rw [hv] at q1; exact q1.elim
  | some d =>
    rw [hv] at q1
    simp only [Option.bind_some] at q1
    split at q1
    rotate_left
    · exact q1.elim
    rename_i hfl
    have fv : FlV d v := by
      obtain ⟨l, _, Z, fp, lv⟩ := s1
      obtain ⟨fq, r⟩ := lv.rep.mem (m := m) (v := v) (List.mem_append_right _ List.mem_cons_self)
      cases r with
      | imm r =>
        cases hv
        cases r <;> first | exact .non | exact .bl _ | exact .int _ | exact .str _ | cases hfl
      | lst _ _ => cases hv; cases hfl
      | dic _ _ => cases hv; cases hfl
      | ins _ _ _ => cases hv
      | exc _ _ => cases hv
      | thk _ _ _ => cases hv
    refine ⟨by simp, fun ad hn => ⟨ad, _, v, rfl, P.ox, P.nf, upd_same, fun dx hd hne => ⟨rfl, dx, [(f, v)], upd_same, ?_, ?_, ?_⟩⟩⟩
    · rw [upd_ne hne, upd_same]
    · rw [upd_ne hne] at hd; exact hd
    · rw [upd_ne hne] at hd
      have eH : upd (del (upd (upd (upd H1 ad (exo ad (He.ga X.K (Str.ofString c)) none)) dx (exd dx [(f, v)])) ad (exo ad (He.ga X.K (Str.ofString c)) (some dx))) ad) dx (.xd [(f, v)]) = upd H1 dx (.xd [(f, v)]) := by
        funext b
        by_cases hb : b = dx
        · rw [hb, upd_same, upd_same]
        · rw [upd_ne hb, upd_ne hb]
          by_cases ha : b = ad
          · rw [ha, del_same, hn]
          · rw [del_ne ha, upd_ne ha, upd_ne hb, upd_ne ha]
      rw [eH]
      have ex1 := ext_upd (o := .xd [(f, v)]) hd
      refine q1 σ _ _ _ .refl (by rw [hR]; exact ⟨hx, rfl, .inr ⟨dx, f, v, rfl, upd_same, fv⟩⟩) (m1.trans (.of_ext ex1)) ?_
      obtain ⟨l, env, Z, fp, lv⟩ := s1.drop
      have lv2 := lv.add (m := .imm .none) (v := .non) (fq := []) ex1 (.imm .non) .nil (fun _ h => nomatch h)
      exact ⟨l, env, Live.drop ⟨Z, _, lv2⟩⟩
end
end Iv
set_option linter.all false
set_option maxRecDepth 100000
set_option maxHeartbeats 2000000
/-! Iv11t: try .. except in the small language. -/
namespace Iv
open PySem PySem.Spec PyProof.Rows L2
theorem EnvR.any : ∀ {ρ : Rho} {σ : L2.St} {l : List (M × V)} (i : Nat) (w : Option V), EnvR (ρ.set i Option.none) σ l → EnvR (ρ.set i Option.none) (σ.set i w) l
  | [], σ, l, i, w, h => by
    cases h
    exact .nil
  | x :: ρ, σ, l, 0, w, h => by
    cases h with
    | none r => exact .none r
  | x :: ρ, σ, l, i + 1, w, h => by
    cases h with
    | none r => exact .none (EnvR.any i w r)
    | some r => exact .some (EnvR.any i w r)
section
variable {X : Cx} {T : Flds} {A : Ask} {sg : Sig} {cf : CallFn} {pr : List Nat} {fu : Nat} {c : String} {np pos pos' : Pos} {body : List Stmt} {cb : List Sm} {σ : L2.St} {H : Hp} {ρ : Rho} {fr : List (M × V)} {B : Mo}
theorem Sta.any (h : Sta B (ρ.set i none) σ H fr) (w : Option V) : Sta B (ρ.set i none) (σ.set i w) H fr := by
  obtain ⟨l, env, lv⟩ := h
  exact ⟨l, env.any i w, lv⟩
/-- an exception that was caught stands apart -/
theorem Sta.caught {x : XV} {cls : Value} {d : Option Addr} {ad : Addr} (s : Sta B ρ σ H fr) (r : RX B x cls d H) (hn : H ad = none) : Sta B ρ σ (upd H ad (ExK cls d ad)) ((.exc x, .ref ad) :: fr) := by
  obtain ⟨l, env, Z, fp, lv⟩ := s
  have ex1 := ext_upd (o := ExK cls d ad) hn
  have lv2 := lv.add (m := .exc x) (v := .ref ad) (fq := []) ex1 (.exc upd_same (r.keep (Z := fun _ => False) (fun a o e _ => ex1 a o e))) .nil (fun _ h => nomatch h)
  obtain ⟨f3, l3⟩ := lv2.perm List.perm_middle.symm
  exact ⟨l, env, Z, f3, l3⟩
theorem ss_try_keep {n y : Str} {i j : Nat} {py pn pa : Pos} (hs : X.stack = X.env :: X.outer) (hex : X.ex = []) (hf : X.env.frame = some X.env.locals) (hN : X.N.Nodup) (hi : X.N[i]? = some n) (hl : X.env.kindOf n = some .local) (hv : Vis X.env.scope n) (hd : (n == ("__debug__" : Str)) = false) (hcd : (n == ("__classdict__" : Str)) = false)
    (hj : X.N[j]? = some y) (hy : Loc X.env.scope y) (hfy : X.fn y = true ∨ X.env.scope.names.lookup y = some .local) (hc : Names X (Str.ofString c) (.ref (He.ga X.K (Str.ofString c)))) (tk : Takes X A.W) (hR : A.R = RX (X.mo T))
    (hm : ∀ a ∈ T.xs, PySem.W.exmOne X.K (.ref (He.ga X.K (Str.ofString a))) (.ref (He.ga X.K (Str.ofString c))) = some (subX a c))
    (hb : ∀ (W : WX) (pn : List (Addr × Obj)) (xe : Value → Shared → Prop), Takes (X.tr pn xe) W → PassesOwn (model X.prog X.w) X.A X.env xe → PSs (X.tr pn xe) body (tSs (X.mo T) ⟨A.R, W⟩ pr sg cf fu cb)) :
    PS X (.Try body [.ExceptHandler (some (.Name (Str.ofString c) np)) (some n) [.Assign [.Name y py] (.Name n pn) pa] pos'] [] [] pos) (tS (X.mo T) A pr sg cf fu (.tr cb c (some i) (.keep j))) := by
  refine (ps_keep (ts := tAsg (tVar i) (gName j)) hs hex hf hN hi hl hc tk hb fun ad pn' => pss_one (ps_set (X := X.suite ad pn') hN hj hy (pe_var (X := X.suite ad pn') hi hv hd hcd) (no_swap rfl) hfy)).imp fun D σ H ⟨ρ, fr, s, q⟩ => ⟨ρ, fr, s, ?_⟩
  rw [exec] at q
  cases he : execs sg cf pr fu cb ρ with
  | none => rw [he] at q; exact q.elim
  | some o =>
    rw [he] at q
    cases o with
    | ex x ρ1 =>
      intro σ1 cls d H1 sm rr mo st
      have rx : RX (X.mo T) x cls d H1 := hR ▸ rr
      refine ⟨subX x.cls c, by rw [rx.cls]; exact hm _ rx.mem, fun hno => ?_, fun hyes ad hn => ?_⟩
      · have q2 : AfterS (X.mo T) A pr σ fr H D (some (.ex x ρ1)) := by
          have := q
          simp only [hno, Bool.false_eq_true, if_false] at this
          exact this
        exact q2 σ1 cls d H1 sm rr mo st
      · have q2 : AfterS (X.mo T) A pr σ fr H D (hdl pr (some i) (.keep j) x ρ1) := by
          have := q
          simp only [hyes, if_true] at this
          exact this
        unfold hdl at q2
        split at q2
        · exact q2.elim
        rename_i c1
        simp only at q2
        split at q2
        · exact q2.elim
        rename_i c2
        simp only [Option.any_some, Bool.or_eq_true, decide_eq_true_eq, not_or, Nat.not_le, Bool.not_eq_true] at c1
        simp only [Bool.or_eq_true, not_or, Bool.not_eq_true, beq_iff_eq, Option.some.injEq] at c2
        obtain ⟨⟨c3, c4⟩, _⟩ := c2
        have c4 : i ≠ j := fun z => by rw [z] at c4; simp at c4
        have hlen : i < σ1.length := by rw [← st.len]; exact c1.2
        have st2 := (st.caught rx hn).put' (i := j)
        have st3 := Sta.any (i := i) (st2.clear i) none
        refine ⟨.ref ad, List.getElem?_set_self hlen, ?_⟩
        have es : ((σ1.set i (some (.ref ad))).set j (some (.ref ad))).set i none = (σ1.set j (some (.ref ad))).set i none := by
          rw [List.set_comm _ _ c4, List.set_set, List.set_comm _ _ (Ne.symm c4)]
        show D.nx (((σ1.set i (some (.ref ad))).set j (some (.ref ad))).set i none) _
        rw [es]
        refine q2 _ _ (sm.trans ((Same.set c3).trans (Same.set c1.1))) (mo.trans (.of_ext (ext_upd hn))) ?_
        exact st3
    | nx ρ1 => exact q
    | rt m ρ1 => exact q
    | br ρ1 => exact q
    | ct ρ1 => exact q
/-- try .. except C: y = a constant -/
theorem ss_try_set {y : Str} {j : Nat} {e : Expr} {d0 : D} {v0 : V} {py pa : Pos} (hs : X.stack = X.env :: X.outer) (hf : X.env.frame = some X.env.locals) (hN : X.N.Nodup)
    (hj : X.N[j]? = some y) (hy : Loc X.env.scope y) (hfy : X.fn y = true ∨ X.env.scope.names.lookup y = some .local) (hc : Names X (Str.ofString c) (.ref (He.ga X.K (Str.ofString c)))) (tk : Takes X A.W) (hR : A.R = RX (X.mo T))
    (hm : ∀ a ∈ T.xs, PySem.W.exmOne X.K (.ref (He.ga X.K (Str.ofString a))) (.ref (He.ga X.K (Str.ofString c))) = some (subX a c))
    (hb : ∀ (W : WX) (pn : List (Addr × Obj)) (xe : Value → Shared → Prop), Takes (X.tr pn xe) W → PassesOwn (model X.prog X.w) X.A X.env xe → PSs (X.tr pn xe) body (tSs (X.mo T) ⟨A.R, W⟩ pr sg cf fu cb))
    (hcomp : noComp e = true) (he0 : ∀ Y : Cx, PE Y e (tC v0)) (hv0 : ∀ Z H, RD (X.mo T) Z H d0 v0) :
    PS X (.Try body [.ExceptHandler (some (.Name (Str.ofString c) np)) none [.Assign [.Name y py] e pa] pos'] [] [] pos) (tS (X.mo T) A pr sg cf fu (.tr cb c none (.set j d0))) := by
  refine (ps_try_only (ts := fun _ _ _ => tAsg (tC v0) (gName j)) hs hf hc tk hb fun ad oe cls d pn' _ _ => pss_one (ps_set (X := X.suite ad ((ad, oe) :: pn')) hN hj hy (he0 _) (no_swap hcomp) hfy)).imp fun D σ H ⟨ρ, fr, s, q⟩ => ⟨ρ, fr, s, ?_⟩
  rw [exec] at q
  cases he : execs sg cf pr fu cb ρ with
  | none => rw [he] at q; exact q.elim
  | some o =>
    rw [he] at q
    cases o with
    | ex x ρ1 =>
      intro σ1 cls d H1 sm rr mo st
      have rx : RX (X.mo T) x cls d H1 := hR ▸ rr
      refine ⟨subX x.cls c, by rw [rx.cls]; exact hm _ rx.mem, fun hyes ad hn => ?_, fun hno => ?_⟩
      · have q2 : AfterS (X.mo T) A pr σ fr H D (hdl pr none (.set j d0) x ρ1) := by
          have := q
          simp only [hyes, if_true] at this
          exact this
        unfold hdl at q2
        simp only [Option.any_none, Bool.false_eq_true, if_false] at q2
        split at q2
        · exact q2.elim
        rename_i c2
        simp only [Bool.or_eq_true, not_or, Bool.not_eq_true] at c2
        exact q2 _ _ (sm.trans (Same.set c2.1)) mo (sta_imm st fun Z => hv0 Z H1).put'
      · have q2 : AfterS (X.mo T) A pr σ fr H D (some (.ex x ρ1)) := by
          have := q
          simp only [hno, Bool.false_eq_true, if_false] at this
          exact this
        exact q2 σ1 cls d H1 sm rr mo st
    | nx ρ1 => exact q
    | rt m ρ1 => exact q
    | br ρ1 => exact q
    | ct ρ1 => exact q
/-- try .. except C: return a constant -/
theorem ss_try_ret {e : Expr} {d0 : D} {v0 : V} {pa : Pos} (hs : X.stack = X.env :: X.outer) (hf : X.env.frame = some X.env.locals)
    (hc : Names X (Str.ofString c) (.ref (He.ga X.K (Str.ofString c)))) (tk : Takes X A.W) (hR : A.R = RX (X.mo T))
    (hm : ∀ a ∈ T.xs, PySem.W.exmOne X.K (.ref (He.ga X.K (Str.ofString a))) (.ref (He.ga X.K (Str.ofString c))) = some (subX a c))
    (hb : ∀ (W : WX) (pn : List (Addr × Obj)) (xe : Value → Shared → Prop), Takes (X.tr pn xe) W → PassesOwn (model X.prog X.w) X.A X.env xe → PSs (X.tr pn xe) body (tSs (X.mo T) ⟨A.R, W⟩ pr sg cf fu cb))
    (he0 : ∀ Y : Cx, PE Y e (tC v0)) (hv0 : ∀ Z H, RD (X.mo T) Z H d0 v0) :
    PS X (.Try body [.ExceptHandler (some (.Name (Str.ofString c) np)) none [.Return (some e) pa] pos'] [] [] pos) (tS (X.mo T) A pr sg cf fu (.tr cb c none (.ret d0))) := by
  refine (ps_try_only (ts := fun _ _ _ => tRet (tC v0)) hs hf hc tk hb fun ad oe cls d pn' _ _ => pss_one (ps_ret (he0 _))).imp fun D σ H ⟨ρ, fr, s, q⟩ => ⟨ρ, fr, s, ?_⟩
  rw [exec] at q
  cases he : execs sg cf pr fu cb ρ with
  | none => rw [he] at q; exact q.elim
  | some o =>
    rw [he] at q
    cases o with
    | ex x ρ1 =>
      intro σ1 cls d H1 sm rr mo st
      have rx : RX (X.mo T) x cls d H1 := hR ▸ rr
      refine ⟨subX x.cls c, by rw [rx.cls]; exact hm _ rx.mem, fun hyes ad hn => ?_, fun hno => ?_⟩
      · have q2 : AfterS (X.mo T) A pr σ fr H D (hdl pr none (.ret d0) x ρ1) := by
          have := q
          simp only [hyes, if_true] at this
          exact this
        unfold hdl at q2
        simp only [Option.any_none, Bool.false_eq_true, if_false] at q2
        exact q2 v0 _ _ sm mo (sta_imm st fun Z => hv0 Z H1)
      · have q2 : AfterS (X.mo T) A pr σ fr H D (some (.ex x ρ1)) := by
          have := q
          simp only [hno, Bool.false_eq_true, if_false] at this
          exact this
        exact q2 σ1 cls d H1 sm rr mo st
    | nx ρ1 => exact q
    | rt m ρ1 => exact q
    | br ρ1 => exact q
    | ct ρ1 => exact q
end
end Iv
set_option linter.all false
set_option maxRecDepth 100000
set_option maxHeartbeats 1000000
/-! Iv12: targets, what is walked, for, while. -/
namespace Iv
open PySem PySem.Spec PyProof.Rows L2
structure NameAt (X : Cx) (x : Str) (i : Nat) : Prop where
  ix : X.N[i]? = some x
  loc : Loc X.env.scope x
  hf : X.fn x = true ∨ X.env.scope.names.lookup x = some .local
inductive NamesAt (X : Cx) : List Expr → List Nat → Prop
  | nil : NamesAt X [] []
  | cons {x : Str} {p : Pos} {i : Nat} {es : List Expr} {is : List Nat} : NameAt X x i → NamesAt X es is → NamesAt X (.Name x p :: es) (i :: is)
inductive TgOk (X : Cx) : Expr → List Nat → Bool → Prop
  | one {x : Str} {p : Pos} {i : Nat} : NameAt X x i → TgOk X (.Name x p) [i] true
  | tup {es : List Expr} {is : List Nat} {k : Nat} {pos : Pos} : NamesAt X es is → TgOk X (.Tuple es k pos) is false
def setMany (σ : L2.St) : List Nat → List V → L2.St
  | i :: is, v :: vs => setMany (σ.set i (some v)) is vs
  | _, _ => σ
def gNames (is : List Nat) : TGs := fun vs σ H Q => vs.length = is.length ∧ Q (setMany σ is vs) H
def gI (K : PySem.W.Frag) (is : List Nat) (one : Bool) : TG := if one then (match is with
  | [i] => gName i
  | _ => fun _ _ _ _ => False) else fun v σ H Q => gTup K is.length (gNames is) v σ H Q ∨ gUnl K is.length (gNames is) v σ H Q
theorem _root_.L2.PGs.imp {X : Cx} {e : List Expr} {t t' : TGs} (h : PGs X e t) (i : ∀ v σ H Q, t' v σ H Q → t v σ H Q) : PGs X e t' := ⟨fun pins s σ H v u Q I r q => h.run pins s σ H v u Q I r (i v σ H Q q)⟩
theorem _root_.L2.PG.imp {X : Cx} {e : Expr} {t t' : TG} (h : PG X e t) (i : ∀ v σ H Q, t' v σ H Q → t v σ H Q) : PG X e t' := ⟨fun pins s σ H v u Q I r q => h.run pins s σ H v u Q I r (i v σ H Q q)⟩
theorem assignEach_name {x : Str} {p : Pos} {es : List Expr} {env : Env} : assignEach (.Name x p :: es) env = (false, assign (.Name x p) env) :: assignEach es env := rfl
theorem pgs_names {X : Cx} (hN : X.N.Nodup) : ∀ {es : List Expr} {is : List Nat}, NamesAt X es is → PGs X es (gNames is) ∧ (assignEach es X.env).length = is.length ∧ (assignEach es X.env).findIdx? (·.1) = none
  | _, _, .nil => ⟨pgs_nil.imp fun v σ H Q ⟨h1, h2⟩ => by
      cases v with
      | nil => exact ⟨rfl, h2⟩
      | cons _ _ => simp at h1, rfl, rfl⟩
  | _, _, @NamesAt.cons _ x p i es is n r => by
    obtain ⟨h1, h2, h3⟩ := pgs_names hN r
    refine ⟨(pgs_cons (pg_name (pos := p) hN n.ix n.loc n.hf) h1 rfl).imp fun v σ H Q ⟨hl, q⟩ => ?_, ?_, ?_⟩
    · cases v with
      | nil => simp at hl
      | cons v vs => exact ⟨v, vs, rfl, by simpa using hl, q⟩
    · rw [assignEach_name]; simp [h2]
    · rw [assignEach_name, List.findIdx?_cons]; simp [h3]
theorem pg_I {X : Cx} (hc : X.calm = true) (hN : X.N.Nodup) {tg : Expr} {is : List Nat} {one : Bool} (h : TgOk X tg is one) : PG X tg (gI X.K is one) := by
  cases h with
  | one n => exact pg_name hN n.ix n.loc n.hf
  | tup n =>
    obtain ⟨h1, h2, h3⟩ := pgs_names hN n
    exact ⟨fun pins s σ H v u Q I r q => q.elim (fun q => (pg_tup hc h1 h2 h3).run pins s σ H v u Q I r q) fun q => (pg_unl hc h1 h2 h3).run pins s σ H v u Q I r q⟩
section
variable {B : Mo} {A : Ask} {pr : List Nat} {sg : Sig} {cf : CallFn} {fu : Nat} {X : Cx} {T : Flds} {σ σ1 : L2.St} {fr : List (M × V)} {H H0 H1 : Hp} {ρ : Rho} {D : Ends}
theorem Sta.putMany : ∀ {is : List Nat} {ds : List PyData} {vs : List V} {ρ : Rho} {σ : L2.St}, vs.length = ds.length → Sta B ρ σ H (zipM (ds.map M.imm) vs ++ fr) → Sta B (putMany ρ is ds) (setMany σ is vs) H fr
  | [], ds, vs, ρ, σ, hl, s => by
    have : setMany σ [] vs = σ := by cases vs <;> rfl
    rw [this]
    exact drops_any s
  | i :: is, [], vs, ρ, σ, hl, s => by
    cases vs with
    | nil => exact s
    | cons _ _ => simp at hl
  | i :: is, d :: ds, [], ρ, σ, hl, s => by simp at hl
  | i :: is, d :: ds, v :: vs, ρ, σ, hl, s => by
    show Sta B (Iv.putMany (putS ρ i (.imm d)) is ds) (setMany (σ.set i (some v)) is vs) H fr
    exact Sta.putMany (by simpa using hl) (Sta.put' s)
theorem Live.imms {Z : Addr → Prop} {l : List (M × V)} {fp : List Addr} (lv : Lv B Z H l fp) : ∀ {ds : List PyData} {vs : List V}, RDs B Z H ds vs → Lv B Z H (zipM (ds.map M.imm) vs ++ l) fp
  | _, _, .nil => lv
  | _, _, .cons r rs => by
    have := Live.imms lv rs
    exact ⟨.cons (.imm r) this.rep, this.nd, this.nz, this.zs⟩
/-- a tuple's items in hand -/
theorem tup_items {ds : List PyData} {v : V} (s : Sta B ρ σ H ((.imm (.tuple ds), v) :: fr)) : ∃ a vs, v = .ref a ∧ SqT B.K H a vs ∧ vs.length = ds.length ∧ Sta B ρ σ H (zipM (ds.map M.imm) vs ++ fr) := by
  obtain ⟨l, env, Z, fp, lv⟩ := s
  obtain ⟨f2, lv2⟩ := lv.perm List.perm_middle
  obtain ⟨fq, r⟩ := lv2.rep.mem (m := .imm (.tuple ds)) (v := v) List.mem_cons_self
  cases r with
  | imm r =>
    cases r with
    | tup h _ rs =>
      obtain ⟨f3, lv3⟩ := lv2.drop
      refine ⟨_, _, rfl, h, rs.length.symm, l, env, Live.perm ⟨Z, f3, Live.imms lv3 rs⟩ ?_⟩
      rw [← List.append_assoc, ← List.append_assoc]
      exact List.perm_append_comm.append_right _
/-- a list's items in hand -/
theorem lst_items {ds : List PyData} {v : V} (s : Sta B ρ σ H ((.imm (.list ds), v) :: fr)) : ∃ a vs, v = .ref a ∧ SqL B.K H a vs ∧ vs.length = ds.length ∧ Sta B ρ σ H (zipM (ds.map M.imm) vs ++ fr) := by
  obtain ⟨l, env, Z, fp, lv⟩ := s
  obtain ⟨f2, lv2⟩ := lv.perm List.perm_middle
  obtain ⟨fq, r⟩ := lv2.rep.mem (m := .imm (.list ds)) (v := v) List.mem_cons_self
  have fin : ∀ {a : Addr} {vs : List V}, SqL B.K H a vs → RDs B Z H ds vs → ∃ a' vs', V.ref a = .ref a' ∧ SqL B.K H a' vs' ∧ vs'.length = ds.length ∧ Sta B ρ σ H (zipM (ds.map M.imm) vs' ++ fr) := fun {a vs} h rs => by
    obtain ⟨f3, lv3⟩ := lv2.drop
    refine ⟨a, vs, rfl, h, rs.length.symm, l, env, Live.perm ⟨Z, f3, Live.imms lv3 rs⟩ ?_⟩
    rw [← List.append_assoc, ← List.append_assoc]
    exact List.perm_append_comm.append_right _
  cases r with
  | imm r =>
    cases r with
    | lst z h rs => exact fin (.inl h) rs
    | klst h rs => exact fin h.sq rs
theorem setMany_out : ∀ {is : List Nat} {vs : List V} {σ : L2.St}, (setMany σ is vs).length = σ.length ∧ ∀ j, j ∉ is → (setMany σ is vs)[j]? = σ[j]?
  | [], vs, σ => by cases vs <;> exact ⟨rfl, fun _ _ => rfl⟩
  | i :: is, [], σ => ⟨rfl, fun _ _ => rfl⟩
  | i :: is, v :: vs, σ => by
    obtain ⟨h1, h2⟩ := setMany_out (is := is) (vs := vs) (σ := σ.set i (some v))
    refine ⟨by rw [setMany, h1, List.length_set], fun j hj => ?_⟩
    simp only [List.mem_cons, not_or] at hj
    rw [setMany, h2 j hj.2, List.getElem?_set_ne (fun e => hj.1 e.symm)]
theorem bind_out {tg : List Nat} {one : Bool} {d : PyData} {v : V} {ρ1 : Rho} {Q : L2.St → Hp → Prop} (s : Sta B ρ σ H ((.imm d, v) :: fr)) (e : bindT tg one d ρ = some ρ1) (k : ∀ σ1, σ1.length = σ.length → (∀ j, j ∉ tg → σ1[j]? = σ[j]?) → Sta B ρ1 σ1 H fr → Q σ1 H) : gI B.K tg one v σ H Q := by
  unfold bindT at e
  unfold gI
  cases one with
  | true =>
    simp only [if_true] at e ⊢
    split at e
    · cases e
      refine k _ (by simp) (fun j hj => ?_) s.put'
      simp only [List.mem_cons, List.not_mem_nil, or_false] at hj
      exact List.getElem?_set_ne (fun e => hj e.symm)
    · cases e
  | false =>
    simp only [Bool.false_eq_true, if_false] at e ⊢
    split at e
    · rename_i xs
      split at e
      · rename_i hl
        cases e
        obtain ⟨a, vs, rfl, h, hv, s1⟩ := tup_items s
        exact .inl ⟨a, vs, rfl, h, hv.trans hl, hv.trans hl, k _ setMany_out.1 setMany_out.2 (Sta.putMany hv s1)⟩
      · cases e
    · rename_i xs
      split at e
      · rename_i hl
        cases e
        obtain ⟨a, vs, rfl, h, hv, s1⟩ := lst_items s
        exact .inr ⟨a, vs, rfl, h, hv.trans hl, hv.trans hl, k _ setMany_out.1 setMany_out.2 (Sta.putMany hv s1)⟩
      · cases e
    · cases e
theorem bind_ok {tg : List Nat} {one : Bool} {d : PyData} {v : V} {ρ1 : Rho} {Q : L2.St → Hp → Prop} (hp : tg.any pr.contains = false) (s : Sta B ρ σ H ((.imm d, v) :: fr)) (e : bindT tg one d ρ = some ρ1) (k : ∀ σ1, Same pr σ σ1 → Sta B ρ1 σ1 H fr → Q σ1 H) : gI B.K tg one v σ H Q :=
  bind_out s e fun σ1 _ h s1 => k σ1 (fun j hj => h j fun hm => by
    have := List.any_eq_false.mp hp j hm
    simp [hj] at this) s1
/-! ### a, b = .. -/
def noTup : Expr → Bool
  | .Tuple _ _ _ => false
  | _ => true
theorem no_stores {es : List Expr} {k : Nat} {pt : Pos} {e : Expr} {env : Env} (h : noTup e = true) : swappedStores [.Tuple es k pt] e env = pure none := by
  unfold swappedStores
  cases e <;> first | rfl | simp [noTup] at h
theorem no_swapT {es : List Expr} {k : Nat} {pt : Pos} {e : Expr} {l : Nat} {env : Env} : swapsWithSole [.Tuple es k pt] e l env = pure false := by
  unfold swapsWithSole swapsWith
  cases e <;> rfl
theorem ss_unp {es : List Expr} {is : List Nat} {k : Nat} {pt pos : Pos} {e : Expr} {c : Ex} (hc : X.calm = true) (hN : X.N.Nodup) (h : NamesAt X es is) (ht : noTup e = true) (he : SE (X.mo T) A sg cf X e c) : PS X (.Assign [.Tuple es k pt] e pos) (tS (X.mo T) A pr sg cf fu (.unp is c)) := by
  refine (ps_asg he.pe (pg_I hc hN (.tup h)) no_swapT (no_stores ht) rfl).imp fun D σ H ⟨ρ, fr, s, q⟩ => ?_
  rw [exec] at q
  split at q
  · exact q.elim
  · rename_i hp
    refine ⟨ρ, fr, s, AfterS.ofE q fun m ρ1 v H1 _ q1 m1 s1 => ?_⟩
    cases hv : view m with
    | none => rw [hv] at q1; exact q1.elim
    | some d =>
      rw [hv] at q1
      simp only [Option.bind_some] at q1
      cases hb : bindT is false d ρ1 with
      | none => rw [hb] at q1; exact q1.elim
      | some ρ2 =>
        rw [hb] at q1
        simp only [Option.map_some] at q1
        have s2 : Sta (X.mo T) ρ1 σ H1 ((.imm d, v) :: fr) := s1.head fun l h => h.freeze hv
        exact bind_ok (pr := pr) (B := X.mo T) (ρ := ρ1) (ρ1 := ρ2) (d := d) (fr := fr) (by simpa using hp) s2 hb fun σ1 sm s2 => q1 _ _ sm m1 s2
/-- a, b = x, y -/
theorem ss_par {i j : Nat} {x y : Str} {a b : Expr} {ca cb : Ex} {px py pt pos : Pos} {kt k2 pt2} (hc : X.calm = true) (hN : X.N.Nodup) (hi : X.N[i]? = some x) (hj : X.N[j]? = some y) (hij : i ≠ j) (hx : X.env.scope.names.lookup x = some .local) (hy : X.env.scope.names.lookup y = some .local)
    (hw : swappedStores [.Tuple [.Name x px, .Name y py] kt pt] (.Tuple [a, b] k2 pt2) X.env = pure (some [x, y])) (ha : SE B A sg cf X a ca) (hb : SE B A sg cf X b cb) (hs : [a, b].all notStar = true) :
    PS X (.Assign [.Tuple [.Name x px, .Name y py] kt pt] (.Tuple [a, b] k2 pt2) pos) (tS B A pr sg cf fu (.par i j ca cb)) := by
  refine (ps_par hc hN hi hj hij hx hy (pa_ds (.cons ha (.cons hb .nil)) hs) hw no_swapT).imp fun D σ H ⟨ρ, fr, s, q⟩ => ?_
  rw [exec] at q
  split at q
  · exact q.elim
  · rename_i hp
    simp only [Bool.or_eq_true, not_or, Bool.not_eq_true] at hp
    refine ⟨ρ, fr, s, AfterS.ofD q fun ds ρ1 vs H1 _ q1 m1 hl s1 => ?_⟩
    split at q1
    · rename_i d1 d2 _
      match vs, hl with
      | [v, w], _ =>
        refine ⟨v, w, rfl, q1 _ _ (Same.trans (.set hp.1) (.set hp.2)) m1 ?_⟩
        have s2 : Sta B ρ1 σ H1 ((.imm d1, v) :: (.imm d2, w) :: fr) := s1.permF (.swap ..)
        exact s2.put'.put'
    · exact q1.elim
theorem ss_par3 {i j l : Nat} {x y z : Str} {a b c : Expr} {ca cb cc : Ex} {px py pz pt pos : Pos} {kt k2 pt2} (hc : X.calm = true) (hN : X.N.Nodup) (hi : X.N[i]? = some x) (hj : X.N[j]? = some y) (hk : X.N[l]? = some z) (hij : i ≠ j) (hil : i ≠ l) (hjl : j ≠ l) (hx : X.env.scope.names.lookup x = some .local) (hy : X.env.scope.names.lookup y = some .local) (hz : X.env.scope.names.lookup z = some .local)
    (hw : swappedStores [.Tuple [.Name x px, .Name y py, .Name z pz] kt pt] (.Tuple [a, b, c] k2 pt2) X.env = pure (some [x, y, z])) (ha : SE B A sg cf X a ca) (hb : SE B A sg cf X b cb) (hc' : SE B A sg cf X c cc) (hs : [a, b, c].all notStar = true) :
    PS X (.Assign [.Tuple [.Name x px, .Name y py, .Name z pz] kt pt] (.Tuple [a, b, c] k2 pt2) pos) (tS B A pr sg cf fu (.par3 i j l ca cb cc)) := by
  refine (ps_par3 hc hN hi hj hk hij hil hjl hx hy hz (pa_ds (.cons ha (.cons hb (.cons hc' .nil))) hs) hw no_swapT).imp fun D σ H ⟨ρ, fr, s, q⟩ => ?_
  rw [exec] at q
  split at q
  · exact q.elim
  · rename_i hp
    simp only [Bool.or_eq_true, not_or, Bool.not_eq_true] at hp
    refine ⟨ρ, fr, s, AfterS.ofD q fun ds ρ1 vs H1 _ q1 m1 hl s1 => ?_⟩
    split at q1
    · rename_i d1 d2 d3 _
      match vs, hl with
      | [v, w, u], _ =>
        refine ⟨v, w, u, rfl, q1 _ _ (Same.trans (Same.trans (.set hp.1) (.set hp.2.1)) (.set hp.2.2)) m1 ?_⟩
        have s2 : Sta B ρ1 σ H1 ((.imm d1, v) :: (.imm d2, w) :: (.imm d3, u) :: fr) := s1.permF (by
          show [(M.imm d3, u), (M.imm d2, w), (M.imm d1, v)].append fr |>.Perm ([(M.imm d1, v), (M.imm d2, w), (M.imm d3, u)].append fr)
          exact (List.reverse_perm [(M.imm d1, v), (M.imm d2, w), (M.imm d3, u)]).append_right fr)
        exact s2.put'.put'.put'
    · exact q1.elim
/-! ### while -/
theorem ss_while {c : Expr} {cc : Ex} {body : List Stmt} {cb : List Sm} {pos : Pos} (hp : PassesOwn (model X.prog X.w) X.A X.env X.xe) (hc : SE B A sg cf X c cc) (hb : PSs X body (tSs B A pr sg cf fu cb)) : PS X (.While c body [] pos) (tS B A pr sg cf fu (.whl cc cb)) := by
  refine (ps_while hp hc.pt hb).imp fun D σ H ⟨ρ, fr, s, q⟩ => ?_
  rw [exec] at q
  refine ⟨fun n σ1 H1 => ∃ ρ1, Sta B ρ1 σ1 H1 fr ∧ AfterS B A pr σ1 fr H1 D (whlL (fun ρ => oBool (eval sg cf cc ρ)) (execs sg cf pr fu cb) n ρ1), ⟨fu, ρ, s, q⟩, ?_⟩
  rintro m σ1 H1 ⟨ρ1, s1, q1⟩
  cases m with
  | zero => exact q1.elim
  | succ m =>
    rw [whlL] at q1
    refine ⟨ρ1, fr, s1, ?_⟩
    cases ht : oBool (eval sg cf cc ρ1) with
    | none => rw [ht] at q1; exact q1.elim
    | some r =>
      rw [ht] at q1
      cases r with
      | exc x ρ2 => exact fun cls d H r s => q1 σ1 cls d H .refl r s
      | ok b ρ2 =>
        refine fun H2 m2 s2 => ?_
        cases b with
        | false => exact q1 σ1 H2 .refl m2 s2
        | true =>
          simp only at q1
          refine ⟨fun σ3 H3 => ∃ ρ3, Sta B ρ3 σ3 H3 fr ∧ AfterS B A pr σ3 fr H3 D (whlL (fun ρ => oBool (eval sg cf cc ρ)) (execs sg cf pr fu cb) m ρ3), fun σ3 H3 h => ⟨m, Nat.lt_succ_self m, h⟩, ρ2, fr, s2, ?_⟩
          cases hb : execs sg cf pr fu cb ρ2 with
          | none => rw [hb] at q1; exact q1.elim
          | some r =>
            rw [hb] at q1
            cases r with
            | nx ρ3 => exact fun σ3 H3 s3 m3 t3 => ⟨ρ3, t3, AfterS.mono q1 s3 (m2.trans m3)⟩
            | ct ρ3 => exact fun σ3 H3 s3 m3 t3 => ⟨ρ3, t3, AfterS.mono q1 s3 (m2.trans m3)⟩
            | br ρ3 => exact fun σ3 H3 s3 m3 t3 => q1 σ3 H3 s3 (m2.trans m3) t3
            | rt v ρ3 => exact fun v σ3 H3 s3 m3 t3 => q1 v σ3 H3 s3 (m2.trans m3) t3
            | ex x ρ3 => exact fun σ3 c d H3 s3 r m3 => q1 σ3 c d H3 s3 r (m2.trans m3)
/-! ### what is walked -/
structure Walks (B : Mo) (J : L2.It) (ds : List PyData) (ex : List (M × V)) (H1 : Hp) : Prop where
  go : ∀ i H l, Mono H1 H → Live B H (ex ++ l) → i < ds.length → J.go i H
  yl : ∀ i H l x H' d, Mono H1 H → Live B H (ex ++ l) → ds[i]? = some d → J.yld i H x H' → Mono H H' ∧ Live B H' ((.imm d, x) :: (ex ++ l))
  st : ∀ i H l, Mono H1 H → Live B H (ex ++ l) → ds.length ≤ i → J.stop i H
def AfterI (B : Mo) (A : Ask) (σ : L2.St) (fr : List (M × V)) (H0 : Hp) (R : L2.It → Hp → Prop) : O (List PyData) → Prop
  | none => False
  | some (.ok ds ρ) => ∀ J ex H, Mono H0 H → Walks B J ds ex H → Sta B ρ σ H (ex ++ fr) → R J H
  | some (.exc x ρ) => ExcA B A σ fr H0 x ρ
def tIt (B : Mo) (A : Ask) (sg : Sig) (cf : CallFn) (it : It) : TI := fun σ H R => ∃ ρ fr, Sta B ρ σ H fr ∧ AfterI B A σ fr H R (iter sg cf it ρ)
/-- for .. in ..: -/
theorem ss_for {tg it : Expr} {is : List Nat} {one : Bool} {ci : It} {body : List Stmt} {cb : List Sm} {pos : Pos} (hp : PassesOwn (model X.prog X.w) X.A X.env X.xe) (hc : X.calm = true) (hN : X.N.Nodup) (ht : TgOk X tg is one) (hi : PI X tg it (tIt (X.mo T) A sg cf ci)) (hb : PSs X body (tSs (X.mo T) A pr sg cf fu cb))
    (hs : ∀ x, foldedSetIterable it X.env x = pure x) : PS X (.For tg it body [] pos) (tS (X.mo T) A pr sg cf fu (.fo is one ci cb)) := by
  refine (ps_for hp hc hi (pg_I hc hN ht) hb hs).imp fun D σ H ⟨ρ, fr, s, q⟩ => ?_
  rw [exec] at q
  split at q
  · exact q.elim
  · rename_i hpr
    refine ⟨ρ, fr, s, ?_⟩
    cases hit : iter sg cf ci ρ with
    | none => rw [hit] at q; exact q.elim
    | some r =>
      rw [hit] at q
      cases r with
      | exc x ρ1 => exact fun cls d H r s => q σ cls d H .refl r s
      | ok ds ρ1 =>
        refine fun J ex H1 m1 w s1 => ?_
        have q1 : AfterS (X.mo T) A pr σ fr H1 D (forL (execs sg cf pr fu cb) is one ds ρ1) := AfterS.mono q .refl m1
        refine ⟨fun i m σ2 H2 => m + i = ds.length ∧ Mono H1 H2 ∧ ∃ ρ2, Sta (X.mo T) ρ2 σ2 H2 (ex ++ fr) ∧ AfterS (X.mo T) A pr σ2 fr H2 D (forL (execs sg cf pr fu cb) is one (ds.drop i) ρ2), ⟨ds.length, by simp, .refl, ρ1, s1, q1⟩, ?_⟩
        rintro i m σ2 H2 ⟨hm, m12, ρ2, s2, q2⟩
        obtain ⟨l, env, lv⟩ := s2
        have lv2 : Live (X.mo T) H2 (ex ++ (fr ++ l)) := lv.perm (by rw [← List.append_assoc ex]; exact List.perm_append_comm)
        by_cases hi : i < ds.length
        · refine .inr ⟨w.go i H2 _ m12 lv2 hi, fun σ4 H4 => Mono H1 H4 ∧ ∃ ρ4, Sta (X.mo T) ρ4 σ4 H4 (ex ++ fr) ∧ AfterS (X.mo T) A pr σ4 fr H4 D (forL (execs sg cf pr fu cb) is one (ds.drop (i + 1)) ρ4), fun σ4 H4 h => ⟨m - 1, by omega, by omega, h⟩, fun x H3 y => ?_⟩
          have hd : ds[i]? = some ds[i] := List.getElem?_eq_getElem hi
          obtain ⟨m3, lv3⟩ := w.yl i H2 _ x H3 _ m12 lv2 hd y
          have s3 : Sta (X.mo T) ρ2 σ2 H3 ((.imm ds[i], x) :: (ex ++ fr)) := ⟨l, env, lv3.perm (by
            rw [← List.append_assoc]
            exact (List.perm_append_comm (l₁ := (.imm ds[i], x) :: (ex ++ fr)) (l₂ := l)))⟩
          rw [List.drop_eq_getElem_cons hi, forL] at q2
          cases hbd : bindT is one ds[i] ρ2 with
          | none => rw [hbd] at q2; exact q2.elim
          | some ρ3 =>
            rw [hbd] at q2
            simp only at q2
            refine bind_ok (pr := pr) (B := X.mo T) (by simpa using hpr) s3 hbd fun σ3 sm3 t3 => ⟨ρ3, _, t3, ?_⟩
            cases hbo : execs sg cf pr fu cb ρ3 with
            | none => rw [hbo] at q2; exact q2.elim
            | some r =>
              rw [hbo] at q2
              have out : ∀ {σ4 H4} {ρ4 : Rho} {y : List (M × V)}, Sta (X.mo T) ρ4 σ4 H4 (y ++ (ex ++ fr)) → Sta (X.mo T) ρ4 σ4 H4 (y ++ fr) := fun {σ4 H4 ρ4 y} h => by
                refine h.head fun l q => ?_
                have : Live (X.mo T) H4 (ex ++ (y ++ fr ++ l)) := q.perm (by
                  rw [← List.append_assoc, ← List.append_assoc, ← List.append_assoc]
                  exact ((List.perm_append_comm (l₁ := y) (l₂ := ex)).append_right _).append_right _)
                exact this.drops
              cases r with
              | nx ρ4 => exact fun σ4 H4 s4 m4 t4 => ⟨m12.trans (m3.trans m4), ρ4, t4, AfterS.mono q2 (sm3.trans s4) (m3.trans m4)⟩
              | ct ρ4 => exact fun σ4 H4 s4 m4 t4 => ⟨m12.trans (m3.trans m4), ρ4, t4, AfterS.mono q2 (sm3.trans s4) (m3.trans m4)⟩
              | br ρ4 => exact fun σ4 H4 s4 m4 t4 => q2 σ4 H4 (sm3.trans s4) (m3.trans m4) (out (y := []) t4)
              | rt v ρ4 => exact fun v' σ4 H4 s4 m4 t4 => q2 v' σ4 H4 (sm3.trans s4) (m3.trans m4) (out (y := [(v, v')]) t4)
              | ex x ρ4 => exact fun σ4 c d H4 s4 r m4 t4 => q2 σ4 c d H4 (sm3.trans s4) r (m3.trans m4) (out (y := []) t4)
        · refine .inl ⟨w.st i H2 _ m12 lv2 (by omega), ?_⟩
          rw [List.drop_eq_nil_of_le (by omega), forL] at q2
          exact q2 σ2 H2 .refl .refl ⟨l, env, (lv2.drops).perm List.perm_append_comm⟩
end
end Iv
set_option linter.all false
set_option maxRecDepth 100000
set_option maxHeartbeats 1000000
/-! Iv12k: a dict is walked: locked by its object. -/
namespace Iv
open PySem PySem.Spec PyProof.Rows L2
section
variable {B : Mo} {Z : Addr → Prop} {H : Hp} {b : Addr} {od : Obj} {ks : List (Key × V)}
theorem lk_ne {a : Addr} {o : HO} (e : H b = some (.dK ks)) (h : H a = some o) (n : ∀ q, o ≠ .dK q) : upd H b (.frz od (.dK ks)) a = some o := by
  have : a ≠ b := fun q => by
    rw [q, e] at h
    cases h
    exact n _ rfl
  rw [upd_ne this]
  exact h
theorem lk_rd {a : Addr} {u : HO} (e : H b = some (.dK ks)) (h : Rd H a u) : Rd (upd H b (.frz od (.dK ks))) a u := by
  by_cases q : a = b
  · subst q
    rcases h with h | ⟨o, h⟩
    · rw [e] at h
      cases h
      exact .inr ⟨od, upd_same⟩
    · rw [e] at h
      cases h
  · rcases h with h | ⟨o, h⟩
    · exact .inl (by rw [upd_ne q]; exact h)
    · exact .inr ⟨o, by rw [upd_ne q]; exact h⟩
mutual
theorem RD.lock (e : H b = some (.dK ks)) : ∀ {d : D} {v : V}, RD B Z H d v → RD B Z (upd H b (.frz od (.dK ks))) d v
  | _, _, .non => .non
  | _, _, .bl b => .bl b
  | _, _, .int i => .int i
  | _, _, .str x => .str x
  | _, _, .tup h p r => .tup (h.elim (fun h => .inl (lk_rd e h)) .inr) (fun n => (p n).elim (fun ⟨o, u, q, h⟩ => .inl ⟨o, u, q, lk_ne e h fun _ z => nomatch z⟩) .inr) (RDs.lock e r)
  | _, _, .lst z h r => .lst z (lk_rd e h) (RDs.lock e r)
  | _, _, .dic z h r => .dic z (lk_rd e h) (RKs.lock e r)
  | _, _, .klst h r => .klst h (RDs.lock e r)
  | _, _, .kdic h o r => .kdic h o (RKs.lock e r)
theorem RDs.lock (e : H b = some (.dK ks)) : ∀ {ds : List D} {vs : List V}, RDs B Z H ds vs → RDs B Z (upd H b (.frz od (.dK ks))) ds vs
  | _, _, .nil => .nil
  | _, _, .cons r rs => .cons (RD.lock e r) (RDs.lock e rs)
theorem RKs.lock (e : H b = some (.dK ks)) : ∀ {ds : List (D × D)} {vs : List (Key × V)}, RKs B Z H ds vs → RKs B Z (upd H b (.frz od (.dK ks))) ds vs
  | _, _, .nil => .nil
  | _, _, .cons k r rs => .cons k (RD.lock e r) (RKs.lock e rs)
end
theorem RX.lock {x : XV} {cls : Value} {d : Option Addr} (e : H b = some (.dK ks)) (h : RX B x cls d H) : RX B x cls d (upd H b (.frz od (.dK ks))) := by
  refine ⟨h.mem, h.cls, ?_⟩
  rcases h.fld with q | ⟨dd, f, v, e1, q, r⟩
  · exact .inl q
  · exact .inr ⟨dd, f, v, e1, lk_ne e q (fun _ z => nomatch z), r⟩
mutual
theorem RM.lock (e : H b = some (.dK ks)) : ∀ {m : M} {v : V} {fp : List Addr}, RM B Z H m v fp → b ∉ fp → RM B Z (upd H b (.frz od (.dK ks))) m v fp
  | _, _, _, .imm r, _ => .imm (r.lock e)
  | _, _, _, .lst h r, q => .lst (lk_ne e h fun _ z => nomatch z) (r.lock e)
  | _, _, _, .dic h r, q => .dic (by rw [upd_ne (fun z => q (by simp [z]))]; exact h) (r.lock e)
  | _, _, _, .ins h c r, q => .ins (lk_ne e h fun _ z => nomatch z) c (RF.lock e r fun z => q (List.mem_cons_of_mem _ z))
  | _, _, _, .exc h r, _ => .exc (lk_ne e h fun _ z => nomatch z) (r.lock e)
  | _, _, _, .thk t r h, _ => .thk t (r.lock e) (lk_ne e h fun _ z => nomatch z)
theorem RF.lock (e : H b = some (.dK ks)) : ∀ {fs : List (Nat × M)} {fvs : List (Str × V)} {fp : List Addr}, RF B Z H fs fvs fp → b ∉ fp → RF B Z (upd H b (.frz od (.dK ks))) fs fvs fp
  | _, _, _, .nil, _ => .nil
  | _, _, _, .cons k r rs, q => .cons k (RM.lock e r fun z => q (List.mem_append_left _ z)) (RF.lock e rs fun z => q (List.mem_append_right _ z))
end
theorem RMs.lock (e : H b = some (.dK ks)) : ∀ {l : List (M × V)} {fp : List Addr}, RMs B Z H l fp → b ∉ fp → RMs B Z (upd H b (.frz od (.dK ks))) l fp
  | _, _, .nil, _ => .nil
  | _, _, .cons r rs, q => .cons (r.lock e fun z => q (List.mem_append_left _ z)) (RMs.lock e rs fun z => q (List.mem_append_right _ z))
/-- a dict that is frozen may be locked -/
theorem Lv.lock {l : List (M × V)} {fp : List Addr} (h : Lv B Z H l fp) (e : H b = some (.dK ks)) (z : Z b) : Lv B Z (upd H b (.frz od (.dK ks))) l fp := by
  refine ⟨h.rep.lock e fun q => h.nz b q z, h.nd, h.nz, ⟨fun a za => ?_, fun p hp => ?_⟩⟩
  · obtain ⟨o, ea, n⟩ := h.zs.at_ a za
    by_cases q : a = b
    · subst q
      exact ⟨_, upd_same, fun ps w => nomatch w⟩
    · exact ⟨o, by rw [upd_ne q]; exact ea, n⟩
  · obtain ⟨ps, e1, e2, e3⟩ := h.zs.tb p hp
    refine ⟨ps, lk_ne e e1 (fun _ w => nomatch w), e2, fun pos cv hc => ?_⟩
    obtain ⟨c, e4, e5⟩ := e3 pos cv hc
    exact ⟨c, e4, lk_ne e e5 fun _ w => by unfold LamX.CodeO at w; cases w⟩
theorem mono_lock (e : H b = some (.dK ks)) : Mono H (upd H b (.frz od (.dK ks))) := fun a o h n => by
  by_cases q : a = b
  · subst q
    rw [e] at h
    cases h
    exact ⟨_, upd_same, .inr ⟨od, ks, rfl⟩⟩
  · exact ⟨o, by rw [upd_ne q]; exact h, .refl o⟩
theorem RKs.keys : ∀ {ps : List (D × D)} {kvs : List (Key × V)}, RKs B Z H ps kvs → ps.length = kvs.length ∧ ∀ (i : Nat) (d : D), (ps.map fun p => p.1)[i]? = some d → ∃ (k : Key) (v : V), kvs[i]? = some (k, v) ∧ keyD d = some k
  | _, _, .nil => ⟨rfl, fun i d h => by simp at h⟩
  | _, _, .cons k r rs => by
    obtain ⟨h1, h2⟩ := RKs.keys rs
    refine ⟨by simp [h1], fun i d h => ?_⟩
    cases i with
    | zero =>
      simp at h
      subst h
      exact ⟨_, _, rfl, k⟩
    | succ i => exact h2 i d (by simpa using h)
theorem rd_key {d : D} {k : Key} (h : keyD d = some k) : RD B Z H d (kV k) := by
  cases d <;> simp [keyD] at h
  · subst h; exact .int _
  · subst h; exact .str _
/-- the keys of a dict of the module's own -/
def ItM (kvs : List (Key × V)) : L2.It := ⟨fun i _ => i < kvs.length, fun i H x H' => H' = H ∧ ∃ k v, kvs[i]? = some (k, v) ∧ x = kV k, fun i _ => kvs.length ≤ i⟩
theorem walks_keys {ps : List (D × D)} {kvs : List (Key × V)} {a : Addr} {o : Obj} {Hs : Hp} (hs : Hs a = some (.frz o (.dK kvs))) (hl : ps.length = kvs.length) (hk : ∀ (i : Nat) (d : D), (ps.map fun p => p.1)[i]? = some d → ∃ (k : Key) (v : V), kvs[i]? = some (k, v) ∧ keyD d = some k) : Walks B (Itk a o kvs) (ps.map fun p => p.1) [] Hs := by
  have at_ : ∀ {H : Hp}, Mono Hs H → H a = some (.frz o (.dK kvs)) := fun {H} m => by
    obtain ⟨o', e, ev⟩ := m a _ hs fun _ z => nomatch z
    have ev : o' = _ := ev
    rw [e, ev]
  refine ⟨fun i H l m _ hi => ⟨at_ m, by rw [← hl]; simpa using hi⟩, fun i H l x H' d m lv hd y => ?_, fun i H l m _ hi => ⟨at_ m, by rw [← hl]; simpa using hi⟩⟩
  obtain ⟨rfl, k, v, h1, rfl⟩ := y
  obtain ⟨k', v', h2, h3⟩ := hk i d hd
  rw [h1] at h2
  cases h2
  obtain ⟨Z, fp, lv⟩ := lv
  exact ⟨.refl, Z, fp, .cons (.imm (rd_key h3)) lv.rep, lv.nd, lv.nz, lv.zs⟩
theorem walks_keysM {ps : List (D × D)} {kvs : List (Key × V)} {Hs : Hp} (hl : ps.length = kvs.length) (hk : ∀ (i : Nat) (d : D), (ps.map fun p => p.1)[i]? = some d → ∃ (k : Key) (v : V), kvs[i]? = some (k, v) ∧ keyD d = some k) : Walks B (ItM kvs) (ps.map fun p => p.1) [] Hs := by
  refine ⟨fun i H l m _ hi => (by rw [← hl]; simpa using hi : i < kvs.length), fun i H l x H' d m lv hd y => ?_, fun i H l m _ hi => (by rw [← hl]; simpa using hi : kvs.length ≤ i)⟩
  obtain ⟨rfl, k, v, h1, rfl⟩ := y
  obtain ⟨k', v', h2, h3⟩ := hk i d hd
  rw [h1] at h2
  cases h2
  obtain ⟨Z, fp, lv⟩ := lv
  exact ⟨.refl, Z, fp, .cons (.imm (rd_key h3)) lv.rep, lv.nd, lv.nz, lv.zs⟩
end
/-- a dict of the module's own, by its object -/
def KO (K : PySem.W.Frag) (P : Program) (w : World) (a : Addr) (kvs : List (Key × V)) (ep : Nat) : Prop := (a == sysModules) = false ∧ ∃ (o : Obj) (es : Array DictEntry) (vs : List (Key × Value)), K.lookup a = some o ∧ o.data = .dict es ep ∧ es.size = kvs.length ∧ KV kvs vs ∧ ∀ h : Heap, K.In h → h.DictAt (mixKind P w) a vs ep
theorem KD.ko {B : Mo} {a : Addr} {kvs : List (Key × V)} {h : Heap} (k : KD B a kvs) (s : (B.K.lookup a).isSome = true) (KX : B.K.In h) : ∃ ep, KO B.K B.P B.w a kvs ep := by
  obtain ⟨o, ho⟩ := Option.isSome_iff_exists.mp s
  obtain ⟨k1, _, vs, kv, f⟩ := k
  obtain ⟨o1, es, ep, g1, g2, g3, g4, g5, g6⟩ := f h KX
  have eo : o1 = o := by
    have := KX a o ho
    rw [this] at g1
    exact (Option.some.inj g1).symm
  subst eo
  have l1 := g5.length
  have l2 : kvs.length = vs.length := Paired.length kv
  refine ⟨ep, k1, o1, es, vs, ho, g3, by rw [Array.length_toList] at l1; omega, kv, fun h' KX' => ⟨o1, es, KX' a o1 ho, g2, g3, g4, g5, g6⟩⟩
section
variable {P : Program} {w : World} {K : PySem.W.Frag} {tg : Expr} {d : Addr} {ep : Nat}
theorem turn_keysM {kvs : List (Key × V)} (it : Addr) (ko : KO K P w d kvs ep) : Turn P w K tg (ItM kvs) [it] it (fun i h => h.IsKeyIter it d i kvs.length ep) where
  mem := by simp
  obj := fun i h st b hb => by
    obtain rfl : b = it := by simpa using hb
    obtain ⟨oi, e, c, q⟩ := st
    exact ⟨oi, e, fun v z => by rw [q] at z; cases z⟩
  keep := fun i h h' st k => st.at fun oi e => k it (by simp) oi e
  item := by
    intro X hP hw hK hc i pins s σ H E I hf st hg
    subst hP hw hK
    have hg : i < kvs.length := hg
    obtain ⟨f0, f1, f2, f3, f4, f5⟩ := hf it (by simp)
    obtain ⟨_, o, es, vs, ho, hdt, hsz, kv, hm⟩ := ko
    obtain ⟨⟨k, v⟩, hkv⟩ : ∃ p, kvs[i]? = some p := ⟨kvs[i], List.getElem?_eq_getElem hg⟩
    obtain ⟨u, hu, ru⟩ := kv_get kv hkv
    have hl : kvs.length = vs.length := Paired.length kv
    rw [hl] at st
    refine wpAny_pyNext_dict_item st (hm _ I.kIn) hu fun key h' hkey st' sb => ?_
    have I1 : Inv X pins σ H { s with heap := h' } := I.turned (t' := s.toks) (fun b ob hb e => (sb.2 b hb).trans e) f0 f1 f3 f4 f5
    obtain ⟨oi, e, c, q⟩ := id st'
    exact ⟨key, rfl, go_of (s := { s with heap := h' }) e c q (by decide) ⟨kV k, H, I1, relV_key hkey, ⟨rfl, k, v, hkv, rfl⟩, by rw [hl]; exact st', fun b hb => (hf b hb).1⟩⟩
  done := by
    intro X hP hw hK hc i pins s σ H E I hf st hg
    subst hP hw hK
    obtain ⟨f0, f1, f2, f3, f4, f5⟩ := hf it (by simp)
    obtain ⟨_, o, es, vs, ho, hdt, hsz, kv, hm⟩ := ko
    exact next_key_end (I.ok.hd hc) st (I.kIn _ _ ho) hdt hsz hg fun h' eb => ⟨rfl, I.turned (t' := s.toks) (fun b ob hb e => eb b ob hb e) f0 f1 f3 f4 f5⟩
  self := fun A i s Q E st h => wpAny_pyIter_keyiter st h
end
end Iv
set_option linter.all false
set_option maxRecDepth 100000
set_option maxHeartbeats 1000000
/-! Iv13: what is walked: lists, tuples, texts, ranges. -/
namespace Iv
open PySem PySem.Spec PyProof.Rows L2
section
variable {B : Mo} {A : Ask} {pr : List Nat} {sg : Sig} {cf : CallFn} {fu : Nat} {X : Cx} {T : Flds} {σ σ1 : L2.St} {fr : List (M × V)} {H H0 H1 : Hp} {ρ : Rho} {tg : Expr}
theorem _root_.L2.PI.imp {X : Cx} {tg e : Expr} {t t' : TI} (h : PI X tg e t) (i : ∀ σ H R, t' σ H R → t σ H R) : PI X tg e t' := ⟨fun pins s σ H R I q => h.run pins s σ H R I (i σ H R q)⟩
def iAny (B : Mo) (tl : TE) : TI := fun σ H R => tl σ H fun x H1 => (∃ a, x = .ref a ∧ (∃ xs, SqL B.K H1 a xs) ∧ R (Itl B.K a) H1) ∨ (∃ a, x = .ref a ∧ (∃ xs, SqT B.K H1 a xs) ∧ R (Itt B.K a) H1) ∨ (∃ y, x = .str y ∧ R (Its y) H1) ∨
  (∃ a kvs, x = .ref a ∧ H1 a = some (.dK kvs) ∧ ∀ o, R (Itk a o kvs) (upd H1 a (.frz o (.dK kvs)))) ∨ (∃ a o kvs, x = .ref a ∧ H1 a = some (.frz o (.dK kvs)) ∧ R (Itk a o kvs) H1) ∨ ∃ a kvs, x = .ref a ∧ KD B a kvs ∧ (B.K.lookup a).isSome = true ∧ R (ItM kvs) H1
theorem pi_any {l : Expr} {tl : TE} (hl : PE X l tl) : PI X tg l (iAny (X.mo T) tl) := by
  refine ⟨fun pins s σ H R I h => ?_⟩
  refine thn (hl.run pins s σ H _ I h) fun v s1 ⟨x, H1, I1, r1, q1⟩ => ?_
  have frz : ∀ {H2 : Hp} {a : Addr} {o : Obj} {kvs : List (Key × V)}, Inv X pins σ H2 s1 → H2 a = some (.frz o (.dK kvs)) → R (Itk a o kvs) H2 → wpAny (model X.prog X.w) X.A (pyIter (.ref a)) (PIE X pins σ tg R) X.xe s1 := fun {H2 a o kvs} I2 hd q => by
    obtain ⟨hs, hgd, hx, es, ep, vs, hdt, hsz, kv, hm⟩ := I2.frzK hd
    refine iter_keys hs hgd hx hdt (pi_one (tk := s1.toks) I2 _ (turn_keys _ hdt) ⟨_, Heap.get?_push_size _ rfl, rfl, ?_⟩ q)
    rw [hsz] <;> rfl
  rcases q1 with ⟨a, e, ⟨xs, hq⟩, q⟩ | ⟨a, e, ⟨xs, hq⟩, q⟩ | ⟨y, e, q⟩ | ⟨a, kvs, e, hq, q⟩ | ⟨a, o, kvs, e, hq, q⟩ | ⟨a, kvs, e, kd, ks, q⟩
  · subst e
    cases r1
    obtain ⟨its, rv, p, hz⟩ := I1.list hq
    refine wpAny_pyIter_list p.isList ?_
    refine ⟨s1.heap.objs.size, [s1.heap.objs.size], _, _, H1, rfl, I1.kept (t' := s1.toks) fun b o e => Heap.get?_push_of_some _ e, turn_list a _, ⟨_, Heap.get?_push_size _ rfl, rfl, rfl⟩, fun b hb => ?_, q⟩
    have e : b = s1.heap.objs.size := by simpa using hb
    subst e
    exact I1.fpOk (Nat.le_refl _) (I1.hok.fresh (Nat.le_refl _))
  · subst e
    cases r1
    obtain ⟨its, rv, p, hz⟩ := I1.tuple hq
    refine wpAny_pyIter_tuple (show s1.heap.IsTuple a its.toArray from p) ?_
    refine ⟨s1.heap.objs.size, [s1.heap.objs.size], _, _, H1, rfl, I1.kept (t' := s1.toks) fun b o e => Heap.get?_push_of_some _ e, turn_tuple a _, ⟨_, Heap.get?_push_size _ rfl, rfl, rfl⟩, fun b hb => ?_, q⟩
    have e : b = s1.heap.objs.size := by simpa using hb
    subst e
    exact I1.fpOk (Nat.le_refl _) (I1.hok.fresh (Nat.le_refl _))
  · subst e
    obtain ⟨t, rfl⟩ := r1
    cases ha : y.cps.all (· < 128)
    · exact wpAny_pyIter_wide ha (pi_one (tk := s1.toks) I1 _ (turn_str _ y t "str_iterator" (.inr rfl)) ⟨_, Heap.get?_push_size _ rfl, rfl, rfl⟩ q)
    · exact wpAny_pyIter_ascii ha (pi_one (tk := s1.toks) I1 _ (turn_str _ y t "str_ascii_iterator" (.inl rfl)) ⟨_, Heap.get?_push_size _ rfl, rfl, rfl⟩ q)
  · subst e
    cases r1
    obtain ⟨od, I2⟩ := I1.lock hq trivial
    exact frz I2 upd_same (q od)
  · subst e
    cases r1
    exact frz I1 hq q
  · subst e
    cases r1
    obtain ⟨ep, ko⟩ := KD.ko (B := X.mo T) kd ks I1.kIn
    obtain ⟨hs, o, es, vs, ho, hdt, hsz, kv, hm⟩ := id ko
    obtain ⟨o', es', g1, g2, g3, _⟩ := hm _ I1.kIn
    have e1 := I1.kIn _ _ ho
    rw [g1] at e1
    cases e1
    refine iter_keys hs g1 g2 hdt (pi_one (tk := s1.toks) I1 _ (turn_keysM _ ko) ⟨_, Heap.get?_push_size _ rfl, rfl, ?_⟩ q)
    rw [hsz] <;> rfl
/-- the head of what lives, by Z -/
theorem Live.hd {d : PyData} {v : V} {l : List (M × V)} (h : Live B H ((.imm d, v) :: l)) : ∃ Z fp, RD B Z H d v ∧ Lv B Z H ((.imm d, v) :: l) fp := by
  obtain ⟨Z, fp, lv⟩ := h
  obtain ⟨fq, r⟩ := lv.rep.mem (m := .imm d) (v := v) List.mem_cons_self
  cases r with
  | imm r => exact ⟨Z, fp, r, lv⟩
theorem Lv.imm1 {Z : Addr → Prop} {l : List (M × V)} {fp : List Addr} {d : PyData} {v : V} (lv : Lv B Z H l fp) (r : RD B Z H d v) : Lv B Z H ((.imm d, v) :: l) fp := ⟨.cons (.imm r) lv.rep, lv.nd, lv.nz, lv.zs⟩
theorem walks_list {ds : List PyData} {a : Addr} {Hs : Hp} : Walks B (Itl B.K a) ds [(.imm (.list ds), .ref a)] Hs := by
  have key : ∀ {H : Hp} {l : List (M × V)}, Live B H ([(.imm (.list ds), .ref a)] ++ l) → ∃ Z fp vs, SqL B.K H a vs ∧ RDs B Z H ds vs ∧ Lv B Z H ((.imm (.list ds), .ref a) :: l) fp := fun {H l} h => by
    obtain ⟨Z, fp, r, lv⟩ := Live.hd h
    cases r with
    | lst z h r => exact ⟨Z, fp, _, .inl h, r, lv⟩
    | klst h r => exact ⟨Z, fp, _, h.sq, r, lv⟩
  refine ⟨fun i H l _ h hi => ?_, fun i H l x H' d _ h hd y => ?_, fun i H l _ h hi => ?_⟩
  · obtain ⟨Z, fp, vs, hq, r, lv⟩ := key h
    obtain ⟨v, hv, _⟩ := r.get (List.getElem?_eq_getElem hi)
    exact ⟨vs, v, hq, hv⟩
  · obtain ⟨Z, fp, vs, hq, r, lv⟩ := key h
    obtain ⟨rfl, y⟩ := y
    obtain ⟨v, hv, rv⟩ := r.get hd
    have := y vs hq
    rw [hv] at this; cases this
    exact ⟨.refl, Z, fp, lv.imm1 rv⟩
  · obtain ⟨Z, fp, vs, hq, r, lv⟩ := key h
    exact ⟨vs, hq, by rw [← r.length]; exact hi⟩
theorem walks_tuple {ds : List PyData} {a : Addr} {Hs : Hp} : Walks B (Itt B.K a) ds [(.imm (.tuple ds), .ref a)] Hs := by
  have key : ∀ {H : Hp} {l : List (M × V)}, Live B H ([(.imm (.tuple ds), .ref a)] ++ l) → ∃ Z fp vs, SqT B.K H a vs ∧ RDs B Z H ds vs ∧ Lv B Z H ((.imm (.tuple ds), .ref a) :: l) fp := fun {H l} h => by
    obtain ⟨Z, fp, r, lv⟩ := Live.hd h
    cases r with
    | tup h _ r => exact ⟨Z, fp, _, h, r, lv⟩
  refine ⟨fun i H l _ h hi => ?_, fun i H l x H' d _ h hd y => ?_, fun i H l _ h hi => ?_⟩
  · obtain ⟨Z, fp, vs, hq, r, lv⟩ := key h
    obtain ⟨v, hv, _⟩ := r.get (List.getElem?_eq_getElem hi)
    exact ⟨vs, v, hq, hv⟩
  · obtain ⟨Z, fp, vs, hq, r, lv⟩ := key h
    obtain ⟨rfl, y⟩ := y
    obtain ⟨v, hv, rv⟩ := r.get hd
    have := y vs hq
    rw [hv] at this; cases this
    exact ⟨.refl, Z, fp, lv.imm1 rv⟩
  · obtain ⟨Z, fp, vs, hq, r, lv⟩ := key h
    exact ⟨vs, hq, by rw [← r.length]; exact hi⟩
theorem walks_str {y : Str} {Hs : Hp} : Walks B (Its y) (y.cps.toList.map fun c => .str ⟨#[c]⟩) [] Hs := by
  refine ⟨fun i H l _ h hi => ?_, fun i H l x H' d _ h hd y => ?_, fun i H l _ h hi => ?_⟩
  · show i < y.cps.size
    simpa using hi
  · obtain ⟨rfl, c, hc, rfl⟩ := y
    obtain ⟨Z, fp, lv⟩ := h
    have : d = .str ⟨#[c]⟩ := by
      simp at hd
      obtain ⟨c', h1, h2⟩ := hd
      rw [hc] at h1; cases h1
      exact h2.symm
    subst this
    exact ⟨.refl, Z, fp, lv.imm1 (.str _)⟩
  · show y.cps.size ≤ i
    simpa using hi
theorem walks_rng {lo : Int} {n : Nat} {Hs : Hp} : Walks B (Itr lo n) ((List.range n).map fun (k : Nat) => PyData.int (lo + (k : Int))) [] Hs := by
  refine ⟨fun i H l _ h hi => (by simpa using hi : i < n), fun i H l x H' d _ h hd y => ?_, fun i H l _ h hi => (by simpa using hi : n ≤ i)⟩
  obtain ⟨rfl, rfl⟩ := y
  obtain ⟨Z, fp, lv⟩ := h
  have : d = .int (lo + (i : Int)) := by
    rw [List.getElem?_map] at hd
    by_cases hi : i < n
    · rw [List.getElem?_range hi] at hd
      cases hd; rfl
    · rw [List.getElem?_eq_none (by simpa using hi)] at hd; cases hd
  subst this
  exact ⟨.refl, Z, fp, lv.imm1 (.int _)⟩
theorem enum_get {ds : List PyData} {i : Nat} {d : PyData} (h : (enumL ds)[i]? = some d) : ∃ x, ds[i]? = some x ∧ d = .tuple [.int (i : Int), x] := by
  unfold enumL at h
  rw [List.getElem?_map, List.getElem?_zipIdx] at h
  cases hx : ds[i]? with
  | none => rw [hx] at h; cases h
  | some x =>
    rw [hx] at h
    simp at h
    exact ⟨x, rfl, h.symm⟩
theorem enum_len (ds : List PyData) : (enumL ds).length = ds.length := by simp [enumL]
theorem zip_get {xs ys : List PyData} {i : Nat} {d : PyData} (h : (zipL xs ys)[i]? = some d) : ∃ x y, xs[i]? = some x ∧ ys[i]? = some y ∧ d = .tuple [x, y] := by
  unfold zipL at h
  rw [List.getElem?_map] at h
  obtain ⟨p, hp, rfl⟩ := Option.map_eq_some_iff.mp h
  obtain ⟨h1, h2⟩ := List.getElem?_zip_eq_some.mp hp
  exact ⟨p.1, p.2, h1, h2, rfl⟩
theorem live_new {l : List (M × V)} {Z : Addr → Prop} {fp : List Addr} {T : Addr} {vs : List V} {ds : List PyData} (lv : Lv B Z H l fp) (hT : H T = none) (r : RDs B Z H ds vs) (h2 : two ds = true := by rfl) : Live B (upd H T (.tup vs)) ((.imm (.tuple ds), .ref T) :: l) :=
  ⟨Z, _, lv.add (ext_upd hT) (.imm (.tup (.inl (.inl upd_same)) (fun n => by rw [h2] at n; cases n) (r.keep (kp_ext (ext_upd hT)) fun _ z => z))) .nil (fun _ h => nomatch h)⟩
theorem walks_enum {ds : List PyData} {a : Addr} {Hs : Hp} : Walks B (Ite B.K a) (enumL ds) [(.imm (.list ds), .ref a)] Hs := by
  have key : ∀ {H : Hp} {l : List (M × V)}, Live B H ([(.imm (.list ds), .ref a)] ++ l) → ∃ Z fp vs, SqL B.K H a vs ∧ RDs B Z H ds vs ∧ Lv B Z H ((.imm (.list ds), .ref a) :: l) fp := fun {H l} h => by
    obtain ⟨Z, fp, r, lv⟩ := Live.hd h
    cases r with
    | lst z h r => exact ⟨Z, fp, _, .inl h, r, lv⟩
    | klst h r => exact ⟨Z, fp, _, h.sq, r, lv⟩
  refine ⟨fun i H l _ h hi => ?_, fun i H l x H' d _ h hd y => ?_, fun i H l _ h hi => ?_⟩
  · obtain ⟨Z, fp, vs, hq, r, lv⟩ := key h
    rw [enum_len] at hi
    obtain ⟨v, hv, _⟩ := r.get (List.getElem?_eq_getElem hi)
    exact ⟨vs, v, hq, hv⟩
  · obtain ⟨Z, fp, vs, hq, r, lv⟩ := key h
    obtain ⟨T, x', rfl, hT, rfl, y⟩ := y
    obtain ⟨x0, hx0, rfl⟩ := enum_get hd
    obtain ⟨v, hv, rv⟩ := r.get hx0
    have := y vs hq
    rw [hv] at this; cases this
    exact ⟨.of_ext (ext_upd hT), live_new lv hT (.cons (.int _) (.cons rv .nil))⟩
  · obtain ⟨Z, fp, vs, hq, r, lv⟩ := key h
    rw [enum_len] at hi
    exact ⟨vs, hq, by rw [← r.length]; exact hi⟩
theorem AfterI.ofE {x : O M} {f : M → Rho → O (List PyData)} {R : L2.It → Hp → Prop} {Q : VK} (h : AfterI B A σ fr H0 R (O.bind x f)) (k : ∀ m ρ v H, AfterI B A σ fr H0 R (f m ρ) → Mono H0 H → Sta B ρ σ H ((m, v) :: fr) → Q v H) : After B A σ fr H0 Q x := by
  cases x with
  | none => exact h.elim
  | some r =>
    cases r with
    | ok m ρ => exact fun v H m' s => k m ρ v H h m' s
    | exc e ρ => exact h
theorem pi_val {e : Expr} {c : Ex} (he : SE (X.mo T) A sg cf X e c) : PI X tg e (tIt (X.mo T) A sg cf (.val c)) := by
  refine (pi_any (T := T) he.pe).imp fun σ H R ⟨ρ, fr, s, q⟩ => ⟨ρ, fr, s, ?_⟩
  rw [iter] at q
  refine AfterI.ofE q fun m ρ1 v H1 q1 m1 s1 => ?_
  cases hv : view m with
  | none => rw [hv] at q1; exact q1.elim
  | some d =>
    cases hd : itemsD d with
    | none => simp [hv, hd, AfterI] at q1
    | some ds =>
      simp only [hv, hd, Option.bind_some, Option.map_some] at q1
      have s2 : Sta (X.mo T) ρ1 σ H1 ((.imm d, v) :: fr) := s1.head fun l h => h.freeze hv
      obtain ⟨l, env, lv⟩ := id s2
      obtain ⟨Z, fp, r, lz⟩ := Live.hd (lv.perm List.perm_middle)
      cases d with
      | tuple xs =>
        cases hd
        cases r with
        | tup h _ r => exact .inr (.inl ⟨_, rfl, ⟨_, h⟩, q1 _ _ _ m1 walks_tuple s2⟩)
      | list xs =>
        cases hd
        cases r with
        | lst z h r => exact .inl ⟨_, rfl, ⟨_, .inl h⟩, q1 _ _ _ m1 walks_list s2⟩
        | klst h r => exact .inl ⟨_, rfl, ⟨_, h.sq⟩, q1 _ _ _ m1 walks_list s2⟩
      | str x =>
        cases hd
        cases r with
        | str x => exact .inr (.inr (.inl ⟨x, rfl, q1 _ _ _ m1 walks_str s2.drop⟩))
      | dict ps =>
        cases hd
        cases r with
        | @dic a kvs _ z h r =>
          obtain ⟨k1, k2⟩ := r.keys
          rcases h with h | ⟨o, h⟩
          · refine .inr (.inr (.inr (.inl ⟨a, kvs, rfl, h, fun o => q1 _ _ _ (m1.trans (mono_lock h)) (walks_keys upd_same k1 k2) ?_⟩)))
            exact ⟨l, env, Live.drop ⟨Z, fp, lz.lock h z⟩⟩
          · exact .inr (.inr (.inr (.inr (.inl ⟨a, o, kvs, rfl, h, q1 _ _ _ m1 (walks_keys h k1 k2) s2.drop⟩))))
        | kdic kd ks r =>
          obtain ⟨k1, k2⟩ := r.keys
          exact .inr (.inr (.inr (.inr (.inr ⟨_, _, rfl, kd, ks, q1 _ _ _ m1 (walks_keysM k1 k2) s2.drop⟩))))
      | _ => simp [itemsD] at hd
theorem pi_rng {a : Expr} {c : Ex} {p pos : Pos} (hg : Gl X "range") (hm : X.mg "range" = none) (ha : SE B A sg cf X a c) (hs : notStar a = true) : PI X tg (.Call (.Name "range" p) [a] [] pos) (tIt B A sg cf (.rng c)) := by
  refine (pi_range1 hg hm (pa_cons ha.pe pa_nil (star_cons hs)) (by rw [star_cons hs]; rfl)).imp fun σ H R ⟨ρ, fr, s, q⟩ => ⟨ρ, fr, s, ?_⟩
  rw [iter] at q
  refine AfterI.ofE q fun m ρ1 v H1 q1 m1 s1 => ?_
  cases hv : intOf m with
  | none => rw [hv] at q1; exact q1.elim
  | some j =>
    have hm : m = .imm (.int j) := by
      cases m with
      | imm d => cases d <;> simp [intOf] at hv; subst hv; rfl
      | _ => simp [intOf] at hv
    subst hm
    simp only [hv, Option.bind_some] at q1
    split at q1
    · rename_i hj
      cases imm_int s1
      refine ⟨j, rfl, hj.1, hj.2, ?_⟩
      have := walks_rng (B := B) (lo := 0) (n := j.toNat) (Hs := H1)
      have e : rngL 0 j = (List.range j.toNat).map fun (k : Nat) => PyData.int (0 + (k : Int)) := by unfold rngL; rw [Int.sub_zero]
      rw [e] at q1
      exact q1 _ _ _ m1 this s1.drop
    · exact q1.elim
theorem pi_rng2 {a b : Expr} {c c' : Ex} {p pos : Pos} (hg : Gl X "range") (hm : X.mg "range" = none) (ha : SE B A sg cf X a c) (hb : SE B A sg cf X b c') (hs : notStar a = true) (hs' : notStar b = true) : PI X tg (.Call (.Name "range" p) [a, b] [] pos) (tIt B A sg cf (.rng2 c c')) := by
  refine (pi_range2 hg hm (pa_cons ha.pe (pa_cons hb.pe pa_nil (star_cons hs')) (star_cons hs)) (by rw [star_cons hs, star_cons hs']; rfl) (by rw [star_cons hs']; rfl)).imp fun σ H R ⟨ρ, fr, s, q⟩ => ⟨ρ, fr, s, ?_⟩
  rw [iter] at q
  refine AfterI.ofE q fun m ρ1 v H1 q1 m1 s1 => ⟨ρ1, _, s1, ?_⟩
  cases hx : eval sg cf c' ρ1 with
  | none => rw [hx] at q1; exact q1.elim
  | some r =>
    rw [hx] at q1
    cases r with
    | exc x ρ2 => exact (ExcA.drop q1).mono m1
    | ok n ρ2 =>
      refine fun w H2 m2 s2 => ?_
      simp only [O.bind] at q1
      cases hv : intOf m with
      | none => rw [hv] at q1; exact q1.elim
      | some i =>
        cases hw : intOf n with
        | none => rw [hv, hw] at q1; exact q1.elim
        | some j =>
          have hm : m = .imm (.int i) := by
            cases m with
            | imm d => cases d <;> simp [intOf] at hv; subst hv; rfl
            | _ => simp [intOf] at hv
          have hn : n = .imm (.int j) := by
            cases n with
            | imm d => cases d <;> simp [intOf] at hw; subst hw; rfl
            | _ => simp [intOf] at hw
          subst hm hn
          simp only [hv, hw, Option.bind_some] at q1
          split at q1
          · rename_i hj
            cases imm_int s2
            cases imm_int s2.drop
            exact ⟨i, j, rfl, hj, q1 _ _ _ (m1.trans m2) walks_rng s2.drop.drop⟩
          · exact q1.elim
theorem AfterI.ofD {x : O (List PyData)} {f : List PyData → Rho → O (List PyData)} {R : L2.It → Hp → Prop} {Q : List V → Hp → Prop} (h : AfterI B A σ fr H0 R (O.bind x f)) (k : ∀ ds ρ vs H, AfterI B A σ fr H0 R (f ds ρ) → Mono H0 H → ds.length = vs.length → Sta B ρ σ H (frDs ds vs fr) → Q vs H) : AfterD B A σ fr H0 Q x := by
  cases x with
  | none => exact h.elim
  | some r =>
    cases r with
    | ok ds ρ => exact fun vs H m' hl s => k ds ρ vs H h m' hl.symm s
    | exc e ρ => exact h
theorem zip_len (xs ys : List PyData) : (zipL xs ys).length = min xs.length ys.length := by simp [zipL]
theorem list_of {Z : Addr → Prop} {ds : List PyData} {v : V} (r : RD B Z H (.list ds) v) : ∃ a vs, v = .ref a ∧ SqL B.K H a vs ∧ RDs B Z H ds vs := by
  cases r with
  | lst z h r => exact ⟨_, _, rfl, .inl h, r⟩
  | klst h r => exact ⟨_, _, rfl, h.sq, r⟩
theorem tuple_of {Z : Addr → Prop} {ds : List PyData} {v : V} (r : RD B Z H (.tuple ds) v) : ∃ a vs, v = .ref a ∧ SqT B.K H a vs ∧ RDs B Z H ds vs := by
  cases r with
  | tup h _ r => exact ⟨_, _, rfl, h, r⟩
theorem two_of {d1 d2 : PyData} {v1 v2 : V} {l : List (M × V)} (h : Live B H ([(.imm d2, v2), (.imm d1, v1)] ++ l)) : ∃ Z fp, RD B Z H d1 v1 ∧ RD B Z H d2 v2 ∧ Lv B Z H ([(.imm d2, v2), (.imm d1, v1)] ++ l) fp := by
  obtain ⟨Z, fp, lv⟩ := h
  obtain ⟨f1, r1⟩ := lv.rep.mem (m := .imm d1) (v := v1) (by simp)
  obtain ⟨f2, r2⟩ := lv.rep.mem (m := .imm d2) (v := v2) (by simp)
  cases r1 with
  | imm r1 =>
    cases r2 with
    | imm r2 => exact ⟨Z, fp, r1, r2, lv⟩
theorem walks_zipL {xs ys : List PyData} {a b : Addr} (h2 : (zipL xs ys).all twoT = true) {Hs : Hp} : Walks B (Itz B.K a b) (zipL xs ys) [(.imm (.list ys), .ref b), (.imm (.list xs), .ref a)] Hs := by
  refine ⟨fun i H l _ h hi => ?_, fun i H l x H' d _ h hd y => ?_, fun i H l _ h hi => ?_⟩
  · obtain ⟨Z, fp, r1, r2, lv⟩ := two_of h
    obtain ⟨_, vs, e1, q1, s1⟩ := list_of r1
    obtain ⟨_, ws, e2, q2, s2⟩ := list_of r2
    cases e1; cases e2
    rw [zip_len] at hi
    obtain ⟨v, hv, _⟩ := s1.get (List.getElem?_eq_getElem (show i < xs.length by omega))
    obtain ⟨w, hw, _⟩ := s2.get (List.getElem?_eq_getElem (show i < ys.length by omega))
    exact ⟨vs, ws, v, w, q1, q2, hv, hw⟩
  · obtain ⟨Z, fp, r1, r2, lv⟩ := two_of h
    obtain ⟨_, vs, e1, q1, s1⟩ := list_of r1
    obtain ⟨_, ws, e2, q2, s2⟩ := list_of r2
    cases e1; cases e2
    obtain ⟨T, x', y', rfl, hT, rfl, f1, f2⟩ := y
    obtain ⟨x0, y0, hx0, hy0, rfl⟩ := zip_get hd
    obtain ⟨v, hv, rv⟩ := s1.get hx0
    obtain ⟨w, hw, rw'⟩ := s2.get hy0
    have g1 := f1 vs q1
    have g2 := f2 ws q2
    rw [hv] at g1; cases g1
    rw [hw] at g2; cases g2
    exact ⟨.of_ext (ext_upd hT), live_new lv hT (.cons rv (.cons rw' .nil)) (List.all_eq_true.mp h2 _ (List.mem_of_getElem? hd))⟩
  · obtain ⟨Z, fp, r1, r2, lv⟩ := two_of h
    obtain ⟨_, vs, e1, q1, s1⟩ := list_of r1
    obtain ⟨_, ws, e2, q2, s2⟩ := list_of r2
    cases e1; cases e2
    rw [zip_len] at hi
    have l1 := s1.length
    have l2 := s2.length
    exact ⟨vs, ws, q1, q2, by omega⟩
theorem walks_zipT {xs ys : List PyData} {a b : Addr} (h2 : (zipL xs ys).all twoT = true) {Hs : Hp} : Walks B (RZ.ItzT B.K a b) (zipL xs ys) [(.imm (.tuple ys), .ref b), (.imm (.tuple xs), .ref a)] Hs := by
  refine ⟨fun i H l _ h hi => ?_, fun i H l x H' d _ h hd y => ?_, fun i H l _ h hi => ?_⟩
  · obtain ⟨Z, fp, r1, r2, lv⟩ := two_of h
    obtain ⟨_, vs, e1, q1, s1⟩ := tuple_of r1
    obtain ⟨_, ws, e2, q2, s2⟩ := tuple_of r2
    cases e1; cases e2
    rw [zip_len] at hi
    obtain ⟨v, hv, _⟩ := s1.get (List.getElem?_eq_getElem (show i < xs.length by omega))
    obtain ⟨w, hw, _⟩ := s2.get (List.getElem?_eq_getElem (show i < ys.length by omega))
    exact ⟨vs, ws, v, w, q1, q2, hv, hw⟩
  · obtain ⟨Z, fp, r1, r2, lv⟩ := two_of h
    obtain ⟨_, vs, e1, q1, s1⟩ := tuple_of r1
    obtain ⟨_, ws, e2, q2, s2⟩ := tuple_of r2
    cases e1; cases e2
    obtain ⟨T, x', y', rfl, hT, rfl, f1, f2⟩ := y
    obtain ⟨x0, y0, hx0, hy0, rfl⟩ := zip_get hd
    obtain ⟨v, hv, rv⟩ := s1.get hx0
    obtain ⟨w, hw, rw'⟩ := s2.get hy0
    have g1 := f1 vs q1
    have g2 := f2 ws q2
    rw [hv] at g1; cases g1
    rw [hw] at g2; cases g2
    exact ⟨.of_ext (ext_upd hT), live_new lv hT (.cons rv (.cons rw' .nil)) (List.all_eq_true.mp h2 _ (List.mem_of_getElem? hd))⟩
  · obtain ⟨Z, fp, r1, r2, lv⟩ := two_of h
    obtain ⟨_, vs, e1, q1, s1⟩ := tuple_of r1
    obtain ⟨_, ws, e2, q2, s2⟩ := tuple_of r2
    cases e1; cases e2
    rw [zip_len] at hi
    have l1 := s1.length
    have l2 := s2.length
    exact ⟨vs, ws, q1, q2, by omega⟩
theorem pi_zp {a b : Expr} {c c' : Ex} {p pos tpos : Pos} {elts : List Expr} {kk : Nat} (hg : Gl X "zip") (hm : X.mg "zip" = none) (ha : SE (X.mo T) A sg cf X a c) (hb : SE (X.mo T) A sg cf X b c') (hs : notStar a = true) (hs2 : notStar b = true) : PI X (.Tuple elts kk tpos) (.Call (.Name "zip" p) [a, b] [] pos) (tIt (X.mo T) A sg cf (.zip [c, c'])) := by
  refine (RZ.pi_zipA hg hm (pa_ds (.cons ha (.cons hb .nil)) (by simp [hs, hs2])) (star_cons hs) (back_any (star_all (by simp [hs2])))).imp fun σ H R ⟨ρ, fr, s, q⟩ => ⟨ρ, fr, s, ?_⟩
  rw [iter] at q
  refine AfterI.ofD q fun ds ρ1 vs H1 q1 m1 hl s1 => ?_
  match ds, vs, hl, q1, s1 with
  | [.list xs, .list ys], [v, w], _, q1, s1 =>
    have h2 : (zipL xs ys).all twoT = true := by
      cases h : (zipL xs ys).all twoT with
      | true => rfl
      | false => simp [zipD, h, AfterI] at q1
    have ez : zipD [.list xs, .list ys] = some (zipL xs ys) := if_pos h2
    rw [ez] at q1
    obtain ⟨l, env, lv⟩ := id s1
    obtain ⟨Z, fp, r1, r2, _⟩ := two_of (lv.perm (l' := [(.imm (.list ys), w), (.imm (.list xs), v)] ++ (l ++ fr)) (by
      have e : frDs [.list xs, .list ys] [v, w] fr = [(.imm (.list ys), w), (.imm (.list xs), v)] ++ fr := rfl
      rw [e, ← List.append_assoc, ← List.append_assoc]
      exact List.perm_append_comm.append_right fr))
    obtain ⟨a, vs, rfl, k1, _⟩ := list_of r1
    obtain ⟨b, ws, rfl, k2, _⟩ := list_of r2
    exact ⟨a, b, vs, ws, rfl, .inl ⟨k1, k2, q1 _ _ _ m1 (walks_zipL h2) s1⟩⟩
  | [.tuple xs, .tuple ys], [v, w], _, q1, s1 =>
    have h2 : (zipL xs ys).all twoT = true := by
      cases h : (zipL xs ys).all twoT with
      | true => rfl
      | false => simp [zipD, h, AfterI] at q1
    have ez : zipD [.tuple xs, .tuple ys] = some (zipL xs ys) := if_pos h2
    rw [ez] at q1
    obtain ⟨l, env, lv⟩ := id s1
    obtain ⟨Z, fp, r1, r2, _⟩ := two_of (lv.perm (l' := [(.imm (.tuple ys), w), (.imm (.tuple xs), v)] ++ (l ++ fr)) (by
      have e : frDs [.tuple xs, .tuple ys] [v, w] fr = [(.imm (.tuple ys), w), (.imm (.tuple xs), v)] ++ fr := rfl
      rw [e, ← List.append_assoc, ← List.append_assoc]
      exact List.perm_append_comm.append_right fr))
    obtain ⟨a, vs, rfl, k1, _⟩ := tuple_of r1
    obtain ⟨b, ws, rfl, k2, _⟩ := tuple_of r2
    exact ⟨a, b, vs, ws, rfl, .inr ⟨k1, k2, q1 _ _ _ m1 (walks_zipT h2) s1⟩⟩
end
end Iv
set_option linter.all false
set_option maxRecDepth 100000
set_option maxHeartbeats 1000000
/-! Iv13e: enumerate of a tuple. -/
namespace Iv
open PySem PySem.Spec PyProof.Rows L2
open AutoSeq1 (wpAny_loadPart')
def tIter (l : Addr) : Obj := { cls := .type "tuple_iterator", data := .fields #[.ref l, .int 0 0] }
def tEnum (i : Addr) : Obj := { cls := .type "enumerate", data := .fields #[.none, .bool false, .ref i, rawInt 0, .none, .none] }
theorem meets_enumT (l : Addr) (items : Array Value) (n : Nat) (dct : Option Addr) (sl : Array (Option Value)) :
    Meets (Builtin.«enumerate.__new__» ⟨[.type "enumerate", .ref l], []⟩) (fun _ R s => s.heap.get? l = some { cls := .type "tuple", dict := dct, data := .seq items n, slots := sl } ∧
      R (.ok (.ret (.ref (s.heap.push (tIter l)).objs.size))) { s with heap := (s.heap.push (tIter l)).push (tEnum s.heap.objs.size) }) :=
  .of_wp fun prog w A R s h => by
    obtain ⟨hp, g, d, tk, os⟩ := s; obtain ⟨hl, h⟩ := h
    have hsub := sub_enumerate
    have hT : Heap.IsTuple (Shared.heap ⟨hp, g, d, tk, os⟩) l items := ⟨_, hl, rfl, n, rfl⟩
    wp_walk using wpAny_loadPart' hl
    refine wpAny_stack_any fun st => wpAny_pure ?_
    split
    · rename_i c _ _ _ _ _
      cases (c == Value.type "enumerate") <;> (wp_walk using wpAny_loadPart' hl, wpAny_pyIter_tuple hT; exact ⟨_, rfl, h⟩)
    · wp_walk using wpAny_loadPart' hl, wpAny_pyIter_tuple hT
      exact ⟨_, rfl, h⟩
section
variable {prog : Program} {w : World} {A : Around} {E : Value → Shared → Prop} {s : Shared}
theorem call_enumT {l : Addr} {items : Array Value} {Q : Value → Shared → Prop} (hL : s.heap.IsTuple l items)
    (h : ∀ h', IsEnum h' (s.heap.objs.size + 1) s.heap.objs.size 0 .none → h'.IsTupleIter s.heap.objs.size l 0 → h'.objs.size = s.heap.objs.size + 2 → (∀ b o, s.heap.get? b = some o → h'.get? b = some o) → Q (.ref (s.heap.objs.size + 1)) { s with heap := h' }) :
    wpAny (model prog w) A (call (.type "enumerate") [.ref l]) Q E s := by
  obtain ⟨⟨c, dct, dt, sl⟩, hl, hc, n, hd⟩ := hL
  cases hc; cases hd
  refine callType_new PySem.F.called_enumerate (by decide) (PySem.F.typeCall_enumerate_1 _) (PySem.F.newCall_enumerate_1 _) (fun obj => PySem.F.args_object_init_2 obj _) PySem.F.entry_enumerate_new (meets_enumT l items n dct sl) ⟨hl, ?_⟩
  have hz : (s.heap.push (tIter l)).objs.size = s.heap.objs.size + 1 := Heap.size_push ..
  show _ ∧ _
  rw [hz]
  have he : IsEnum ((s.heap.push (tIter l)).push (tEnum s.heap.objs.size)) (s.heap.objs.size + 1) s.heap.objs.size 0 .none := by
    have := Heap.get?_push_size (s.heap.push (tIter l)) (o := tEnum s.heap.objs.size) rfl
    rw [hz] at this; exact this
  exact ⟨⟨_, he, rfl⟩, h _ he ⟨_, Heap.get?_push_of_some _ (Heap.get?_push_size _ rfl), rfl, rfl⟩ (by rw [Heap.size_push, hz]) fun b o x => Heap.get?_push_of_some _ (Heap.get?_push_of_some _ x)⟩
theorem draws_tuple {it t : Addr} {items : Array Value} (hh : A.handled = none) (hne : t ≠ it) : Draws prog w A it [it, t] items.size (fun i x => items[i]? = some x) (fun i h => h.IsTupleIter it t i ∧ h.IsTuple t items) where
  live := fun i h st => by obtain ⟨⟨o, e, _⟩, _⟩ := st; exact ⟨o, e⟩
  frame := fun i h h' st k => ⟨st.1.at fun o e => k it (by simp) o e, let ⟨o, e, r⟩ := st.2; ⟨o, k t (by simp) o e, r⟩⟩
  item := fun i s Q E hi st hQ => by
    obtain ⟨x, hx⟩ : ∃ x, items[i]? = some x := ⟨_, Array.getElem?_eq_getElem hi⟩
    refine RZ.nextOf_tuple_item st.1 st.2 hx fun h' a b => hQ x h' s.toks hx ⟨a, let ⟨o, e, r⟩ := st.2; ⟨o, (b.2 t hne).trans e, r⟩⟩ b
  done := fun s Q E st hE => RZ.nextOf_tuple_end hh st.1 st.2 (Array.getElem?_eq_none (Nat.le_refl _)) hE
end
section
variable {prog : Program} {w : World} {A : Around}
theorem draws_end {it t : Addr} {items : Array Value} {i : Nat} (hh : A.handled = none) (hi : items.size ≤ i) : Draws prog w A it [it, t] i (fun _ _ => True) (fun j h => j = i ∧ h.IsTupleIter it t i ∧ h.IsTuple t items) where
  live := fun j h st => by obtain ⟨_, ⟨o, e, _⟩, _⟩ := st; exact ⟨o, e⟩
  frame := fun j h h' st k => ⟨st.1, st.2.1.at fun o e => k it (by simp) o e, let ⟨o, e, r⟩ := st.2.2; ⟨o, k t (by simp) o e, r⟩⟩
  item := fun j s Q E hj st hQ => absurd st.1 (Nat.ne_of_lt hj)
  done := fun s Q E st hE => RZ.nextOf_tuple_end hh st.2.1 st.2.2 (Array.getElem?_eq_none hi) hE
end
/-- the tuple at a as it stands at each turn, each item in a new pair -/
def IteT (K : PySem.W.Frag) (a : Addr) : L2.It :=
  ⟨fun i H => ∃ (xs : List V) (x : V), SqT K H a xs ∧ xs[i]? = some x, fun i H v H' => ∃ T x, v = .ref T ∧ H T = none ∧ H' = upd H T (.tup [.int (i : Nat), x]) ∧ ∀ xs, SqT K H a xs → xs[i]? = some x, fun i H => ∃ xs : List V, SqT K H a xs ∧ xs.length ≤ i⟩
theorem turn_enumT {P : Program} {w : World} {K : PySem.W.Frag} {elts : List Expr} {kk : Nat} {tpos : Pos} (a e it : Addr) :
    Turn P w K (.Tuple elts kk tpos) (IteT K a) [e, it] e (fun i h => (∃ old, IsEnum h e it ((i : Nat) : Int) old) ∧ h.IsTupleIter it a i ∧ e ≠ it ∧ a ≠ it ∧ a ≠ e) where
  mem := by simp
  obj := fun i h st b hb => by
    obtain ⟨⟨old, he⟩, ⟨o, ho, hc, hd⟩, _⟩ := st
    rcases (by simpa using hb : b = e ∨ b = it) with z | z
    · subst z; exact ⟨_, he, fun v q => nomatch q⟩
    · subst z; exact ⟨o, ho, fun v q => by rw [hd] at q; cases q⟩
  keep := fun i h h' st k => let ⟨⟨old, he⟩, hi, hne⟩ := st; ⟨⟨old, k e (by simp) _ he⟩, hi.at fun o q => k it (by simp) o q, hne⟩
  item := by
    intro X hP hw hK hc i pins s σ H E I hf st hg
    subst hP hw hK
    obtain ⟨⟨old, he⟩, hit, hne, ha1, ha2⟩ := st
    obtain ⟨xs, x, hq, hx⟩ := hg
    obtain ⟨its, rv, p, hz⟩ := I.tuple hq
    obtain ⟨u, hu, ru⟩ := rv.get hx
    have hel : e < s.heap.objs.size := Heap.lt_size he
    have hil : it < s.heap.objs.size := by obtain ⟨_, q, _⟩ := hit; exact Heap.lt_size q
    have hin : i < its.toArray.size := by
      have := (List.getElem?_eq_some_iff.mp hu).1
      simpa using this
    refine wpAny_pyNext_enum_itemD (draws_tuple (items := its.toArray) (I.ok.hd hc) ha1) he ⟨hit, p⟩ hin hne (by simp; exact ⟨hne, fun z => ha2 z.symm⟩) fun x' h' tk hP ho hst hT hsz hk => ?_
    have hxu : x' = u := by
      have h1 : its[i]? = some x' := by simpa using hP
      rw [hu] at h1; cases h1; rfl
    subst hxu
    refine ⟨_, rfl, wpAny_letOwnedTupleGo_enum (s := { s with heap := h', toks := tk + 1 }) ho fun h'' he' sb => ?_⟩
    have hT2 : h''.get? s.heap.objs.size = some { cls := .type "tuple", data := .seq #[.int i tk, x'] } := (sb.2 _ (Nat.ne_of_gt hel)).trans hT
    have new : ObjOk X.prog X.w (upd H s.heap.objs.size (.tup [.int (i : Nat), x])) h'' s.heap.objs.size (.tup [.int (i : Nat), x]) :=
      ⟨by show 2 ≤ sizeLine; decide, [.int i tk, x'], .cons ⟨_, rfl⟩ (.cons ru .nil), ⟨_, hT2, rfl, _, rfl⟩⟩
    have I1 : Inv X pins σ (upd H s.heap.objs.size (.tup [.int (i : Nat), x])) { s with heap := h'', toks := tk + 1 } :=
      I.turnedNew (ch := [e, it]) (fun b ob hb q => (sb.2 b (fun z => hb (by simp [z]))).trans (hk b ob (fun z => hb (by simp [z])) (fun z => hb (by simp [z])) q)) hf (Nat.le_refl _) new
    refine ⟨.ref s.heap.objs.size, _, I1, rfl, ⟨_, x, rfl, I.hok.fresh (Nat.le_refl _), rfl, fun ys hy => by rw [I.tuple_inj hy hq]; exact hx⟩, ⟨⟨x', ?_⟩, hst.1.at fun o q => (sb.2 it (Ne.symm hne)).trans q, hne, ha1, ha2⟩, fun b hb => ?_⟩
    · have e1 : ((i + 1 : Nat) : Int) = (i : Int) + 1 := by omega
      rw [e1]; exact he'
    · have hb' : b < s.heap.objs.size := by
        rcases (by simpa using hb : b = e ∨ b = it) with z | z
        · subst z; exact hel
        · subst z; exact hil
      rw [upd_ne (Nat.ne_of_lt hb')]
      exact (hf b hb).1
  done := by
    intro X hP hw hK hc i pins s σ H E I hf st hg
    subst hP hw hK
    obtain ⟨⟨old, he⟩, hit, hne, ha1, ha2⟩ := st
    obtain ⟨xs, hq, hx⟩ := hg
    obtain ⟨its, rv, p, hz⟩ := I.tuple hq
    obtain ⟨f0, f1, f2, f3, f4, f5⟩ := hf it (by simp)
    have hl := rv.length
    have hi : its.toArray.size ≤ i := by simp; omega
    refine wpAny_pyNext_enum_endD (draws_end (items := its.toArray) (I.ok.hd hc) hi) he ⟨rfl, hit, p⟩ fun h' eb => ⟨rfl, I.turned (t' := s.toks) (fun b o hb q => eb b o hb q) f0 f1 f3 f4 f5⟩
  self := fun A i s Q E st h => let ⟨⟨_, he⟩, _⟩ := st; wpAny_pyIter_enum he h
section
variable {X : Cx} {A : Ask} {sg : Sig} {cf : CallFn} {T : Flds} {σ : L2.St} {H : Hp} {B : Mo}
def iEnumA (K : PySem.W.Frag) (ta : TA) : TI := fun σ H R => ta σ H fun vs H1 => ∃ a xs, vs = [.ref a] ∧ ((SqL K H1 a xs ∧ R (Ite K a) H1) ∨ (SqT K H1 a xs ∧ R (IteT K a) H1))
theorem pi_enumA {e : Expr} {ta : TA} {p pos tpos : Pos} {elts : List Expr} {kk : Nat} (hg : Gl X "enumerate") (hm : X.mg "enumerate" = none) (ha : PA X [e] ta) (hs : starEach [e] X.env = [(false, PySem.eval e X.env)]) :
    PI X (.Tuple elts kk tpos) (.Call (.Name "enumerate" p) [e] [] pos) (iEnumA X.K ta) := by
  refine ⟨fun pins s σ H R I h => ?_⟩
  refine Call_ (ld_blt I hg hm boot_enumerate (PyProof.Rows.callWith_type1 (thn (ha.run pos pins s σ H _ I h) fun us s1 ⟨vs, H1, I1, r1, q1⟩ => ?_) hs rfl))
  obtain ⟨a, xs, rfl, q1⟩ := q1
  cases r1 with
  | cons r rr =>
    cases rr
    cases r
    have two : ∀ b, b ∈ [s1.heap.objs.size + 1, s1.heap.objs.size] → FpOk X pins H1 b := fun b hb => by
      have hle : s1.heap.objs.size ≤ b := by
        rcases (by simpa using hb : b = s1.heap.objs.size + 1 ∨ b = s1.heap.objs.size) with z | z
        · subst z; exact Nat.le_add_right _ _
        · subst z; exact Nat.le_refl _
      exact I1.fpOk hle (I1.hok.fresh hle)
    rcases q1 with ⟨hq, q⟩ | ⟨hq, q⟩
    · obtain ⟨its, rv, p', hz⟩ := I1.list hq
      refine call_enumerate_list p'.isList fun h' he hit hsz hk => wpAny_pyIter_enum he ?_
      exact ⟨s1.heap.objs.size + 1, _, _, _, H1, rfl, I1.kept (t' := s1.toks) hk, turn_enum a (s1.heap.objs.size + 1) s1.heap.objs.size, ⟨⟨.none, he⟩, hit, Nat.succ_ne_self _⟩, two, q⟩
    · obtain ⟨its, rv, p', hz⟩ := I1.tuple hq
      have hlt : a < s1.heap.objs.size := p'.lt
      refine call_enumT (show s1.heap.IsTuple a its.toArray from p') fun h' he hit hsz hk => wpAny_pyIter_enum he ?_
      exact ⟨s1.heap.objs.size + 1, _, _, _, H1, rfl, I1.kept (t' := s1.toks) hk, turn_enumT a (s1.heap.objs.size + 1) s1.heap.objs.size, ⟨⟨.none, he⟩, hit, Nat.succ_ne_self _, Nat.ne_of_lt hlt, Nat.ne_of_lt (Nat.lt_succ_of_lt hlt)⟩, two, q⟩
theorem walks_enumT {ds : List PyData} {a : Addr} {Hs : Hp} : Walks B (IteT B.K a) (enumL ds) [(.imm (.tuple ds), .ref a)] Hs := by
  have key : ∀ {H : Hp} {l : List (M × V)}, Live B H ([(.imm (.tuple ds), .ref a)] ++ l) → ∃ Z fp vs, SqT B.K H a vs ∧ RDs B Z H ds vs ∧ Lv B Z H ((.imm (.tuple ds), .ref a) :: l) fp := fun {H l} h => by
    obtain ⟨Z, fp, r, lv⟩ := Live.hd h
    cases r with
    | tup h _ r => exact ⟨Z, fp, _, h, r, lv⟩
  refine ⟨fun i H l _ h hi => ?_, fun i H l x H' d _ h hd y => ?_, fun i H l _ h hi => ?_⟩
  · obtain ⟨Z, fp, vs, hq, r, lv⟩ := key h
    rw [enum_len] at hi
    obtain ⟨v, hv, _⟩ := r.get (List.getElem?_eq_getElem hi)
    exact ⟨vs, v, hq, hv⟩
  · obtain ⟨Z, fp, vs, hq, r, lv⟩ := key h
    obtain ⟨T, x', rfl, hT, rfl, y⟩ := y
    obtain ⟨x0, hx0, rfl⟩ := enum_get hd
    obtain ⟨v, hv, rv⟩ := r.get hx0
    have := y vs hq
    rw [hv] at this; cases this
    exact ⟨.of_ext (ext_upd hT), live_new lv hT (.cons (.int _) (.cons rv .nil))⟩
  · obtain ⟨Z, fp, vs, hq, r, lv⟩ := key h
    rw [enum_len] at hi
    exact ⟨vs, hq, by rw [← r.length]; exact hi⟩
theorem pi_enm {a : Expr} {c : Ex} {p pos tpos : Pos} {elts : List Expr} {kk : Nat} (hg : Gl X "enumerate") (hm : X.mg "enumerate" = none) (ha : SE (X.mo T) A sg cf X a c) (hs : notStar a = true) : PI X (.Tuple elts kk tpos) (.Call (.Name "enumerate" p) [a] [] pos) (tIt (X.mo T) A sg cf (.enm [c])) := by
  refine (pi_enumA hg hm (pa_ds (.cons ha .nil) (by simp [hs])) (star_cons hs)).imp fun σ H R ⟨ρ, fr, s, q⟩ => ⟨ρ, fr, s, ?_⟩
  rw [iter] at q
  refine AfterI.ofD q fun ds ρ1 vs H1 q1 m1 hl s1 => ?_
  match ds, vs, hl, q1, s1 with
  | [.list xs], [v], _, q1, s1 =>
    obtain ⟨l, env, lv⟩ := id s1
    obtain ⟨Z, fp, r, _⟩ := Live.hd (lv.perm List.perm_middle)
    obtain ⟨a, vs, rfl, k, _⟩ := list_of r
    exact ⟨a, vs, rfl, .inl ⟨k, q1 _ _ _ m1 walks_enum s1⟩⟩
  | [.tuple xs], [v], _, q1, s1 =>
    obtain ⟨l, env, lv⟩ := id s1
    obtain ⟨Z, fp, r, _⟩ := Live.hd (lv.perm List.perm_middle)
    obtain ⟨a, vs, rfl, k, _⟩ := tuple_of r
    exact ⟨a, vs, rfl, .inr ⟨k, q1 _ _ _ m1 walks_enumT s1⟩⟩
end
end Iv
set_option linter.all false
set_option maxRecDepth 100000
set_option maxHeartbeats 1000000
/-! Iv14: list comprehensions. -/
namespace Iv
open PySem PySem.Spec PyProof.Rows L2
open Classical in
theorem perm_cnt {α : Type} {l r : List α} (h : ∀ a, l.count a = r.count a) : l.Perm r := List.perm_iff_count.mpr h
def Ask.off (A : Ask) : Ask := ⟨A.R, fun _ _ _ _ => False⟩
theorem EnvR.wipe1 : ∀ {ρ : Rho} {σ : L2.St} {l : List (M × V)} (i : Nat), EnvR ρ σ l → ∃ sv l', EnvR (ρ.set i Option.none) (σ.set i Option.none) l' ∧ l.Perm (sv ++ l') ∧ ∀ ρ' l2, EnvR ρ' (σ.set i Option.none) l2 → ∃ l3, EnvR (ρ'.set i (getS ρ i)) σ l3 ∧ l3.Perm (sv ++ l2)
  | _, _, _, i, .nil => ⟨[], [], .nil, .refl _, fun ρ' l2 h => by cases h; exact ⟨[], .nil, .refl _⟩⟩
  | _, _, _, 0, .none r => ⟨[], _, .none r, .refl _, fun ρ' l2 h => by
      cases h with
      | none r' => exact ⟨_, .none r', .refl _⟩⟩
  | _, _, _, 0, .some r => ⟨[_], _, .none r, .refl _, fun ρ' l2 h => by
      cases h with
      | none r' => exact ⟨_, .some r', .refl _⟩⟩
  | _, _, _, i + 1, .none r => by
    obtain ⟨sv, l', h1, h2, h3⟩ := EnvR.wipe1 i r
    refine ⟨sv, l', .none h1, h2, fun ρ' l2 h => ?_⟩
    cases h with
    | none r' =>
      obtain ⟨l3, g1, g2⟩ := h3 _ _ r'
      exact ⟨l3, .none g1, g2⟩
    | some r' =>
      obtain ⟨l3, g1, g2⟩ := h3 _ _ r'
      exact ⟨_, .some g1, (g2.cons _).trans List.perm_middle.symm⟩
  | _, _, _, i + 1, .some r => by
    obtain ⟨sv, l', h1, h2, h3⟩ := EnvR.wipe1 i r
    refine ⟨sv, _, .some h1, (h2.cons _).trans List.perm_middle.symm, fun ρ' l2 h => ?_⟩
    cases h with
    | none r' =>
      obtain ⟨l3, g1, g2⟩ := h3 _ _ r'
      exact ⟨l3, .none g1, g2⟩
    | some r' =>
      obtain ⟨l3, g1, g2⟩ := h3 _ _ r'
      exact ⟨_, .some g1, (g2.cons _).trans List.perm_middle.symm⟩
theorem EnvR.wipes {ρ : Rho} {σ : L2.St} : ∀ (is : List Nat) {l : List (M × V)}, EnvR ρ σ l → ∃ sv l', EnvR (wipe ρ is) (L2.wipe σ is) l' ∧ l.Perm (sv ++ l') ∧ ∀ ρ' l2, EnvR ρ' (L2.wipe σ is) l2 → ∃ l3, EnvR (back ρ ρ' is) σ l3 ∧ l3.Perm (sv ++ l2)
  | [], l, h => ⟨[], l, h, .refl _, fun ρ' l2 h => ⟨l2, h, .refl _⟩⟩
  | v :: vs, l, h => by
    obtain ⟨sv, l1, h1, h2, h3⟩ := EnvR.wipes vs h
    obtain ⟨sv2, l4, k1, k2, k3⟩ := EnvR.wipe1 v h1
    refine ⟨sv ++ sv2, l4, k1, ?_, fun ρ' l2 h => ?_⟩
    · rw [List.append_assoc]
      exact h2.trans (k2.append_left sv)
    · obtain ⟨l5, g1, g2⟩ := k3 _ _ h
      obtain ⟨l6, g3, g4⟩ := h3 _ _ g1
      refine ⟨l6, g3, ?_⟩
      rw [List.append_assoc]
      exact g4.trans (g2.append_left sv)
section
variable {B : Mo} {A : Ask} {sg : Sig} {cf : CallFn} {X : Cx} {T : Flds} {σ σ1 : L2.St} {fr : List (M × V)} {H H0 H1 : Hp} {ρ : Rho}
theorem Sta.wipes (s : Sta B ρ σ H fr) (is : List Nat) : ∃ sv, Sta B (wipe ρ is) (L2.wipe σ is) H (sv ++ fr) ∧ ∀ ρ' H' fr', Sta B ρ' (L2.wipe σ is) H' (sv ++ fr') → Sta B (back ρ ρ' is) σ H' fr' := by
  obtain ⟨l, env, lv⟩ := s
  obtain ⟨sv, l', h1, h2, h3⟩ := env.wipes is
  refine ⟨sv, ⟨l', h1, lv.perm ?_⟩, fun ρ' H' fr' ⟨l2, e2, lv2⟩ => ?_⟩
  · refine (h2.append_right fr).trans ?_
    rw [← List.append_assoc]
    exact List.perm_append_comm.append_right fr
  · obtain ⟨l3, g1, g2⟩ := h3 _ _ e2
    refine ⟨l3, g1, lv2.perm ?_⟩
    rw [← List.append_assoc]
    exact (List.perm_append_comm.trans g2.symm).append_right fr'
theorem Sta.wiped (s : Sta B ρ σ1 H fr) {is : List Nat} (h : L2.wipe σ1 is = L2.wipe σ is) : Sta B (wipe ρ is) (L2.wipe σ is) H fr := by
  obtain ⟨sv, h1, _⟩ := s.wipes is
  rw [h] at h1
  exact drops_any h1
theorem wipe_get (σ : L2.St) (j : Nat) : ∀ is : List Nat, (L2.wipe σ is)[j]? = if j ∈ is then (σ[j]?).map (fun _ => none) else σ[j]?
  | [] => by simp [L2.wipe]
  | v :: vs => by
    rw [L2.wipe]
    by_cases h : v = j
    · subst h
      simp only [List.mem_cons, true_or, if_true]
      by_cases hv : v < σ.length
      · rw [List.getElem?_set_self (by rw [wipe_length]; exact hv), List.getElem?_eq_getElem hv]; rfl
      · rw [List.getElem?_eq_none (by simp [wipe_length]; omega), List.getElem?_eq_none (by omega)]; rfl
    · rw [List.getElem?_set_ne h, wipe_get σ j vs]
      have : (j ∈ v :: vs) ↔ j ∈ vs := ⟨fun hm => (List.mem_cons.mp hm).elim (fun e => absurd e.symm h) id, List.mem_cons_of_mem _⟩
      simp only [this]
theorem wipe_ext {is : List Nat} (hl : σ1.length = σ.length) (h : ∀ j, j ∉ is → σ1[j]? = (L2.wipe σ is)[j]?) : L2.wipe σ1 is = L2.wipe σ is := by
  apply List.ext_getElem?
  intro j
  rw [wipe_get]
  split
  · rename_i hj
    rw [wipe_get, if_pos hj]
    by_cases hv : j < σ.length
    · rw [List.getElem?_eq_getElem hv, List.getElem?_eq_getElem (by omega)]; rfl
    · rw [List.getElem?_eq_none (by omega), List.getElem?_eq_none (by omega)]
  · rename_i hj
    exact h j hj
/-- an own list in hand grows -/
theorem live_app {acc : List PyData} {Dr : Addr} {m : M} {y : V} {d : PyData} {l : List (M × V)} (h : Live B H ((.lst acc, .ref Dr) :: (m, y) :: l)) (e : view m = some d) : ∃ vs, H Dr = some (.lst vs) ∧ vs.length = acc.length ∧ Mono H (upd H Dr (.lst (vs ++ [y]))) ∧ Live B (upd H Dr (.lst (vs ++ [y]))) ((.lst (acc ++ [d]), .ref Dr) :: l) := by
  have h1 : Live B H ((.imm d, y) :: (.lst acc, .ref Dr) :: l) := (h.perm (.swap ..)).freeze e
  obtain ⟨Z, fp, r, nd, nz, zs⟩ := h1
  cases r with
  | cons r rs =>
    cases r with
    | imm r =>
      cases rs with
      | @cons _ _ _ fp fq r2 rs =>
        cases r2 with
        | @lst _ vs _ hD rd =>
          have nd' : ([Dr] ++ fq).Nodup := nd
          have hz : ¬ Z Dr := nz Dr (by simp)
          have hs : ¬ stays (.lst vs) := fun z => z
          have kp : Kp Z H (upd H Dr (.lst (vs ++ [y]))) := kp_upd hD hz hs
          have hq : Dr ∉ fq := by
            have := (List.nodup_append.mp nd').2.2
            exact fun hm => this Dr (by simp) Dr hm rfl
          refine ⟨vs, hD, rd.length.symm, mono_upd hD ⟨_, rfl⟩, Z, [Dr] ++ fq, .cons (.lst upd_same ((rd.append (.cons r .nil)).keep kp fun _ z => z)) (rs.keep kp (fun _ z => z) fun a ha => upd_ne (fun e => hq (e ▸ ha))), nd', fun a ha => nz a (by simpa using ha), zs.put hD hs hz⟩
def tTs (B : Mo) (A : Ask) (sg : Sig) (cf : CallFn) (cs : List Ex) : TT := fun σ H Q => ∃ ρ fr, Sta B ρ σ H fr ∧ AfterB B A σ fr H Q (tests sg cf cs ρ)
theorem pts_I {cs : List Ex} {ifs : List Expr} (h : SEs B A sg cf X ifs cs) (hl : ifs.length ≤ 1) : PTs X ifs (tTs B A sg cf cs) := by
  match ifs, cs, h, hl with
  | _, _, .nil, _ => exact ⟨fun pins s σ H Q I ⟨ρ, fr, st, q⟩ => pts_nil.run pins s σ H Q I (q H .refl st)⟩
  | _, _, .cons p .nil, _ =>
    refine ⟨fun pins s σ H Q I ⟨ρ, fr, st, q⟩ => (pts_one p.pt).run pins s σ H Q I ⟨ρ, fr, st, ?_⟩⟩
    rw [tests] at q
    refine AfterB.bind (P := AfterB B A σ fr H Q) q nB xB fun b ρ1 H1 q1 m1 s1 => ?_
    cases b with
    | true => rw [tests] at q1; exact q1 H1 m1 s1
    | false => exact q1 H1 m1 s1
  | _, _, .cons _ (.cons _ _), hl => simp at hl
theorem lcp_read {ce : Ex} {tg : List Nat} {one : Bool} {ci : It} {cs : List Ex} {Q : VK} (h : tI B A sg cf (.lcp ce tg one ci cs) σ H Q) : tLc (tIt B A sg cf ci) (gI B.K tg one) (tTs B A.off sg cf cs) (tI B A.off sg cf ce) tg σ H Q := by
  obtain ⟨ρ, fr, s, q⟩ := h
  rw [eval] at q
  refine ⟨ρ, fr, s, ?_⟩
  cases hit : iter sg cf ci ρ with
  | none => rw [hit] at q; exact q.elim
  | some r =>
    rw [hit] at q
    cases r with
    | exc x ρ1 => exact q
    | ok ds ρ1 =>
      refine fun J ex H1 m1 w s1 Dr hD => ?_
      obtain ⟨sv, s2, bk⟩ := s1.wipes tg
      have s3 : Sta B (wipe ρ1 tg) (L2.wipe σ tg) (upd H1 Dr (.lst [])) ((.lst [], .ref Dr) :: (sv ++ (ex ++ fr))) := by
        obtain ⟨l, env, Z, fp, lv⟩ := s2
        exact Sta.keepNew env lv (New.lst hD .nil)
      have mD : Mono H1 (upd H1 Dr (.lst [])) := .of_ext (ext_upd hD)
      refine ⟨fun i m H2 => m + i = ds.length ∧ ∃ ρ2 acc, Mono H1 H2 ∧ Sta B ρ2 (L2.wipe σ tg) H2 ((.lst acc, .ref Dr) :: (sv ++ (ex ++ fr))) ∧ After B A σ fr H Q ((lcpL (tests sg cf cs) (eval sg cf ce) tg one (ds.drop i) acc ρ2).map fun (r : List PyData × Rho) => (R.ok (M.lst r.1) (back ρ1 r.2 tg) : R M)), ⟨ds.length, by simp, _, [], mD, s3, q⟩, ?_⟩
      rintro i m H2 ⟨hm, ρ2, acc, m2, t2, q2⟩
      obtain ⟨l, env, lv⟩ := id t2
      have lv2 : Live B H2 (ex ++ ((.lst acc, .ref Dr) :: (sv ++ (fr ++ l)))) := lv.perm (by
        refine perm_cnt fun a => ?_
        simp only [List.append_eq, List.count_append, List.count_cons, List.count_nil, List.cons_append, List.nil_append]
        omega)
      by_cases hi : i < ds.length
      · refine .inr ⟨w.go i H2 _ m2 lv2 hi, fun H4 => ∃ ρ4 acc', Mono H1 H4 ∧ Sta B ρ4 (L2.wipe σ tg) H4 ((.lst acc', .ref Dr) :: (sv ++ (ex ++ fr))) ∧ After B A σ fr H Q ((lcpL (tests sg cf cs) (eval sg cf ce) tg one (ds.drop (i + 1)) acc' ρ4).map fun (r : List PyData × Rho) => (R.ok (M.lst r.1) (back ρ1 r.2 tg) : R M)), fun H4 h => ⟨m - 1, by omega, by omega, h⟩, fun x H3 y => ?_⟩
        have hd : ds[i]? = some ds[i] := List.getElem?_eq_getElem hi
        obtain ⟨m3, lv3⟩ := w.yl i H2 _ x H3 _ m2 lv2 hd y
        have t3 : Sta B ρ2 (L2.wipe σ tg) H3 ((.imm ds[i], x) :: (.lst acc, .ref Dr) :: (sv ++ (ex ++ fr))) := ⟨l, env, lv3.perm (by
          refine perm_cnt fun a => ?_
          simp only [List.append_eq, List.count_append, List.count_cons, List.count_nil, List.cons_append, List.nil_append]
          omega)⟩
        rw [List.drop_eq_getElem_cons hi, lcpL] at q2
        cases hbd : bindT tg one ds[i] ρ2 with
        | none => rw [hbd] at q2; exact q2.elim
        | some ρ3 =>
          rw [hbd] at q2
          simp only at q2
          refine bind_out t3 hbd fun σ4 hl4 ho4 t4 => ?_
          have hw4 : L2.wipe σ4 tg = L2.wipe σ tg := wipe_ext (by rw [hl4, wipe_length]) ho4
          refine ⟨hw4, ρ3, _, t4, ?_⟩
          cases ht : tests sg cf cs ρ3 with
          | none => rw [ht] at q2; exact q2.elim
          | some r =>
            rw [ht] at q2
            cases r with
            | exc x ρ4 => exact q2.elim
            | ok b ρ4 =>
              refine fun H4 m4 t5 => ?_
              cases b with
              | false => exact ⟨wipe ρ4 tg, acc, (m2.trans m3).trans m4, t5.wiped hw4, q2⟩
              | true =>
                simp only at q2
                refine ⟨ρ4, _, t5, ?_⟩
                cases he : eval sg cf ce ρ4 with
                | none => rw [he] at q2; exact q2.elim
                | some r =>
                  rw [he] at q2
                  cases r with
                  | exc x ρ5 => exact q2.elim
                  | ok mv ρ5 =>
                    refine fun yv H5 m5 t6 => ?_
                    simp only at q2
                    cases hv : view mv with
                    | none => rw [hv] at q2; exact q2.elim
                    | some d =>
                      rw [hv] at q2
                      simp only at q2
                      split at q2
                      · rename_i hlen
                        obtain ⟨l6, env6, lv6⟩ := t6
                        obtain ⟨vs, h1, h2, h3, h4⟩ := live_app (lv6.perm (List.perm_append_comm.trans (.swap ..))) hv
                        refine ⟨vs, h1, by rw [h2]; exact hlen, wipe ρ5 tg, acc ++ [d], (((m2.trans m3).trans m4).trans m5).trans h3, ?_, q2⟩
                        exact Sta.wiped (σ1 := σ4) ⟨l6, env6, h4.perm (List.perm_append_comm (l₁ := (M.lst (acc ++ [d]), V.ref Dr) :: (sv ++ (ex ++ fr))) (l₂ := l6))⟩ hw4
                      · exact q2.elim
      · refine .inl ⟨w.st i H2 _ m2 lv2 (by omega), ?_⟩
        rw [List.drop_eq_nil_of_le (by omega), lcpL] at q2
        refine q2 (.ref Dr) H2 (m1.trans m2) ?_
        have t3 : Sta B ρ2 (L2.wipe σ tg) H2 (sv ++ (ex ++ ((.lst acc, .ref Dr) :: fr))) := t2.permF (by
          rw [← List.append_assoc, ← List.append_assoc]
          exact List.perm_middle.symm)
        have t4 := bk _ _ _ t3
        exact drops_any t4
end
end Iv
set_option linter.all false
set_option maxRecDepth 100000
set_option maxHeartbeats 1000000
/-! Iv15: comprehensions as values and stored; stores into lists, dicts, fields; op=. -/
namespace Iv
open PySem PySem.Spec PyProof.Rows L2
section
variable {A : Ask} {sg : Sig} {cf : CallFn} {pr : List Nat} {fu : Nat} {X : Cx} {T : Flds} {σ : L2.St} {fr : List (M × V)} {H H0 H1 : Hp} {ρ : Rho} {B : Mo}
theorem RDs.set {Z : Addr → Prop} {d : PyData} {v : V} (r : RD B Z H d v) : ∀ {ds : List PyData} {vs : List V} (n : Nat), RDs B Z H ds vs → RDs B Z H (ds.set n d) (vs.set n v)
  | _, _, _, .nil => .nil
  | _, _, 0, .cons _ rs => .cons r rs
  | _, _, n + 1, .cons q rs => .cons q (RDs.set r n rs)
/-! ### comprehensions -/
structure LcOk (X : Cx) (T : Flds) (A : Ask) (sg : Sig) (cf : CallFn) (elt tg iter : Expr) (ifs : List Expr) (scope : Scope) (ce : Ex) (is : List Nat) (one : Bool) (ci : It) (cs : List Ex) : Prop where
  itOk : PI X tg iter (tIt (X.mo T) A sg cf ci)
  blk : ∃ own, BlkOk X.N X.env.scope scope own ∧ own.map (·.2) = is
  tgOk : ∀ (s : Shared) (H : Hp) (C : Addr) (cl : List (Str × Addr)) (fp : List Addr), TgOk (X.blk s H scope (compEnvC scope cl C X.env) fp) tg is one
  ifsOk : ∀ (s : Shared) (H : Hp) (C : Addr) (cl : List (Str × Addr)) (fp : List Addr), SEs (X.mo T) A.off sg cf (X.blk s H scope (compEnvC scope cl C X.env) fp) ifs cs
  eltOk : ∀ (s : Shared) (H : Hp) (C : Addr) (cl : List (Str × Addr)) (fp : List Addr), SE (X.mo T) A.off sg cf (X.blk s H scope (compEnvC scope cl C X.env) fp) elt ce
  hs : ∀ x, foldedSetIterable iter X.env x = pure x
  le : ifs.length ≤ 1
variable {elt tg iter : Expr} {ifs : List Expr} {scope : Scope} {ce : Ex} {is : List Nat} {one : Bool} {ci : It} {cs : List Ex} {pos spos py : Pos}
theorem se_lcp (hc : X.calm = true) (hN : X.N.Nodup) (h : LcOk X T A sg cf elt tg iter ifs scope ce is one ci cs) : SE (X.mo T) A sg cf X (.ListComp elt [⟨tg, iter, ifs, 0⟩] scope pos) (.lcp ce is one ci cs) := by
  obtain ⟨own, ok, rfl⟩ := h.blk
  exact .of rfl rfl ((pe_lc hc hN h.itOk ok (fun s H C cl fp => pg_I (X := X.blk s H scope (compEnvC scope cl C X.env) fp) hc hN (h.tgOk s H C cl fp)) (fun s H C cl fp => pts_I (h.ifsOk s H C cl fp) h.le) (fun s H C cl fp => (h.eltOk s H C cl fp).pe) h.hs).imp fun σ H Q q => lcp_read q)
def swapB (e : Expr) (y : Str) (line : Nat) (env : Env) : Bool := match e with
  | .ListComp _ _ sc _ => env.blockKind == .function && env.kindOf y == some .local && line == e.pos.line && !(sc.names.any fun (n, k) => n == y && (k == .local || k == .cell))
  | _ => false
theorem ss_asgLc {i : Nat} {y : Str} (hc : X.calm = true) (hN : X.N.Nodup) (n : NameAt X y i) (h : LcOk X T A sg cf elt tg iter ifs scope ce is one ci cs) :
    PS X (.Assign [.Name y py] (.ListComp elt [⟨tg, iter, ifs, 0⟩] scope pos) spos) (tS (X.mo T) A pr sg cf fu (.asg i (.lcp ce is one ci cs))) := by
  cases hb : swapB (.ListComp elt [⟨tg, iter, ifs, 0⟩] scope pos) y py.line X.env with
  | false =>
    refine (ps_set hN n.ix n.loc (se_lcp hc hN h).pe ?_ n.hf).imp fun D σ H q => asg_read q
    unfold swapB at hb
    unfold swapsWith
    simp only at hb ⊢
    rw [hb]
  | true =>
    have hyl : X.env.scope.names.lookup y = some .local := by
      unfold swapB at hb
      simp only [Bool.and_eq_true] at hb
      have : X.env.kindOf y = some .local := by simpa using hb.1.1.2
      exact this
    obtain ⟨own, ok, rfl⟩ := h.blk
    refine (ps_setLc (g := gI X.K (own.map (·.2)) one) hc hN n.ix hyl ?_ h.itOk ok (fun s H C cl fp => pg_I (X := X.blk s H scope (compEnvC scope cl C X.env) fp) hc hN (h.tgOk s H C cl fp)) (fun s H C cl fp => pts_I (h.ifsOk s H C cl fp) h.le) (fun s H C cl fp => (h.eltOk s H C cl fp).pe) h.hs).imp fun D σ H q => ?_
    · unfold swapB at hb
      unfold swapsWith
      simp only at hb ⊢
      rw [hb]
    · have q2 := asg_read q
      exact lcp_read q2
/-! ### x[k] = e -/
theorem no_swapO {e t : Expr} {l : Nat} {env : Env} (h : ∀ x p, t ≠ .Name x p) : swapsWith e (some t) l env = pure false := by
  unfold swapsWith
  cases e <;> first | rfl | (cases t <;> first | rfl | exact absurd rfl (h _ _))
theorem ps_setI {o i value : Expr} {to ti tv : TE} {t : TSet} {pos pos' : Pos} (ho : PE X o to) (hi : PE X i ti) (hv : PE X value tv) (ht : PSet X t) : PS X (.Assign [.Subscript o i pos'] value pos) (fun D σ H => tv σ H fun v H1 => to σ H1 fun x H2 => ti σ H2 fun y H3 => t x y v H3 fun H4 => D.nx σ H4) := by
  refine ⟨fun pins s σ H D I h => ?_⟩
  refine wpAny_Assign_Subscript (thn (hv.run pins s σ H _ I h) fun r s1 ⟨v, H1, I1, rv, q1⟩ => thn (ho.run pins s1 σ H1 _ I1 q1) fun u s2 ⟨x, H2, I2, rx, q2⟩ => thn (hi.run pins s2 σ H2 _ I2 q2) fun iv s3 ⟨y, H3, I3, ry, q3⟩ => ?_) (no_swapO (by intro _ _ e; cases e))
  exact thn (ht pins s3 σ H3 x y v u iv r _ I3 rx ry rv q3) fun _ s4 ⟨H4, I4, q4⟩ => ⟨σ, H4, I4, q4⟩
def rSetI : TSet := fun o i v H Q => rSetL o i v H Q ∨ rSetD o i v H Q
theorem set_I (hu : X.A.units + 1 < cLine) : PSet X rSetI := by
  intro pins s σ H o i v ov iv u Q I ro ri rv h
  rcases h with h | h
  · exact set_list pins s σ H o i v ov iv u Q I ro ri rv h
  · exact set_dict hu pins s σ H o i v ov iv u Q I ro ri rv h
theorem opd_pathD {i : Nat} {f : Option Nat} {m : M} {ev : Rho → O M} (h : getP ρ i f = some m) (own : (∃ ys, m = .lst ys) ∨ ∃ ys, m = .dic ys) : opd (pathE i f) ev ρ = some (.ok (.ref i f) ρ) := by
  rcases own with ⟨ys, rfl⟩ | ⟨ys, rfl⟩
  · exact opd_path h
  · cases f with
    | none =>
      have h : getS ρ i = some (.dic ys) := h
      simp only [pathE, opd, h]
    | some f => simp only [pathE, opd, h]
theorem sub_end {i : Nat} {f : Option Nat} {ρ' : Rho} {c c' : M} {q d : PyData} {x kv v : V} {E : L2.St → Hp → Prop} (s : Sta B ρ σ H ((.imm q, kv) :: (.imm d, v) :: fr)) (ok : TOk B σ H (.ref i f) x) (hg : getP ρ i f = some c) (hs : setD c q d = some c') (hp : putP ρ i c' f = some ρ')
    (k : ∀ H', Mono H H' → Sta B ρ' σ H' fr → E σ H') : rSetI x kv v H fun H' => E σ H' := by
  have own : (∃ ys, c = .lst ys) ∨ ∃ ys, c = .dic ys := by
    cases c with
    | lst xs => exact .inl ⟨xs, rfl⟩
    | dic xs => exact .inr ⟨xs, rfl⟩
    | _ => simp [setD] at hs
  obtain ⟨Z, b, fq, rfl, r, hb, hz, hf, w⟩ := sta_path s ok hg own
  obtain ⟨_, rk⟩ := hf (.imm q, kv) List.mem_cons_self
  obtain ⟨_, rv⟩ := hf (.imm d, v) (List.mem_cons_of_mem _ List.mem_cons_self)
  cases rk with
  | imm rk =>
    cases rv with
    | imm rv =>
      cases c with
      | lst xs =>
        cases q with
        | int j =>
          cases rk
          cases r with
          | @lst _ us _ h rd =>
            obtain ⟨n, hn, e⟩ := Option.map_eq_some_iff.mp hs
            cases e
            refine .inl ⟨b, us, j, n, rfl, rfl, h, by rw [← rd.length]; exact hn, ?_⟩
            have s2 := w (.lst us) (.lst (us.set n v)) (.lst (xs.set n d)) ρ' h (fun z => z) hp fun fq r => by
              cases r with
              | lst h' rd' =>
                rw [h] at h'; cases h'
                exact .lst upd_same ((RDs.set rv n rd').keep (kp_upd h hz fun z => z) fun _ z => z)
            exact k _ (mono_upd h ⟨_, rfl⟩) s2.drop.drop
        | _ => simp [setD] at hs
      | dic kvs =>
        simp only [setD] at hs
        split at hs
        · rename_i hk
          cases hs
          obtain ⟨key, hkey⟩ := Option.isSome_iff_exists.mp hk.1
          cases r with
          | @dic _ us _ h rd =>
            have hkv : kv = kV key := by
              cases q <;> simp [keyD] at hkey
              · subst hkey; cases rk; rfl
              · subst hkey; cases rk; rfl
            subst hkv
            refine .inr ⟨b, _, rfl, DPut.k h (by rw [← rd.length, ← line_eq]; exact hk.2), ?_⟩
            have s2 := w (.dK us) (.dK (L2.putK us key v)) (.dic (putK q d kvs)) ρ' h (fun z => z) hp fun fq r => by
              cases r with
              | dic h' rd' =>
                rw [h] at h'; cases h'
                exact .dic upd_same ((RKs.put hkey rv rd').keep (kp_upd h hz fun z => z) fun _ z => z)
            exact k _ (mono_upd h (.inl ⟨_, rfl⟩)) s2.drop.drop
        · cases hs
      | _ => simp [setD] at hs
theorem ss_sub {o k value : Expr} {i : Nat} {f : Option Nat} {ck cv : Ex} {pos pos' : Pos} (hu : X.A.units + 1 < cLine) (ho : SE B A sg cf X o (pathE i f)) (hk : SE B A sg cf X k ck) (hv : SE B A sg cf X value cv) : PS X (.Assign [.Subscript o k pos'] value pos) (tS B A pr sg cf fu (.sub i f ck cv)) := by
  refine (ps_setI ho.po hk.pe hv.pe (set_I hu)).imp fun D σ H ⟨ρ, fr, s, q⟩ => ?_
  have go : ∀ (m m0 : M) (ρ1 : Rho) (v : V) (H1 : Hp) (d : PyData), view m = some d → getP ρ1 i f = some m0 → ((∃ ys, m0 = .lst ys) ∨ ∃ ys, m0 = .dic ys) → Mono H H1 → Sta B ρ1 σ H1 ((m, v) :: fr) → AfterS B A pr σ fr H D (Out.ofO (eval sg cf ck ρ1) fun n ρ => (match view n, getP ρ i f with
      | some q, some c => (setD c q d).bind fun c' => (putP ρ i c' f).map .nx
      | _, _ => none)) → tO B A sg cf (pathE i f) σ H1 fun x H2 => tI B A sg cf ck σ H2 fun y H3 => rSetI x y v H3 fun H4 => D.nx σ H4 := by
    intro m m0 ρ1 v H1 d hd hg own m1 s1 q1
    have s2 : Sta B ρ1 σ H1 ((.imm d, v) :: fr) := s1.head fun l h => h.freeze hd
    refine ⟨ρ1, _, s2, ?_⟩
    rw [opd_pathD hg own]
    refine fun x H2 m2 ok s3 => ⟨ρ1, _, s3, ?_⟩
    cases hn : eval sg cf ck ρ1 with
    | none => rw [hn] at q1; exact q1.elim
    | some r =>
      rw [hn] at q1
      cases r with
      | exc e ρ2 => exact fun c d' H3 r m3 s4 => q1 σ c d' H3 .refl r ((m1.trans m2).trans m3) s4.drop
      | ok n ρ2 =>
        refine fun y H3 m3 s4 => ?_
        simp only [Out.ofO] at q1
        cases hq : view n with
        | none => rw [hq] at q1; exact q1.elim
        | some qd =>
          cases hg2 : getP ρ2 i f with
          | none => rw [hq, hg2] at q1; exact q1.elim
          | some c =>
            rw [hq, hg2] at q1
            simp only at q1
            cases hs : setD c qd d with
            | none => rw [hs] at q1; exact q1.elim
            | some c' =>
              rw [hs] at q1
              cases hp : putP ρ2 i c' f with
              | none => simp [hp, AfterS] at q1
              | some ρ' =>
                simp only [hp, Option.bind_some, Option.map_some] at q1
                have s5 : Sta B ρ2 σ H3 ((.imm qd, y) :: (.imm d, v) :: fr) := s4.head fun l h => h.freeze hq
                exact sub_end s5 (ok.mono m3) hg2 hs hp fun H' m4 s6 => q1 σ H' .refl (((m1.trans m2).trans m3).trans m4) s6
  rw [exec] at q
  refine ⟨ρ, fr, s, AfterS.ofE q fun m ρ1 v H1 _ q1 m1 s1 => ?_⟩
  split at q1
  · rename_i d ys hd hg
    exact go m _ ρ1 v H1 d hd hg (.inl ⟨_, rfl⟩) m1 s1 q1
  · rename_i d ys hd hg
    exact go m _ ρ1 v H1 d hd hg (.inr ⟨_, rfl⟩) m1 s1 q1
  · exact q1.elim
/-! ### x op= e -/
theorem slot_rm {i : Nat} {m : M} {v : V} (s : Sta B ρ σ H fr) (hg : getS ρ i = some m) (hv : σ[i]? = some (some v)) : ∃ Z fq, RM B Z H m v fq := by
  obtain ⟨l, env, Z, fp, lv⟩ := s
  obtain ⟨v', h1, h2⟩ := env_mem env hg
  rw [hv] at h1; cases h1
  obtain ⟨fq, r⟩ := lv.rep.mem (List.mem_append_left _ h2)
  exact ⟨Z, fq, r⟩
end
end Iv
set_option linter.all false
set_option maxRecDepth 100000
set_option maxHeartbeats 1000000
/-! Iv16: dict displays, isinstance, minus, op=, fields stored. -/
namespace Iv
open PySem PySem.Spec PyProof.Rows L2
section
variable {A : Ask} {sg : Sig} {cf : CallFn} {pr : List Nat} {fu : Nat} {X : Cx} {T : Flds} {σ : L2.St} {fr : List (M × V)} {H H0 H1 : Hp} {ρ : Rho} {B : Mo} {Z : Addr → Prop}
/-- an own thing in hand is written anew -/
theorem Lv.own {m m' : M} {b : Addr} {o o' : HO} {l : List (M × V)} {fp : List Addr} (lv : Lv B Z H ((m, .ref b) :: l) fp) (ho : H b = some o) (hs : ¬ stays o) (hm : ∀ fq, RM B Z H m (.ref b) fq → b ∈ fq ∧ RM B Z (upd H b o') m' (.ref b) fq) : Lv B Z (upd H b o') ((m', .ref b) :: l) fp ∧ ¬ Z b := by
  obtain ⟨r, nd, nz, zs⟩ := lv
  cases r with
  | @cons _ _ _ fa fb r rs =>
    obtain ⟨hb, r'⟩ := hm _ r
    have hz : ¬ Z b := nz b (List.mem_append_left _ hb)
    have n3 := (List.nodup_append.mp nd).2.2
    refine ⟨⟨.cons r' (rs.keep (kp_upd ho hz hs) (fun _ z => z) fun c hc => upd_ne fun e => n3 b hb c hc e.symm), nd, nz, zs.put ho hs hz⟩, hz⟩
/-! ### {k: v, ..} -/
inductive SEp (B : Mo) (A : Ask) (sg : Sig) (cf : CallFn) (X : Cx) : List (Option Expr) → List Expr → List Ex → Prop
  | nil : SEp B A sg cf X [] [] []
  | cons {k v : Expr} {ck cv : Ex} {ks : List (Option Expr)} {vs : List Expr} {cs : List Ex} : SE B A sg cf X k ck → SE B A sg cf X v cv → SEp B A sg cf X ks vs cs → SEp B A sg cf X (some k :: ks) (v :: vs) (ck :: cv :: cs)
def trsOf (B : Mo) (A : Ask) (sg : Sig) (cf : CallFn) : List Ex → List (TE × TE)
  | ck :: cv :: r => (tI B A sg cf ck, tI B A sg cf cv) :: trsOf B A sg cf r
  | _ => []
theorem pps_I {p : Pos} : ∀ {ks : List (Option Expr)} {vs : List Expr} {cs : List Ex}, SEp B A sg cf X ks vs cs → PPs X p ks vs (trsOf B A sg cf cs)
  | _, _, _, .nil => pps_nil
  | _, _, _, .cons hk hv r => pps_cons hk.pe hv.pe (pps_I r)
theorem SEp.facts : ∀ {ks : List (Option Expr)} {vs : List Expr} {cs : List Ex}, SEp B A sg cf X ks vs cs → ks.all (·.isSome) = true ∧ ks.length = vs.length ∧ cs.length = 2 * ks.length
  | _, _, _, .nil => ⟨rfl, rfl, rfl⟩
  | _, _, _, .cons hk hv r => by
    obtain ⟨h1, h2, h3⟩ := r.facts
    exact ⟨by simpa using h1, by simpa using h2, by simp [h3]; omega⟩
def flatP : List (V × V) → List V
  | [] => []
  | (x, y) :: r => x :: y :: flatP r
theorem pairs_read : ∀ {ks : List (Option Expr)} {vs : List Expr} {cs : List Ex} {ρ : Rho} {fr : List (M × V)} {H : Hp} {Q : List (V × V) → Hp → Prop}, SEp B A sg cf X ks vs cs → Sta B ρ σ H fr → AfterD B A σ fr H (fun us H' => ∀ ps, us = flatP ps → Q ps H') (evals sg cf cs ρ) → tPairs (trsOf B A sg cf cs) σ H Q
  | _, _, _, ρ, fr, H, Q, .nil, s, q => by
    rw [evals] at q
    exact q [] H .refl rfl s [] rfl
  | _, _, _, ρ, fr, H, Q, @SEp.cons _ _ _ _ _ k v ck cv ks vs cs hk hv r, s, q => by
    rw [evals] at q
    refine ⟨ρ, fr, s, After.bind (P := AfterD B A σ fr H fun us H' => ∀ ps, us = flatP ps → Q ps H') q (fun h => h) (fun _ _ h => h) fun m ρ1 x H1 _ q1 m1 s1 => ?_⟩
    cases hm : view m with
    | none => rw [hm] at q1; exact q1.elim
    | some d =>
      rw [hm] at q1
      simp only at q1
      have s1' : Sta B ρ1 σ H1 ((.imm d, x) :: fr) := s1.head fun l h => h.freeze hm
      rw [evals] at q1
      refine ⟨ρ1, _, s1', ?_⟩
      cases he : eval sg cf cv ρ1 with
      | none => rw [he] at q1; exact q1.elim
      | some r1 =>
        rw [he] at q1
        cases r1 with
        | exc e ρ2 => exact (ExcA.drop q1).mono m1
        | ok n ρ2 =>
          refine fun y H2 m2 s2 => ?_
          simp only [O.bind] at q1
          cases hn : view n with
          | none => rw [hn] at q1; exact q1.elim
          | some d2 =>
            rw [hn] at q1
            simp only at q1
            have s2' : Sta B ρ2 σ H2 ((.imm d2, y) :: (.imm d, x) :: fr) := s2.head fun l h => h.freeze hn
            refine pairs_read (Q := fun ps H' => Q ((x, y) :: ps) H') r s2' ?_
            cases hes : evals sg cf cs ρ2 with
            | none => rw [hes] at q1; exact q1.elim
            | some r3 =>
              rw [hes] at q1
              cases r3 with
              | exc e ρ3 => exact (ExcA.drop (ExcA.drop q1)).mono (m1.trans m2)
              | ok ds ρ3 => exact fun us H3 m3 hl s3 ps e => q1 (x :: y :: us) H3 ((m1.trans m2).trans m3) (by simp [hl]) s3 ((x, y) :: ps) (by rw [e]; rfl)
theorem pairUp_rk : ∀ {ds : List PyData} {ps : List (V × V)} {kvs : List (PyData × PyData)}, pairUp ds = some kvs → RDs B Z H ds (flatP ps) → ∃ ks : List (Key × V), ps = ks.map (fun kv => (kV kv.1, kv.2)) ∧ ks.length = kvs.length ∧ ∀ acc us, RKs B Z H acc us → RKs B Z H (kvs.foldl (fun acc p => putK p.1 p.2 acc) acc) (mergeK us ks)
  | [], ps, kvs, e, r => by
    cases e
    cases ps with
    | nil => exact ⟨[], rfl, rfl, fun acc us h => h⟩
    | cons p ps => cases r
  | [d], ps, kvs, e, r => by simp [pairUp] at e
  | k :: d :: ds, ps, kvs, e, r => by
    rw [pairUp] at e
    split at e
    · rename_i hk
      cases hp : pairUp ds with
      | none => rw [hp] at e; cases e
      | some kvs' =>
        rw [hp] at e
        cases e
        cases ps with
        | nil => cases r
        | cons p ps =>
          obtain ⟨x, y⟩ := p
          cases r with
          | cons r1 r =>
            cases r with
            | cons r2 r =>
              obtain ⟨key, hkey⟩ := Option.isSome_iff_exists.mp hk
              have hx : x = kV key := by
                cases k <;> simp [keyD] at hkey
                · subst hkey; cases r1; rfl
                · subst hkey; cases r1; rfl
              subst hx
              obtain ⟨ks, rfl, hl, w⟩ := pairUp_rk (ps := ps) hp r
              exact ⟨(key, y) :: ks, rfl, by simp [hl], fun acc us h => w _ _ (RKs.put hkey r2 h)⟩
    · cases e
theorem se_dct {ks : List (Option Expr)} {vs : List Expr} {cs : List Ex} {p : Pos} (h : SEp B A sg cf X ks vs cs) (h15 : ks.length ≤ 15) : SE B A sg cf X (.Dict ks vs p) (.dct cs) := by
  obtain ⟨f1, f2, f3⟩ := h.facts
  by_cases h0 : ks = []
  · subst h0
    cases h
    refine .of rfl rfl (pe_dnewK.imp fun σ H Q ⟨ρ, fr, s, q⟩ => ?_)
    rw [eval, evals] at q
    refine fun a ha => ?_
    obtain ⟨l, env, Z, fp, lv⟩ := s
    exact q (.ref a) _ (.of_ext (ext_upd ha)) (Sta.keepNew env lv (New.dic ha .nil))
  · refine .of rfl rfl ((pe_disp (pps_I h) f1 f2 h0 h15).imp fun σ H Q ⟨ρ, fr, s, q⟩ => ?_)
    rw [eval] at q
    refine fun a ha => ?_
    have s1 : Sta B ρ σ (upd H a (.dK [])) ((.dic [], .ref a) :: fr) := by
      obtain ⟨l, env, Z, fp, lv⟩ := s
      exact Sta.keepNew env lv (New.dic ha .nil)
    have m0 : Mono H (upd H a (.dK [])) := .of_ext (ext_upd ha)
    have key : ∀ us H2 ds ρ1, evals sg cf cs ρ = some (.ok ds ρ1) → After B A σ fr H Q (ofM ρ1 (mkDict ds)) → Mono (upd H a (.dK [])) H2 → us.length = ds.length → Sta B ρ1 σ H2 (frDs ds us ((.dic [], .ref a) :: fr)) → ∀ ps, us = flatP ps → H2 a = some (.dK []) ∧ ∃ kvs : List (Key × V), ps = kvs.map (fun kv => (kV kv.1, kv.2)) ∧ kvs.length ≤ 15 ∧ Q (.ref a) (upd H2 a (.dK (mergeK [] kvs))) := by
      intro us H2 ds ρ1 he q1 m1 hl s2 ps e
      subst e
      cases hp : pairUp ds with
      | none => simp [mkDict, hp, ofM, After] at q1
      | some kvs =>
        simp only [mkDict, hp, Option.bind_some] at q1
        split at q1
        · rename_i h15'
          simp only [ofM, Option.map_some] at q1
          obtain ⟨l, env, Z, fp, lv⟩ := s2
          have r := rds_of (Z := Z) hl (fun p hp => lv.rep.mem (List.mem_append_right _ hp))
          obtain ⟨ks', e1, e2, w⟩ := pairUp_rk (ps := ps) hp r
          obtain ⟨fq, rd⟩ := lv.rep.mem (m := .dic []) (v := .ref a) (List.mem_append_right _ (frDs_mem List.mem_cons_self))
          have hd2 : H2 a = some (.dK []) := by
            cases rd with
            | dic h r => cases r; exact h
          refine ⟨hd2, ks', e1, by omega, ?_⟩
          -- let the parts go, write the dict
          have lv1 : ∃ fp', Lv B Z H2 ((.dic [], .ref a) :: (l ++ fr)) fp' := by
            have gen : ∀ (ds : List PyData) (us : List V) (fr : List (M × V)) (fp : List Addr), Lv B Z H2 (frDs ds us fr ++ l) fp → ∃ fp', Lv B Z H2 (fr ++ l) fp' := by
              intro ds
              induction ds with
              | nil => intro us fr fp h; exact ⟨fp, h⟩
              | cons d ds ih =>
                intro us fr fp h
                cases us with
                | nil => exact ⟨fp, h⟩
                | cons u us =>
                  obtain ⟨f', h'⟩ := ih us _ fp h
                  exact h'.drop
            obtain ⟨f1, l1⟩ := lv.perm List.perm_append_comm
            obtain ⟨f2, l2⟩ := gen _ _ _ _ l1
            exact l2.perm ((List.perm_append_comm (l₁ := fr) (l₂ := l)).cons _)
          obtain ⟨fp', lv1⟩ := lv1
          have hz : ¬ Z a := lv1.nz a (by
            obtain ⟨r, _, _, _⟩ := lv1
            cases r with
            | cons r _ =>
              cases r with
              | dic _ _ => simp)
          obtain ⟨lv2, _⟩ := lv1.own (o' := .dK (mergeK [] ks')) (m' := .dic (kvs.foldl (fun acc p => putK p.1 p.2 acc) [])) hd2 (fun z => z) fun fq r => by
            cases r with
            | dic h r => exact ⟨by simp, .dic upd_same ((w [] [] .nil).keep (kp_upd hd2 hz fun z => z) fun _ z => z)⟩
          obtain ⟨f5, lv5⟩ := lv2.perm (l' := l ++ (.dic (kvs.foldl (fun acc p => putK p.1 p.2 acc) []), .ref a) :: fr) List.perm_middle.symm
          exact q1 (.ref a) _ ((m0.trans m1).trans (mono_upd hd2 (.inl ⟨_, rfl⟩))) ⟨l, env, Z, f5, lv5⟩
        · simp [ofM, After] at q1
    refine pairs_read h s1 ?_
    cases he : evals sg cf cs ρ with
    | none => rw [he] at q; exact q.elim
    | some r =>
      rw [he] at q
      cases r with
      | exc e ρ1 => exact (ExcA.drop q).mono (.of_ext (ext_upd ha))
      | ok ds ρ1 => exact fun us H2 m1 hl s2 => key us H2 ds ρ1 he q m1 hl s2
end
end Iv
set_option linter.all false
set_option maxRecDepth 100000
set_option maxHeartbeats 1000000
/-! Iv17: isinstance, minus, op=, fields stored. -/
namespace Iv
open PySem PySem.Spec PyProof.Rows L2
section
variable {A : Ask} {sg : Sig} {cf : CallFn} {pr : List Nat} {fu : Nat} {X : Cx} {T : Flds} {σ : L2.St} {fr : List (M × V)} {H H0 H1 : Hp} {ρ : Rho} {B : Mo} {Z : Addr → Prop}
def rIsiV (B : Mo) : List V → Hp → VK → Prop := fun xs H Q => ∃ Z d x t b, xs = [x, .ty t] ∧ Vw B Z H d x ∧ isiD t d = some b ∧ Q (.bl b) H
theorem call_isiV : CallR X (.builtin "isinstance") (rIsiV (X.mo T)) := by
  intro pins s σ H xs us Q I r h
  obtain ⟨Z, d, x, t, b, rfl, hv, e, q⟩ := h
  obtain ⟨u1, u2, rfl, r1, r2⟩ := vals2 r
  cases (show u2 = Value.type t from r2)
  obtain ⟨P, K, p, hx⟩ := kit_vw I r1 hv
  exact PySem.W.kia_one K I.kIn p (kit_ty e) hx fun tk => ⟨.bl b, H, I.tok tk, rfl, q⟩
theorem se_isi {e : Expr} {c : Ex} {t : String} {y : Str} {p0 p1 pos : Pos} (hg : Gl X "isinstance") (hm : X.mg "isinstance" = none) (hy : Gl X y) (hym : X.mg y = none) (hyv : bootBuiltins y = some (.type t)) (hyn : y ≠ "__name__") (hyd : (y == ("__debug__" : Str)) = false)
    (h : SE (X.mo T) A sg cf X e c) (hs : notStar e = true) : SE (X.mo T) A sg cf X (.Call (.Name "isinstance" p0) [e, .Name y p1] [] pos) (.prm (.isi t) [c]) := by
  have hp : PE X (.Name y p1) (tC (.ty t)) := pe_bltn hy hym hyv rfl hyn hyd
  refine .of rfl rfl ((pe_callB (r := rIsiV (X.mo T)) (call_isiV (T := T)) hg hm (by rfl) (pa_cons h.po (pa_cons hp pa_nil rfl) (star_cons hs)) (by decide) (by decide) (star_cons hs) (back_any (star_all (by rfl)))).imp fun σ H Q ⟨ρ, fr, s, q⟩ => ?_)
  rw [eval, opds] at q
  refine ⟨ρ, fr, s, ?_⟩
  cases ho : opd c (eval sg cf c) ρ with
  | none => rw [ho] at q; exact q.elim
  | some r =>
    rw [ho] at q
    cases r with
    | exc x ρ1 => exact q
    | ok t1 ρ1 =>
      refine fun x H1 m1 o1 s1 => ?_
      simp only [O.bind, opds] at q
      cases hl : t1.look ρ1 with
      | none => simp [lookAll, hl, ofM, After] at q
      | some d =>
        cases hb : isiD t d with
        | none => simp [lookAll, hl, prmD, hb, ofM, After] at q
        | some b =>
          simp only [lookAll, hl, prmD, hb, ofM, Option.bind_some, Option.map_some] at q
          obtain ⟨Z, v, k⟩ := Sta.looks (ts := [t1]) (vs := [x]) s1 (.cons o1 .nil) (by simp [lookAll, hl] : lookAll ρ1 [t1] = some [d])
          cases v with
          | cons v1 _ => exact ⟨Z, d, x, t, b, rfl, v1, hb, q (.bl b) H1 m1 (k H1 _ _ (.imm (.bl b)))⟩
theorem se_neg {e : Expr} {c : Ex} {pos : Pos} (h : SE B A sg cf X e c) : SE B A sg cf X (.UnaryOp .USub e pos) (.prm .neg [c]) := by
  refine .of rfl rfl ((pe_un un_neg h.po).imp fun σ H Q ⟨ρ, fr, s, q⟩ => ?_)
  rw [eval, opds] at q
  refine ⟨ρ, fr, s, ?_⟩
  cases ho : opd c (eval sg cf c) ρ with
  | none => rw [ho] at q; exact q.elim
  | some r =>
    rw [ho] at q
    cases r with
    | exc x ρ1 => exact q
    | ok t1 ρ1 =>
      refine fun x H1 m1 o1 s1 => ?_
      simp only [O.bind, opds] at q
      cases hl : t1.look ρ1 with
      | none => simp [lookAll, hl, ofM, After] at q
      | some d =>
        obtain ⟨Z, v, k⟩ := Sta.looks (ts := [t1]) (vs := [x]) s1 (.cons o1 .nil) (by simp [lookAll, hl] : lookAll ρ1 [t1] = some [d])
        cases v with
        | cons v1 _ =>
          cases d with
          | int i =>
            simp only [lookAll, hl, prmD, ofM, Option.bind_some, Option.map_some] at q
            cases v1.int
            exact ⟨i, rfl, q (.int (-i)) H1 m1 (k H1 _ _ (.imm (.int _)))⟩
          | _ => simp [lookAll, hl, prmD, ofM, After] at q
/-! ### x op= e -/
theorem ss_aug {i : Nat} {x : Str} {e : Expr} {c : Ex} {o : Bop} {p pos : Pos} (hN : X.N.Nodup) (n : NameAt X x i) (he : SE B A sg cf X e c) (ho : o = .add ∨ o = .sub) : PS X (.AugAssign (.Name x p) (opOf o) e pos) (tS B A pr sg cf fu (.aug i o c)) := by
  have key : ∀ (g : Int → Int → Int), PIp X (opOf o) (ipI g) → (∀ m d m', augD o m d = some m' → ∃ a b, m = .imm (.int a) ∧ d = .int b ∧ m' = .imm (.int (g a b))) → PS X (.AugAssign (.Name x p) (opOf o) e pos) (tS B A pr sg cf fu (.aug i o c)) := by
    intro g hp hg
    refine (ps_aug hN n.ix n.loc he.pe hp n.hf).imp fun D σ H ⟨ρ, fr, s, q⟩ => ?_
    rw [exec] at q
    split at q
    · exact q.elim
    · rename_i hpr
      simp only [Bool.or_eq_true, not_or, Bool.not_eq_true, Option.isNone_eq_false_iff] at hpr
      obtain ⟨hpr, hsm⟩ := hpr
      obtain ⟨m0, hm0⟩ := Option.isSome_iff_exists.mp hsm
      obtain ⟨v0, hv0⟩ := sta_get s hm0
      refine ⟨v0, hv0, ρ, fr, s, AfterS.ofE q fun m ρ1 y H1 _ q1 m1 s1 => ?_⟩
      cases hd : view m with
      | none => rw [hd] at q1; exact q1.elim
      | some d =>
        cases hg1 : getS ρ1 i with
        | none => rw [hd, hg1] at q1; exact q1.elim
        | some c1 =>
          rw [hd, hg1] at q1
          simp only at q1
          cases ha : augD o c1 d with
          | none => rw [ha] at q1; exact q1.elim
          | some m' =>
            rw [ha] at q1
            obtain ⟨a, b, rfl, rfl, rfl⟩ := hg _ _ _ ha
            obtain ⟨Z, fq, r⟩ := slot_rm s1 hg1 hv0
            cases r with
            | imm r =>
              cases r
              have s2 : Sta B ρ1 σ H1 ((.imm (.int b), y) :: fr) := s1.head fun l h => h.freeze hd
              cases imm_int s2
              exact ⟨a, b, rfl, rfl, q1 _ _ (.set (by simpa using hpr)) m1 (Sta.put' (sta_imm s2.drop fun Z => .int _))⟩
  rcases ho with rfl | rfl
  · exact key (· + ·) ip_add (fun m d m' h => by
      cases m with
      | imm a => cases a <;> cases d <;> simp [augD] at h; exact ⟨_, _, rfl, rfl, h.symm⟩
      | _ => simp [augD] at h)
  · exact key (· - ·) ip_sub (fun m d m' h => by
      cases m with
      | imm a => cases a <;> cases d <;> simp [augD] at h; exact ⟨_, _, rfl, rfl, h.symm⟩
      | _ => simp [augD] at h)
/-! ### x.f = e -/
theorem RF.put {f : Nat} {x : Str} (hx : B.T.fl[f]? = some x) {m : M} {v : V} {fm : List Addr} (r : RM B Z H m v fm) : ∀ {fs : List (Nat × M)} {fvs : List (Str × V)} {fp : List Addr}, RF B Z H fs fvs fp → (lookF fs f = none ∨ ∃ d, lookF fs f = some (.imm d)) → ∃ fq, RF B Z H (setF f m fs) (putF x v fvs) fq ∧ fq.Perm (fm ++ fp)
  | _, _, _, .nil, _ => ⟨_, .cons hx r .nil, .refl _⟩
  | _, _, _, @RF.cons _ _ _ g y n w fs fvs fp fq hy rn rs, h => by
    by_cases e : g = f
    · subst e
      rw [hx] at hy; cases hy
      have : ∃ d, n = .imm d := by
        rcases h with h | ⟨d, h⟩
        · simp [lookF, List.lookup_cons] at h
        · simp [lookF, List.lookup_cons] at h; exact ⟨d, h⟩
      obtain ⟨d, rfl⟩ := this
      cases rn with
      | imm rn =>
        refine ⟨fm ++ fq, ?_, .refl _⟩
        rw [setF, if_pos rfl, putF, if_pos rfl]
        exact .cons hx r rs
    · have hne : y ≠ x := fun e' => e (fl_inj (e' ▸ hy) hx)
      have h' : lookF fs f = none ∨ ∃ d, lookF fs f = some (.imm d) := by
        have e2 : lookF ((g, n) :: fs) f = lookF fs f := by
          simp only [lookF, List.lookup_cons]
          rw [show (f == g) = false by simpa using Ne.symm e]
        rwa [e2] at h
      obtain ⟨fr, h1, h2⟩ := RF.put hx r rs h'
      refine ⟨fp ++ fr, ?_, ?_⟩
      · rw [setF, if_neg e, putF, if_neg hne]
        exact .cons hy rn h1
      · refine (h2.append_left fp).trans ?_
        rw [← List.append_assoc, ← List.append_assoc]
        exact List.perm_append_comm.append_right _
def KApart (K : PySem.W.Frag) (H : Hp) : Prop := ∀ b o, K.lookup b = some o → H b = none
theorem _root_.L2.Inv.kapart {pins : List (Addr × Obj)} {s : Shared} (I : Inv X pins σ H s) : KApart X.K H := fun b o e => (I.bs b o (I.ok.mod.kin b o e)).2
theorem _root_.L2.PE.post {e : Expr} {t : TE} (h : PE X e t) : PE X e (fun σ H Q => t σ H fun v H' => KApart X.K H' → Q v H') := ⟨fun pins s σ H Q I q => thn (h.run pins s σ H _ I q) fun v s1 ⟨x, H1, I1, r, q⟩ => ⟨x, H1, I1, r, q I1.kapart⟩⟩
theorem RF.length : ∀ {fs : List (Nat × M)} {fvs : List (Str × V)} {fp : List Addr}, RF B Z H fs fvs fp → fs.length = fvs.length
  | _, _, _, .nil => rfl
  | _, _, _, .cons _ _ rs => by simp [RF.length rs]
theorem RF.look_none {f : Nat} {x : Str} (hx : B.T.fl[f]? = some x) : ∀ {fs : List (Nat × M)} {fvs : List (Str × V)} {fp : List Addr}, RF B Z H fs fvs fp → lookF fs f = none → fvs.lookup x = none
  | _, _, _, .nil, _ => rfl
  | _, _, _, @RF.cons _ _ _ g y n w fs fvs fp fq hy rn rs, h => by
    by_cases e : g = f
    · subst e
      simp [lookF, List.lookup_cons] at h
    · have hne : y ≠ x := fun e' => e (fl_inj (e' ▸ hy) hx)
      have e2 : lookF ((g, n) :: fs) f = lookF fs f := by
        simp only [lookF, List.lookup_cons]
        rw [show (f == g) = false by simpa using Ne.symm e]
      rw [e2] at h
      rw [List.lookup_cons, show (x == y) = false by simpa using hne.symm]
      exact RF.look_none hx rs h
theorem ss_fld {o value : Expr} {i f : Nat} {x : Str} {cv : Ex} {pos pos' : Pos} (hx : T.fl[f]? = some x) (ho : SE (X.mo T) A sg cf X o (.var i)) (hv : SE (X.mo T) A sg cf X value cv) : PS X (.Assign [.Attribute o x pos'] value pos) (tS (X.mo T) A pr sg cf fu (.fld i f cv)) := by
  refine (ps_fld ho.po.post hv.pe (no_swapO (by intro _ _ e; cases e))).imp fun D σ H ⟨ρ, fr, s, q⟩ => ?_
  rw [exec] at q
  refine ⟨ρ, fr, s, AfterS.ofE q fun m ρ1 v H1 _ q1 m1 s1 => ?_⟩
  cases hsf : setFld ρ1 i f m with
  | none => rw [hsf] at q1; exact q1.elim
  | some ρ' =>
    rw [hsf] at q1
    simp only [Option.map_some] at q1
    unfold setFld at hsf
    split at hsf
    · rename_i c fs hg
      split at hsf
      · rename_i hlen
        have hcase : (lookF fs f = none ∨ ∃ d, lookF fs f = some (.imm d) ∧ noBox d = true) ∧ ρ' = putS ρ1 i (.ins c (setF f m fs)) := by
          split at hsf
          · rename_i hl; cases hsf; exact ⟨.inl hl, rfl⟩
          · rename_i d hl
            split at hsf
            · rename_i hb; cases hsf; exact ⟨.inr ⟨d, hl, hb⟩, rfl⟩
            · cases hsf
          · cases hsf
        obtain ⟨hl, rfl⟩ := hcase
        refine ⟨ρ1, _, s1, ?_⟩
        simp only [opd, hg]
        refine fun w H2 m2 ok s2 ka => ?_
        have s2 : Sta (X.mo T) ρ1 σ H2 ((m, v) :: fr) := s2
        obtain ⟨w', hw, s3⟩ := s2.take hg
        have : σ[i]? = some (some w) := ok
        rw [hw] at this; cases this
        obtain ⟨l, env, Z, fp, lv⟩ := s3
        obtain ⟨f1, lv1⟩ := lv.perm (l' := (.ins c fs, w) :: (m, v) :: (l ++ fr)) (by
          refine perm_cnt fun a => ?_
          simp only [List.append_eq, List.count_append, List.count_cons, List.count_nil, List.cons_append, List.nil_append]
          omega)
        obtain ⟨r, nd, nz, zs⟩ := lv1
        cases r with
        | @cons _ _ _ fa fb r rs =>
          cases r with
          | @ins a C dx _ fvs _ f0 h cl rf =>
            cases rs with
            | @cons _ _ _ fm fc rm rs =>
              have hz : ¬ Z a := nz a (by simp)
              have hs : ¬ stays (.ins C dx fvs) := fun z => z
              obtain ⟨fq, h1, h2⟩ := rf.put hx rm (by
                rcases hl with hl | ⟨d, hl, _⟩
                · exact .inl hl
                · exact .inr ⟨d, hl⟩)
              have ha : ∀ b ∈ f0 ++ (fm ++ fc), b ≠ a := fun b hb e => by
                subst e
                have := (List.nodup_cons.mp (show (b :: (f0 ++ (fm ++ fc))).Nodup from nd)).1
                exact this hb
              refine ⟨a, C, dx, fvs, rfl, h, cl.2.1, cl.2.2 x (mem_of_fl hx), ?_, ?_⟩
              · rw [← rf.length]; exact hlen
              have kp := kp_upd (o' := .ins C dx (putF x v fvs)) h hz hs
              have hp : (fq ++ fc).Perm (f0 ++ (fm ++ fc)) := by
                refine (h2.append_right fc).trans ?_
                refine perm_cnt fun a => ?_
                simp only [List.count_append]
                omega
              have lv2 : Lv (X.mo T) Z (upd H2 a (.ins C dx (putF x v fvs))) ((.ins c (setF f m fs), .ref a) :: (l ++ fr)) (a :: fq ++ fc) := by
                refine ⟨.cons (.ins upd_same cl (h1.keep kp (fun _ z => z) fun b hb => upd_ne (ha b ?_))) (rs.keep kp (fun _ z => z) fun b hb => upd_ne (ha b (by simp [hb]))), ?_, fun b hb => ?_, zs.put h hs hz⟩
                · exact hp.mem_iff.mp (List.mem_append_left _ hb)
                · have : (a :: (fq ++ fc)).Perm (a :: (f0 ++ (fm ++ fc))) := hp.cons a
                  exact this.nodup_iff.mpr nd
                · have : b ∈ a :: (fq ++ fc) := hb
                  rcases List.mem_cons.mp this with rfl | hb
                  · exact hz
                  · exact nz b (List.mem_cons_of_mem _ (hp.mem_iff.mp hb))
              obtain ⟨f3, l3⟩ := lv2.perm List.perm_middle.symm
              refine q1 σ _ .refl ((m1.trans m2).trans (mono_upd h ⟨_, rfl, fun y b u hy hb hm => ?_⟩)) (Sta.refill ⟨l, env, Z, f3, l3⟩ hw)
              rw [lookup_putF]
              split
              · rename_i e
                subst e
                exfalso
                rcases hl with hl | ⟨d, hl, hbx⟩
                · rw [rf.look_none hx hl] at hy; cases hy
                · obtain ⟨v', fq', k1, k2⟩ := rf.look hx hl
                  rw [hy] at k1; cases k1
                  cases k2 with
                  | imm r =>
                    cases d with
                    | tuple ds =>
                      cases r with
                      | tup hq _ _ =>
                        rcases hq with (hq | ⟨ob, hq⟩) | ⟨ob, its, n, hq, _⟩
                        · rw [hb] at hq; cases hq; cases hm
                        · rw [hb] at hq; cases hq; cases hm
                        · rw [ka b ob hq] at hb; cases hb
                    | list _ => simp [noBox] at hbx
                    | dict _ => simp [noBox] at hbx
                    | _ => cases r
              · exact hy
      · cases hsf
    · cases hsf
end
end Iv
set_option linter.all false
set_option maxRecDepth 100000
set_option maxHeartbeats 2000000
/-! Iv17x: isinstance of an exception that was caught. -/
namespace PySem.W
open PySem PySem.Spec PySem.Calls PyProof.Rows
section
variable {prog : Program} {w : World} {A : Around} {E : Value → Shared → Prop} {s : Shared} {K : Frag} {ad D : Addr} {ox : Obj} {od : Option Obj}
theorem iv_classE {Q : Option Value → Shared → Prop} (c : L2.ExcC K D) (X : K.In s.heap) (I : InstAt s.heap ad ox D od) (h : Q (some (.ref D)) { s with toks := s.toks + 1 }) : wpAny (model prog w) A (getAttr? (.ref ad) "__class__") Q E s := by
  have hcl : (clsIn K D).isSome = true := by
    obtain ⟨cd, hc, _⟩ := any_some c.hd
    rw [hc]; rfl
  have hf : findObj K D od "__class__" = some (.bind (.builtin "getset_descriptor.__get__") (.builtin "object.__class__")) := by
    cases od with
    | none => exact findObj_dataN hcl c.ha c.hn c.ht
    | some o => exact findObj_data hcl c.ha c.hn c.ht
  obtain ⟨g0, g1, g2, tk, g3⟩ := s
  have T0 := I.type (M := model prog w)
  have T1 := looks_findIn (M := model prog w) X c.hg
  have T2 := looks_findIn (M := model prog w) X c.hk
  have T3 := looks_find (M := model prog w) X I hf
  have isB : Looks (model prog w) g0 (isInstance (.ref ad) (.type "BaseException")) true := T0.andThen (looks_subIn X c.hs)
  have n2 : (Value.builtin "BaseException.__getattribute__" == Value.builtin "object.__getattribute__") = false := by decide +kernel
  have n1 : (onTheHeap (Value.ref D) && Value.builtin "BaseException.__getattribute__" == Value.builtin "object.__getattribute__") = false := by rw [n2]; rfl
  unfold getAttr? getAttrBy? getAttrBy
  refine wpAny_bind (wpAny_mkText (wpAny_bind (wpAny_attempt (wpAny_holding (wpAny_bind (T0.at (wpAny_bind (T1.at ?_))))))))
  show wpAny _ _ (if (onTheHeap (Value.ref D) && Value.builtin "BaseException.__getattribute__" == Value.builtin "object.__getattribute__") = true then _ else _) _ _ _
  rw [if_neg (by rw [n1]; exact Bool.false_ne_true)]
  unfold getAttrByItsOwn hookBefore
  refine wpAny_bind ?_
  have oh : onTheHeap (Value.ref D) = true := rfl
  rw [if_pos oh]
  refine T2.at (wpAny_bind (wpAny_attempt (wpAny_holding ?_)))
  unfold callGetattribute
  have nh : (false && onTheHeap (Value.builtin "BaseException.__getattribute__")) = false := rfl
  rw [nh, if_neg Bool.false_ne_true]
  unfold boundAndCalled
  rw [PySem.F.excAttr_ValueError.ga.bind (.ref ad)]
  refine wpAny_bind (wpAny_pure (wpAny_call (codeAny_call_builtin PySem.F.excAttr_ValueError.ga.plain PySem.F.entry_bexc_ga ?_)))
  refine @check_slot (model prog w) _ _ ⟨g0, g1, g2, tk + 1, g3⟩ "BaseException.__getattribute__" "BaseException" "__getattribute__" (.ref ad) [.str "__class__" tk] [] _ (by decide +kernel) (by decide +kernel) isB (PySem.F.args_bexc_ga (.ref ad) (.str "__class__" tk)) ?_
  unfold Builtin.«object.__getattribute__»
  refine wpAny_bind (wpAny_of_eq (a := ((Value.ref ad : Value), [Value.str "__class__" tk])) (by first | rfl | (simp only [slotArgs]; rfl)) (wpAny_bind (wpAny_pure (wpAny_bind (T0.at (wpAny_bind (T3.at ?_)))))))
  show wpAny _ _ (holding [Value.builtin "object.__class__"] (call (.builtin "getset_descriptor.__get__") [.builtin "object.__class__", .ref ad, .ref D]) >>= ret) _ _ _
  refine wpAny_bind (wpAny_holding (wpAny_call (class_get (s := ⟨g0, g1, g2, tk + 1, g3⟩) (ox := ox) (od := od) X I c.hm (wpAny_pure ?_))))
  show wpAny _ _ (handedOut (.ref D)) _ _ _
  rw [handedOut_of (v := .ref D) rfl]
  first
    | exact wpAny_pure (wpAny_pure h)
    | exact wpAny_pure h
    | exact wpAny_pure (wpAny_bind (wpAny_pure (wpAny_pure h)))
theorem iv_kitx (c : L2.ExcC K D) : KitX K (.ref ad) (.ref D) (fun h => InstAt h ad ox D od) := by
  obtain ⟨cd, hc, _⟩ := any_some c.hd
  have atD : ∃ cl dd sl, K.lookup D = some ⟨cl, dd, .cls cd, sl⟩ := by
    unfold clsIn at hc
    split at hc
    · rename_i cl dd cd' sl ho
      cases hc
      exact ⟨cl, dd, sl, ho⟩
    · cases hc
  obtain ⟨cl, dd, sl, ho⟩ := atD
  refine ⟨fun _ _ _ I => I.type, fun M h X I => fun A' Q' E' s' k q => ?_, fun h tp d0 its n sl' X htp => ?_, fun X I k => iv_classE c X I k⟩
  · unfold isType loadHead
    exact wpAny_bind (wpAny_loadPart (k _ _ (X _ _ ho)) (wpAny_pure q))
  · refine Bool.eq_false_iff.mpr fun q => ?_
    obtain rfl : D = tp := Value.ref.inj (beq_iff_eq.mp q)
    have z := (X _ _ ho).symm.trans htp
    cases z
end
end PySem.W
namespace Iv
open PySem PySem.Spec PyProof.Rows L2
section
variable {A : Ask} {sg : Sig} {cf : CallFn} {X : Cx} {T : Flds} {σ : L2.St} {fr : List (M × V)} {H H' H0 H1 : Hp} {ρ : Rho} {B : Mo}
theorem Sta.ext (s : Sta B ρ σ H fr) (k : ∀ b o, H b = some o → H' b = some o) : Sta B ρ σ H' fr := by
  obtain ⟨l, env, Z, fp, lv⟩ := s
  have lv2 := lv.add (m := .imm .none) (v := .non) (fq := []) k (.imm .non) .nil (fun _ h => nomatch h)
  exact ⟨l, env, Live.drop ⟨Z, _, lv2⟩⟩
/-- the exception's object as isinstance finds it -/
theorem exc_inst {pins : List (Addr × Obj)} {s : Shared} {ad : Addr} {cls : Value} {d : Option Addr} {x : XV} (I : Inv X pins σ H s) (h : H ad = some (ExK cls d ad)) (r : RX (X.mo T) x cls d H) : ∃ ox od, PySem.W.InstAt s.heap ad ox (He.ga X.K (Str.ofString x.cls)) od := by
  obtain ⟨⟨oe, vs, ho, hz, hd⟩, _, _⟩ := I.hok ad _ h
  have hcl : oe.cls = .ref (He.ga X.K (Str.ofString x.cls)) := hz.1.trans r.cls
  have hno : PySem.W.notCls oe = true := by unfold PySem.W.notCls; rw [hd]
  rcases r.fld with ⟨rfl, _⟩ | ⟨dd, f, v, rfl, hx, _⟩
  · exact ⟨oe, none, ho, hcl, hno, by rw [hz.2]; trivial⟩
  · have hx' : ObjOk X.prog X.w H s.heap dd (.xd [(f, v)]) := I.hok dd _ hx
    obtain ⟨mA, hns, _⟩ := hx'
    obtain ⟨od, hod, _⟩ := lookIn_ns hns
    exact ⟨oe, some od, ho, hcl, hno, by rw [hz.2]; exact hod⟩
def rIsX (B : Mo) : List V → Hp → VK → Prop := fun xs H Q => ∃ (ad : Addr) (cls : Value) (d : Option Addr) (x : XV) (c : V) (b : Bool), xs = [.ref ad, c] ∧ H ad = some (ExK cls d ad) ∧ RX B x cls d H ∧ Q (.bl b) H ∧
  ((∃ cv, (∀ u, RelV c u → u = cv) ∧ PySem.W.kitOne B.K cls cv = some b) ∨ ∃ (p : Addr) (cs : List Addr), c = .ref p ∧ SqT B.K H p (cs.map V.ref) ∧ PySem.W.kitAny B.K cls (cs.map Value.ref) = some b)
theorem call_isX (hx : ∀ c ∈ T.xs, ExcC X.K (He.ga X.K (Str.ofString c))) : CallR X (.builtin "isinstance") (rIsX (X.mo T)) := by
  intro pins s σ H xs us Q I r h
  obtain ⟨ad, cls, d, x, c, b, rfl, ha, rx, q, hb⟩ := h
  obtain ⟨u1, u2, rfl, r1, r2⟩ := vals2 r
  obtain rfl : u1 = Value.ref ad := r1
  obtain ⟨ox, od, J⟩ := exc_inst I ha rx
  have Z := PySem.W.iv_kitx (ad := ad) (ox := ox) (od := od) (hx _ rx.mem)
  have ecl : cls = .ref (He.ga X.K (Str.ofString x.cls)) := rx.cls
  subst ecl
  rcases hb with ⟨cv, hc, e⟩ | ⟨p, cs, rfl, hq, e⟩
  · have eu := hc _ r2
    subst eu
    exact PySem.W.kia_one Z I.kIn J e (fun z => nomatch z) fun tk => ⟨.bl b, H, I.tok tk, rfl, q⟩
  · obtain rfl : u2 = Value.ref p := r2
    obtain ⟨its, rv, ⟨o, ho, hcl, n, hdat⟩, hz⟩ := I.tuple hq
    have ei := refs_at rv
    subst ei
    obtain ⟨oc, od', oda, osl⟩ := o
    dsimp only at hcl hdat
    subst hcl hdat
    exact PySem.W.kia_tup Z I.kIn J ho e (fun z => nomatch z) fun tk => ⟨.bl b, H, I.tok tk, rfl, q⟩
/-- isinstance(x, C), C an own exception class or ValueError -/
theorem se_isx1 {e : Expr} {c : Ex} {n : String} {v : V} {cv : Value} {p0 p1 pos : Pos} (hg : Gl X "isinstance") (hm : X.mg "isinstance" = none) (hp : PE X (.Name (Str.ofString n) p1) (tC v)) (hv : ∀ u, RelV v u → u = cv)
    (hk : ∀ a ∈ T.xs, PySem.W.kitOne X.K (.ref (He.ga X.K (Str.ofString a))) cv = some (subX a n)) (hx : ∀ c ∈ T.xs, ExcC X.K (He.ga X.K (Str.ofString c)))
    (h : SE (X.mo T) A sg cf X e c) (hs : notStar e = true) : SE (X.mo T) A sg cf X (.Call (.Name "isinstance" p0) [e, .Name (Str.ofString n) p1] [] pos) (.isx c [n]) := by
  refine .of rfl rfl ((pe_callB (r := rIsX (X.mo T)) (call_isX hx) hg hm (by rfl) (pa_cons h.po (pa_cons hp pa_nil rfl) (star_cons hs)) (by decide) (by decide) (star_cons hs) (back_any (star_all (by rfl)))).imp fun σ H Q ⟨ρ, fr, s, q⟩ => ?_)
  rw [eval] at q
  refine ⟨ρ, fr, s, AfterT.bind (P := After (X.mo T) A σ fr H Q) q nA xA fun t ρ1 y H1 _ q1 m1 o1 s1 => ?_⟩
  cases ho : xOf ρ1 t with
  | none => rw [ho] at q1; exact q1.elim
  | some x =>
    rw [ho] at q1
    obtain ⟨ad, cls, d, rfl, ha, rx⟩ := xOf_rm s1 o1 ho
    refine ⟨ad, cls, d, x, v, subX x.cls n, rfl, ha, rx, ?_, .inl ⟨cv, hv, by rw [rx.cls]; exact hk _ rx.mem⟩⟩
    have q2 : After (X.mo T) A σ fr H Q (some (.ok (.imm (.bool (subX x.cls n))) ρ1)) := by
      have z : [n].any (subX x.cls) = subX x.cls n := by simp
      rw [← z]; exact q1
    exact q2 _ H1 m1 (sta_imm s1.dropT fun Z => .bl _)
/-- names of own exception classes, as they stand in a tuple -/
inductive ClNs (X : Cx) : List Expr → List String → Prop
  | nil : ClNs X [] []
  | cons {n : String} {p : Pos} {es : List Expr} {ns : List String} : Gl X (Str.ofString n) → X.mg (Str.ofString n) = some (.ref (He.ga X.K (Str.ofString n))) → (Str.ofString n == ("__debug__" : Str)) = false → ClNs X es ns → ClNs X (.Name (Str.ofString n) p :: es) (n :: ns)
def tKs (vs : List V) : TA := fun _ H Q => Q vs H
theorem ClNs.pa : ∀ {es : List Expr} {ns : List String}, ClNs X es ns → PA X es (tKs ((ns.map fun n => He.ga X.K (Str.ofString n)).map V.ref)) ∧ es.all notStar = true
  | _, _, .nil => ⟨pa_nil, rfl⟩
  | _, _, @ClNs.cons _ n p es ns hg hm hd r => by
    obtain ⟨h1, h2⟩ := r.pa
    have p1 : PE X (.Name (Str.ofString n) p) (tC (.ref (He.ga X.K (Str.ofString n)))) := pe_glob (u := .ref (He.ga X.K (Str.ofString n))) hg hm (show RelV (.ref _) (.ref _) from rfl) hd
    exact ⟨pa_cons p1 h1 rfl, by simp [h2, notStar]⟩
theorem kit_any {K : PySem.W.Frag} {t : Value} {a : String} : ∀ {ns : List String}, (∀ n ∈ ns, PySem.W.kitOne K t (.ref (He.ga K (Str.ofString n))) = some (subX a n)) → PySem.W.kitAny K t ((ns.map fun n => He.ga K (Str.ofString n)).map Value.ref) = some (ns.any (subX a))
  | [], _ => rfl
  | n :: ns, h => by
    have h1 := h n List.mem_cons_self
    have h2 := kit_any (ns := ns) fun m hm => h m (List.mem_cons_of_mem _ hm)
    simp only [List.map_cons, PySem.W.kitAny, h1, List.any_cons]
    cases hs : subX a n with
    | true => simp
    | false => simpa using h2
/-- isinstance(x, (C, ..)) -/
theorem se_isxT {e : Expr} {c : Ex} {es : List Expr} {ns : List String} {k : Nat} {p0 pt pos : Pos} (hg : Gl X "isinstance") (hm : X.mg "isinstance" = none) (hn : ClNs X es ns) (hl : ns.length ≤ 1000)
    (hk : ∀ a ∈ T.xs, ∀ n ∈ ns, PySem.W.kitOne X.K (.ref (He.ga X.K (Str.ofString a))) (.ref (He.ga X.K (Str.ofString n))) = some (subX a n)) (hx : ∀ c ∈ T.xs, ExcC X.K (He.ga X.K (Str.ofString c)))
    (h : SE (X.mo T) A sg cf X e c) (hs : notStar e = true) : SE (X.mo T) A sg cf X (.Call (.Name "isinstance" p0) [e, .Tuple es k pt] [] pos) (.isx c ns) := by
  obtain ⟨pa, hst⟩ := hn.pa
  refine .of rfl rfl ((pe_callB (r := rIsX (X.mo T)) (call_isX hx) hg hm (by rfl) (pa_cons h.po (pa_cons (pe_tupF (pos := pt) (x1 := k) pa) pa_nil rfl) (star_cons hs)) (by decide) (by decide) (star_cons hs) (back_any (star_all (by rfl)))).imp fun σ H Q ⟨ρ, fr, s, q⟩ => ?_)
  rw [eval] at q
  refine ⟨ρ, fr, s, AfterT.bind (P := After (X.mo T) A σ fr H Q) q nA xA fun t ρ1 y H1 _ q1 m1 o1 s1 => ?_⟩
  cases ho : xOf ρ1 t with
  | none => rw [ho] at q1; exact q1.elim
  | some x =>
    rw [ho] at q1
    obtain ⟨ad, cls, d, rfl, ha, rx⟩ := xOf_rm s1 o1 ho
    refine ⟨by rw [sizeLine_eq]; simp; omega, fun p o hd hp => ?_⟩
    have k2 := ext_upd (o := .frz o (.tup ((ns.map fun n => He.ga X.K (Str.ofString n)).map V.ref))) hp
    refine ⟨ad, cls, d, x, .ref p, ns.any (subX x.cls), rfl, k2 _ _ ha, rx.keep (Z := fun _ => False) (fun a o e _ => k2 a o e), ?_, .inr ⟨p, _, rfl, .inl (.inr ⟨o, upd_same⟩), by rw [rx.cls]; exact kit_any fun n hn' => hk _ rx.mem n hn'⟩⟩
    exact q1 _ _ (m1.trans (.of_ext k2)) (sta_imm (s1.dropT.ext k2) fun Z => .bl _)
end
end Iv
set_option linter.all false
set_option maxRecDepth 100000
set_option maxHeartbeats 2000000
/-! Iv18l: f(lambda: e): from the caller's trees to the callee's and back. -/
namespace Iv
open PySem PySem.Spec PyProof.Rows L2
/-- the same module, with a lambda at hand -/
def Mo.wth (B : Mo) (t : Option Th) : Mo := ⟨B.K, B.P, B.w, { B.T with th := t }⟩
section
variable {B : Mo} {t : Option Th} {Z Z0 : Addr → Prop} {H H0 : Hp}
mutual
theorem RD.up : ∀ {d : D} {v : V}, RD B Z H d v → RD (B.wth t) Z H d v
  | _, _, .non => .non
  | _, _, .bl b => .bl b
  | _, _, .int i => .int i
  | _, _, .str x => .str x
  | _, _, .tup h p r => .tup h p (RDs.up r)
  | _, _, .lst z h r => .lst z h (RDs.up r)
  | _, _, .dic z h r => .dic z h (RKs.up r)
  | _, _, .klst h r => .klst h (RDs.up r)
  | _, _, .kdic h o r => .kdic h o (RKs.up r)
theorem RDs.up : ∀ {ds : List D} {vs : List V}, RDs B Z H ds vs → RDs (B.wth t) Z H ds vs
  | _, _, .nil => .nil
  | _, _, .cons r rs => .cons (RD.up r) (RDs.up rs)
theorem RKs.up : ∀ {ds : List (D × D)} {vs : List (Key × V)}, RKs B Z H ds vs → RKs (B.wth t) Z H ds vs
  | _, _, .nil => .nil
  | _, _, .cons e r rs => .cons e (RD.up r) (RKs.up rs)
end
mutual
theorem RD.dn : ∀ {d : D} {v : V}, RD (B.wth t) Z H d v → RD B Z H d v
  | _, _, .non => .non
  | _, _, .bl b => .bl b
  | _, _, .int i => .int i
  | _, _, .str x => .str x
  | _, _, .tup h p r => .tup h p (RDs.dn r)
  | _, _, .lst z h r => .lst z h (RDs.dn r)
  | _, _, .dic z h r => .dic z h (RKs.dn r)
  | _, _, .klst h r => .klst h (RDs.dn r)
  | _, _, .kdic h o r => .kdic h o (RKs.dn r)
theorem RDs.dn : ∀ {ds : List D} {vs : List V}, RDs (B.wth t) Z H ds vs → RDs B Z H ds vs
  | _, _, .nil => .nil
  | _, _, .cons r rs => .cons (RD.dn r) (RDs.dn rs)
theorem RKs.dn : ∀ {ds : List (D × D)} {vs : List (Key × V)}, RKs (B.wth t) Z H ds vs → RKs B Z H ds vs
  | _, _, .nil => .nil
  | _, _, .cons e r rs => .cons e (RD.dn r) (RKs.dn rs)
end
mutual
theorem RM.up (h0 : B.T.th = none) : ∀ {m : M} {v : V} {fp : List Addr}, RM B Z H m v fp → RM (B.wth t) Z H m v fp
  | _, _, _, .imm r => .imm r.up
  | _, _, _, .lst h r => .lst h r.up
  | _, _, _, .dic h r => .dic h r.up
  | _, _, _, .ins h c r => .ins h c (RF.up h0 r)
  | _, _, _, .exc h r => .exc h ⟨r.mem, r.cls, r.fld⟩
  | _, _, _, .thk e _ _ => by rw [h0] at e; cases e
theorem RF.up (h0 : B.T.th = none) : ∀ {fs : List (Nat × M)} {fvs : List (Str × V)} {fp : List Addr}, RF B Z H fs fvs fp → RF (B.wth t) Z H fs fvs fp
  | _, _, _, .nil => .nil
  | _, _, _, .cons e r rs => .cons e (RM.up h0 r) (RF.up h0 rs)
end
/-- back: what stood without a lambda stands without one -/
theorem RM.dn (h0 : B.T.th = none) {m : M} {v v0 : V} {fp fp0 : List Addr} (r : RM (B.wth t) Z H m v fp) (r0 : RM B Z0 H0 m v0 fp0) : RM B Z H m v fp := by
  have key : ∀ (m : M), (∀ {v v0 : V} {fp fp0 : List Addr}, RM (B.wth t) Z H m v fp → RM B Z0 H0 m v0 fp0 → RM B Z H m v fp) := by
    intro m
    refine M.rec (motive_1 := fun m => ∀ {v v0 : V} {fp fp0 : List Addr}, RM (B.wth t) Z H m v fp → RM B Z0 H0 m v0 fp0 → RM B Z H m v fp)
      (motive_2 := fun fs => ∀ {fvs fvs0 : List (Str × V)} {fp fp0 : List Addr}, RF (B.wth t) Z H fs fvs fp → RF B Z0 H0 fs fvs0 fp0 → RF B Z H fs fvs fp)
      (motive_3 := fun p => ∀ {v v0 : V} {fp fp0 : List Addr}, RM (B.wth t) Z H p.2 v fp → RM B Z0 H0 p.2 v0 fp0 → RM B Z H p.2 v fp) ?_ ?_ ?_ ?_ ?_ ?_ ?_ ?_ ?_ m
    · intro x v v0 fp fp0 r _
      cases r with
      | exc h r => exact .exc h ⟨r.mem, r.cls, r.fld⟩
    · intro ds n caps cb v v0 fp fp0 _ r0
      cases r0 with
      | thk e _ _ => rw [h0] at e; cases e
    · intro d v v0 fp fp0 r _
      cases r with
      | imm r => exact .imm r.dn
    · intro xs v v0 fp fp0 r _
      cases r with
      | lst h r => exact .lst h r.dn
    · intro xs v v0 fp fp0 r _
      cases r with
      | dic h r => exact .dic h r.dn
    · intro c fs ih v v0 fp fp0 r r0
      cases r with
      | ins h c r =>
        cases r0 with
        | ins h' c' r' => exact .ins h c (ih r r')
    · intro fvs fvs0 fp fp0 r _
      cases r
      exact .nil
    · intro p fs ihp ihf fvs fvs0 fp fp0 r r0
      cases r with
      | cons e r rs =>
        cases r0 with
        | cons e' r' rs' => exact .cons e (ihp r r') (ihf rs rs')
    · intro k m ih v v0 fp fp0 r r0
      exact ih r r0
  exact key m r r0
theorem RMs.up (h0 : B.T.th = none) : ∀ {l : List (M × V)} {fp : List Addr}, RMs B Z H l fp → RMs (B.wth t) Z H l fp
  | _, _, .nil => .nil
  | _, _, .cons r rs => .cons (r.up h0) (RMs.up h0 rs)
theorem RMs.dn (h0 : B.T.th = none) : ∀ {l : List (M × V)} {fp fp0 : List Addr}, RMs (B.wth t) Z H l fp → RMs B Z0 H0 l fp0 → RMs B Z H l fp
  | _, _, _, .nil, _ => .nil
  | _, _, _, .cons r rs, .cons r0 rs0 => .cons (r.dn h0 r0) (RMs.dn h0 rs rs0)
theorem Lv.up (h0 : B.T.th = none) {l : List (M × V)} {fp : List Addr} (h : Lv B Z H l fp) : Lv (B.wth t) Z H l fp := ⟨h.rep.up h0, h.nd, h.nz, ⟨h.zs.at_, h.zs.tb⟩⟩
theorem Live.up (h0 : B.T.th = none) {l : List (M × V)} (h : Live B H l) : Live (B.wth t) H l := by
  obtain ⟨Z, fp, h⟩ := h
  exact ⟨Z, fp, h.up h0⟩
theorem Live.dnV (h0 : B.T.th = none) {m : M} {v : V} {d : D} {l : List (M × V)} (h : Live (B.wth t) H ((m, v) :: l)) (hv : view m = some d) (old : Live B H0 l) : Live B H ((m, v) :: l) := by
  obtain ⟨Z, fp, ⟨r, nd, nz, zs⟩⟩ := h
  obtain ⟨Z0, fp0, o⟩ := old
  cases r with
  | cons r rs =>
    refine ⟨Z, _, .cons ?_ (rs.dn h0 o.rep), nd, nz, ⟨zs.at_, zs.tb⟩⟩
    cases r with
    | imm r => exact .imm r.dn
    | lst h r => exact .lst h r.dn
    | dic h r => exact .dic h r.dn
    | ins _ _ _ => cases hv
    | exc _ _ => cases hv
    | thk _ _ _ => cases hv
/-- all but the tables stays: the trees stay -/
theorem Lv.extN {H1 : Hp} {l : List (M × V)} {fp : List Addr} (h : Lv B Z H l fp) (k : LamX.ExtN H H1) (tb : LamX.Tabs B.T.tabs H1) : Lv B Z H1 l fp := by
  have own : ∀ a ∈ fp, H1 a = H a := fun a ha => by
    obtain ⟨o, e, n⟩ := h.rep.own a ha
    rw [e]
    exact k a o e fun ps q => n (by rw [q]; trivial)
  refine ⟨h.rep.keep (fun a o e z => k a o e fun ps q => ?_) (fun _ z => z) own, h.nd, h.nz, ⟨fun a z => ?_, tb⟩⟩
  · rcases z with z | z
    · obtain ⟨u, e', n⟩ := h.zs.at_ a z
      rw [e] at e'
      cases e'
      exact n ps q
    · rw [q] at z; exact z
  · obtain ⟨u, e, n⟩ := h.zs.at_ a z
    exact ⟨u, k a u e n, n⟩
theorem Mono.of_extN {H1 : Hp} (k : LamX.ExtN H H1) : Mono H H1 := fun a o e n => ⟨o, k a o e n, .refl o⟩
end
end Iv
set_option linter.all false
set_option maxRecDepth 100000
set_option maxHeartbeats 2000000
/-! Iv18m: what a lambda captures; a lambda called. -/
namespace Iv
open PySem PySem.Spec PyProof.Rows L2
section
variable {B : Mo} {A : Ask} {sg : Sig} {cf : CallFn} {X : Cx} {σ : L2.St} {fr : List (M × V)} {H H0 H1 : Hp} {ρ : Rho}
/-- the captured slots hold these values -/
inductive Caps (σ : L2.St) : List Nat → List V → Prop
  | nil : Caps σ [] []
  | cons {i : Nat} {v : V} {is : List Nat} {vs : List V} : σ[i]? = some (some v) → Caps σ is vs → Caps σ (i :: is) (v :: vs)
theorem copy_ok {i : Nat} {m : M} {ρ1 : Rho} (s : Sta B ρ σ H fr) (e : copy ρ i = some (.ok m ρ1)) : ∃ v, σ[i]? = some (some v) ∧ Sta B ρ1 σ H ((m, v) :: fr) := by
  unfold copy at e
  cases hg : getS ρ i with
  | none => rw [hg] at e; cases e
  | some m0 =>
    obtain ⟨v, hv, s1⟩ := s.take hg
    refine ⟨v, hv, ?_⟩
    rw [hg] at e
    have key : ∀ d, view m0 = some d → Sta B (putS ρ i (.imm d)) σ H ((.imm d, v) :: fr) := fun d e => Sta.refill (s1.head fun l h => (h.freeze e).dup) hv
    cases m0 with
    | imm d =>
      cases e
      have k := key d rfl
      rw [putS_same hg] at k
      exact k
    | lst xs => cases e; exact key _ rfl
    | dic xs => cases e; exact key _ rfl
    | ins c fs => cases e
    | thk _ _ _ _ => cases e
    | exc x =>
      cases e
      have k : Sta B (putS ρ i (.exc x)) σ H ((.exc x, v) :: fr) := Sta.refill (s1.head fun l h => h.dupX) hv
      rw [putS_same hg] at k
      exact k
theorem copy_exc {i : Nat} {x : XV} {ρ1 : Rho} (e : copy ρ i = some (.exc x ρ1)) : False := by
  unfold copy at e
  cases hg : getS ρ i with
  | none => rw [hg] at e; cases e
  | some m0 =>
    rw [hg] at e
    cases m0 <;> cases e
theorem copies_ok : ∀ {is : List Nat} {ρ ρ1 : Rho} {ds : List D} {fr : List (M × V)}, Sta B ρ σ H fr → copies ρ is = some (.ok ds ρ1) → ∃ vs, Caps σ is vs ∧ Sta B ρ1 σ H (zipM (ds.map M.imm) vs ++ fr)
  | [], ρ, ρ1, ds, fr, s, e => by
    simp only [copies, Option.some.injEq, R.ok.injEq] at e
    obtain ⟨rfl, rfl⟩ := e
    exact ⟨[], .nil, s⟩
  | i :: is, ρ, ρ1, ds, fr, s, e => by
    simp only [copies] at e
    cases hc : copy ρ i with
    | none => rw [hc] at e; cases e
    | some r =>
      rw [hc] at e
      cases r with
      | exc x ρ2 => exact (copy_exc hc).elim
      | ok m ρ2 =>
        simp only [O.bind] at e
        obtain ⟨v, hv, s2⟩ := copy_ok s hc
        cases hw : view m with
        | none => rw [hw] at e; cases e
        | some d =>
          rw [hw] at e
          simp only at e
          cases hr : copies ρ2 is with
          | none => rw [hr] at e; cases e
          | some r2 =>
            rw [hr] at e
            cases r2 with
            | exc x ρ3 => cases e
            | ok ds2 ρ3 =>
              simp only [Option.some.injEq, R.ok.injEq] at e
              obtain ⟨rfl, rfl⟩ := e
              have s2' : Sta B ρ2 σ H ((.imm d, v) :: fr) := s2.head fun l h => h.freeze hw
              obtain ⟨vs, c, s3⟩ := copies_ok s2' hr
              refine ⟨v :: vs, .cons hv c, s3.permF ?_⟩
              exact List.perm_middle
theorem copies_exc : ∀ {is : List Nat} {ρ ρ1 : Rho} {x : XV}, copies ρ is = some (.exc x ρ1) → False
  | [], ρ, ρ1, x, e => by simp [copies] at e
  | i :: is, ρ, ρ1, x, e => by
    simp only [copies] at e
    cases hc : copy ρ i with
    | none => rw [hc] at e; cases e
    | some r =>
      rw [hc] at e
      cases r with
      | exc y ρ2 => exact copy_exc hc
      | ok m ρ2 =>
        simp only [O.bind] at e
        cases hw : view m with
        | none => rw [hw] at e; cases e
        | some d =>
          rw [hw] at e
          simp only at e
          cases hr : copies ρ2 is with
          | none => rw [hr] at e; cases e
          | some r2 =>
            rw [hr] at e
            cases r2 with
            | exc y ρ3 => exact copies_exc hr
            | ok ds2 ρ3 => cases e
/-- the lambda's slots -/
theorem env_none : ∀ (σ : L2.St), EnvR (List.replicate σ.length Option.none) σ []
  | [] => .nil
  | _ :: σ => .none (env_none σ)
theorem cap_sta : ∀ {is : List Nat} {ds : List D} {vs : List V} {fr : List (M × V)}, Caps σ is vs → ds.length = vs.length → Live B H (zipM (ds.map M.imm) vs ++ fr) → Sta B (capR σ.length is ds) σ H fr
  | _, [], _, fr, .nil, _, lv => ⟨[], env_none σ, lv⟩
  | _, [], _, fr, .cons _ _, hl, lv => by simp at hl
  | _, d :: ds, _, fr, .nil, hl, lv => by simp at hl
  | i :: is, d :: ds, v :: vs, fr, .cons hv c, hl, lv => by
    have s := cap_sta (ds := ds) (fr := (.imm d, v) :: fr) c (by simpa using hl) (lv.perm List.perm_middle.symm)
    exact (s.clear i).refill hv
end
section
variable {X : Cx} {pins : List (Addr × Obj)} {σ : L2.St} {H : Hp} {s : Shared}
/-- a(), where a holds the lambda: the wish about exceptions is that of the place -/
theorem pe_thunk {CXg : CXT} {Eg : XK} {Ng : List Str} {qg : Str} {sc : Scope} {g f c1 : Addr} {cdg pm ctv : Value} {params : Arguments} {body : Expr} {scope : Scope} {k i : Nat} {a : Str} {pn : List (Addr × Obj)} {xe : Value → Shared → Prop} {W : WX} {tb : XK → TE} {p1 p2 : Pos}
    (I : Inv X pins σ H s) (L : LamX.LamS X.env.scope scope) (hf : s.heap.get? f = some (PySem.W.kla_obj "<lambda>" (X.env.qual ++ "<lambda>") params body scope (cloFrom X.env.cells scope.names []) pm c1 ctv)) (hfn : H f = none) (hfr : f ∉ frs X.stack)
    (hbind : bindArgs (PySem.W.kla_fn "<lambda>" (X.env.qual ++ "<lambda>") params body scope (cloFrom X.env.cells scope.names []) pm (.ref c1) ctv) ⟨[], []⟩ = pure [])
    (tk : Takes ((cxOf CXg X.prog X.w X.K X.mg X.base Ng qg sc g cdg X.A X.stack s H Eg).tr pn xe) W) (hr : Room (k + 1) (X.A.deeper (envOfC qg sc s.heap.objs.size g cdg)))
    (hbody : ∀ (E : XK) (A : Around) (outer : List Env) (s1 : Shared) (H1 : Hp), A = X.A.deeper (envOfC qg sc s.heap.objs.size g cdg) → Room k (A.deeper (LamX.lamEnv X scope s1.heap.objs.size f c1)) → PE (LamX.lamCx X A outer s1 H1 E scope f c1) body (tb E))
    (hN : Ng[i]? = some a) (hv : Vis sc a) (hd : (a == ("__debug__" : Str)) = false) (hcd : (a == ("__classdict__" : Str)) = false) :
    PE ((cxOf CXg X.prog X.w X.K X.mg X.base Ng qg sc g cdg X.A X.stack s H Eg).tr pn xe) (.Call (.Name a p1) [] [] p2)
      (fun σZ HZ Q => σZ[i]? = some (some (.ref f)) ∧ HZ c1 = some (LamX.CodeO c1 (X.env.qual ++ "<lambda>")) ∧ tb (WE W σZ) σ HZ Q) := by
  refine ⟨fun pz sz σz Hz Q Iz h => ?_⟩
  obtain ⟨h1, h2, h3⟩ := h
  have nm := (pe_var (X := (cxOf CXg X.prog X.w X.K X.mg X.base Ng qg sc g cdg X.A X.stack s H Eg).tr pn xe) (pos := p1) (i := i) hN hv hd hcd).run pz sz σz Hz (fun v H1 => v = .ref f ∧ H1 = Hz) Iz ⟨.ref f, h1, rfl, rfl⟩
  refine wpAny_Call_Name_kw (thn nm fun u s1 ⟨v, H1, I1, r1, ev, eH⟩ => ?_)
  subst ev
  subst eH
  obtain rfl : u = Value.ref f := r1
  have at1 := I1.base.keep f _ hf hfn hfr (fun z => nomatch (show f ∈ ([] : List Addr) from z))
  have un : Un (frs X.stack) [] H H1 s.heap s1.heap := I1.base
  obtain ⟨⟨oc, fv, tkn, hoc, hdc, hvc⟩, _, _⟩ := I1.hok c1 _ h2
  refine PySem.W.callWith_F0 ⟨_, _, _, _, at1⟩ ?_
  have went : codeAny (model X.prog X.w) (X.A.deeper (envOfC qg sc s.heap.objs.size g cdg)) (.call (.ref f) ⟨[], []⟩) (CR (L2.CX X.prog X.w) (envOfC qg sc s.heap.objs.size g cdg :: X.stack) X.prog X.w H1 s1 Q (WE W σz)) s1 := by
    refine PySem.W.kla_callFunE hr.depth at1 rfl L.co L.gen rfl ⟨c1, oc, fv, tkn, rfl, hoc, hdc, hvc⟩ ?_
    rw [hbind]
    refine wpAny_pure (wpAny_newFunctionEnv (fun y hy => (L.own y hy).2) (fun y hy => nomatch hy) (fun h0 hns hsb => ⟨I1.nolimit.fresh _ hsb, ?_⟩) L.kind)
    have kp : ∀ b o, s1.heap.get? b = some o → h0.get? b = some o := fun b o e => hsb.extBut b o (Nat.ne_of_lt (Heap.lt_size e)) (Heap.get?_push_of_some _ e)
    have J : Inv (LamX.lamCx X (X.A.deeper (envOfC qg sc s.heap.objs.size g cdg)) (envOfC qg sc s.heap.objs.size g cdg :: X.stack) s1 H1 (WE W σz) scope f c1) [] σ H1 { s1 with heap := h0, toks := s1.toks + ([] : List (Str × Value)).length } := LamX.lam_start2 I L I1.env0 hr.hd un hns kp
    show codeAny _ _ (.expr body (LamX.lamEnv X scope s1.heap.objs.size f c1)) _ _
    refine PySem.W.kla_codeExpr (wpAny_mono ((hbody (WE W σz) _ _ s1 H1 rfl (hr.deeper _)).run [] _ _ H1 Q J h3) (fun v s3 hq => ?_) fun e s3 hq => hq)
    obtain ⟨w', H', J', rv, q⟩ := hq
    exact ⟨w', H', J'.os, J'.bare, J'.base, J'.hok, rv, q⟩
  refine wpAny_call (codeAny_mono went fun r s2 hq => ?_)
  cases r with
  | error e => exact passAt tk σz pz H1 s1 e s2 I1 hq
  | ok fl =>
    cases fl with
    | ret u => exact I1.after hq
    | next => exact False.elim hq
    | brk => exact False.elim hq
    | cont => exact False.elim hq
end
/-- what a call of a lambda tells, from how its expression runs -/
def lmR (ds : List D) (n : Nat) (caps : List Nat) (cb : Ex) : O M → Option CRes
  | some (.ok m _) => some (.ret m [some (.thk ds n caps cb)])
  | some (.exc x _) => some (.exc x [some (.thk ds n caps cb)])
  | none => none
/-- a def that got a lambda by its parameter a, in the slot i -/
structure ThOk (X : Cx) (T : Flds) (R : XV → Value → Option Addr → Hp → Prop) (sg : Sig) (cf : CallFn) (a : Str) (i : Nat) (t : Th) (σ0 : L2.St) (cf2 : CallFn) : Prop where
  th : T.th = some t
  caps : Caps σ0 t.caps t.vs
  len : t.n = σ0.length
  run : ∀ ds, cf .lm [.thk ds t.n t.caps t.cb] = lmR ds t.n t.caps t.cb (eval sg cf2 t.cb (capR t.n t.caps ds))
  act : ∀ (pn : List (Addr × Obj)) (xe : Value → Shared → Prop) (W : WX) (p1 p2 : Pos), Takes (X.tr pn xe) W → PE (X.tr pn xe) (.Call (.Name a p1) [] [] p2)
    (fun σZ HZ Q => σZ[i]? = some (some (.ref t.f)) ∧ HZ t.c = some (LamX.CodeO t.c t.q) ∧ tI (X.mo T) ⟨R, fun cls d _ H => W cls d σZ H⟩ sg cf2 t.cb σ0 HZ Q)
section
variable {B : Mo} {A : Ask} {sg : Sig} {cf cf2 : CallFn} {X : Cx} {T : Flds} {σ σ0 : L2.St} {fr : List (M × V)} {H H0 H1 : Hp} {ρ : Rho} {a : Str} {i : Nat} {t : Th} {p1 p2 : Pos}
theorem Lv.imms {Z : Addr → Prop} : ∀ {ds : List D} {vs : List V} {l : List (M × V)} {fp : List Addr}, RDs B Z H ds vs → Lv B Z H l fp → Lv B Z H (zipM (ds.map M.imm) vs ++ l) fp
  | _, _, _, _, .nil, h => h
  | _, _, _, _, .cons r rs, h => Lv.imm1 (Lv.imms rs h) r
theorem se_thc (K : ThOk X T A.R sg cf a i t σ0 cf2) (tk : Takes X A.W) : SE (X.mo T) A sg cf X (.Call (.Name a p1) [] [] p2) (.thc i) := by
  refine .of rfl rfl ((show PE X _ _ from K.act X.pn X.xe A.W p1 p2 tk).imp fun σ H Q ⟨ρ, fr, s, q⟩ => ?_)
  rw [eval] at q
  cases hg : getS ρ i with
  | none => rw [hg] at q; exact q.elim
  | some m =>
    rw [hg] at q
    cases m with
    | thk ds n caps cb =>
      simp only at q
      obtain ⟨v, hv, l, env, Z, fp, lv⟩ := s.take hg
      obtain ⟨fq, r⟩ := lv.rep.mem (m := .thk ds n caps cb) (v := v) (List.mem_append_right _ List.mem_cons_self)
      cases r with
      | @thk t' _ e rd hc =>
        have et : t' = t := Option.some.inj (e.symm.trans K.th)
        subst et
        have rd' : RDs (X.mo T) Z H ds t'.vs := rd
        have hl : ds.length = t'.vs.length := rd.length
        have s1 : Sta (X.mo T) (capR t'.n t'.caps ds) σ0 H (l ++ (.thk ds t'.n t'.caps t'.cb, .ref t'.f) :: fr) := by
          have z := cap_sta (σ := σ0) K.caps hl ⟨Z, _, lv.imms rd'⟩
          rw [← K.len] at z
          exact z
        refine ⟨hv, hc, _, _, s1, ?_⟩
        simp only [callT, lend, hg, Option.bind_some, Option.map_some, K.run ds] at q
        have back : ∀ {H' : Hp} {x : List (M × V)} {l0 : List (M × V)}, Live (X.mo T) H' (l0 ++ (x ++ (l ++ (.thk ds t'.n t'.caps t'.cb, .ref t'.f) :: fr))) → Sta (X.mo T) (giveBack (ρ.set i none) [.ref i none] [some (.thk ds t'.n t'.caps t'.cb)]) σ H' (x ++ fr) := fun {H' x l0} lv' => by
          refine give_ok (H0 := H) (ts := [.ref i none]) (vs := [.ref t'.f]) (ps := [some (.thk ds t'.n t'.caps t'.cb)]) (.cons hv .nil) ⟨l, env, (lv'.drops).perm ?_⟩
          refine perm_cnt fun y => ?_
          simp only [zipO, List.count_append, List.count_cons, List.count_nil, List.cons_append, List.nil_append]
          omega
        cases he : eval sg cf2 t'.cb (capR t'.n t'.caps ds) with
        | none => rw [he] at q; exact q.elim
        | some o =>
          rw [he] at q
          cases o with
          | ok m ρ' =>
            intro v' H' mo st
            obtain ⟨l0, _, lv'⟩ := st
            exact q v' H' mo (back (x := [(m, v')]) lv')
          | exc x ρ' =>
            intro cls d H' rr mo st
            obtain ⟨l0, _, lv'⟩ := st
            exact q cls d H' rr mo (back (x := []) lv')
    | _ => exact q.elim
end
/-- a def w that is handed a lambda, of the caller X: what it promises there -/
structure LamP (X : Cx) (T : Flds) (cf : CallFn) (w : String) (params : Arguments) (body : Expr) (scope : Scope) (n : Nat) (caps : List Nat) (cb : Ex) (g : Addr) : Prop where
  mg : X.mg (Str.ofString w) = some (.ref g)
  kp : PySem.W.keepIn X.K (.ref g) = true
  run : ∀ (pins : List (Addr × Obj)) (σ : L2.St) (H : Hp) (s : Shared) (f c1 : Addr) (pm ctv : Value) (ds : List D) (vs : List V) (fr : List (M × V)) (Q : VK) (m : M) (ps : List (Option M)) (d : D), Inv X pins σ H s →
    s.heap.get? f = some (PySem.W.kla_obj "<lambda>" (X.env.qual ++ "<lambda>") params body scope (cloFrom X.env.cells scope.names []) pm c1 ctv) → H f = none → f ∉ frs X.stack → H c1 = some (LamX.CodeO c1 (X.env.qual ++ "<lambda>")) →
    Caps σ caps vs → n = σ.length → Live (X.mo T) H (zipM (ds.map M.imm) vs ++ fr) → ds.length = vs.length → cf (.fn w) [.thk ds n caps cb] = some (.ret m ps) → view m = some d → (∀ v H', Mono H H' → Live (X.mo T) H' ((m, v) :: fr) → Q v H') →
    codeAny (model X.prog X.w) X.A (.call (.ref g) ⟨[.ref f], []⟩) (CR C8.CX0 X.stack X.prog X.w H s Q C8.E0) s
/-- the table of the code objects that a def's lambdas have -/
structure TabOk (X : Cx) (T : Flds) : Prop where
  ex : ∃ c P, X.env.code = .ref c ∧ LamX.TabB X.base X.mg c P ∧ (P, X.env.qual ++ "<lambda>") ∈ T.tabs ∧ ∀ p ∈ T.tabs, p.1 = P → p.2 = X.env.qual ++ "<lambda>"
theorem Caps.len : ∀ {is : List Nat} {σ : L2.St} {vs : List V}, Caps σ is vs → is.length = vs.length
  | _, _, _, .nil => rfl
  | _, _, _, .cons _ c => by simp [Caps.len c]
theorem copies_len : ∀ {is : List Nat} {ρ ρ1 : Rho} {ds : List D}, copies ρ is = some (.ok ds ρ1) → ds.length = is.length
  | [], ρ, ρ1, ds, e => by
    simp only [copies, Option.some.injEq, R.ok.injEq] at e
    obtain ⟨rfl, _⟩ := e
    rfl
  | i :: is, ρ, ρ1, ds, e => by
    simp only [copies] at e
    cases hc : copy ρ i with
    | none => rw [hc] at e; cases e
    | some r =>
      rw [hc] at e
      cases r with
      | exc x ρ2 => cases e
      | ok m ρ2 =>
        simp only [O.bind] at e
        cases hw : view m with
        | none => rw [hw] at e; cases e
        | some d =>
          rw [hw] at e
          simp only at e
          cases hr : copies ρ2 is with
          | none => rw [hr] at e; cases e
          | some r2 =>
            rw [hr] at e
            cases r2 with
            | exc x ρ3 => cases e
            | ok ds2 ρ3 =>
              simp only [Option.some.injEq, R.ok.injEq] at e
              obtain ⟨rfl, _⟩ := e
              simp [copies_len hr]
section
variable {A : Ask} {sg : Sig} {cf : CallFn} {X : Cx} {T : Flds} {w : String} {params : Arguments} {body : Expr} {scope : Scope} {n : Nat} {caps : List Nat} {cb : Ex} {g : Addr} {p lpos pos : Pos}
theorem se_lam (P : LamP X T cf w params body scope n caps cb g) (tb : TabOk X T) (hg : Gl X (Str.ofString w)) (hdb : (Str.ofString w == ("__debug__" : Str)) = false) (L : LamX.LamS X.env.scope scope) (hdef : defaultsOf params X.env = ([], [])) :
    SE (X.mo T) A sg cf X (.Call (.Name (Str.ofString w) p) [.Lambda params body scope lpos] [] pos) (.lam w n caps cb) := by
  refine .of rfl rfl ⟨fun pins s σ H Q I ⟨ρ, fr, st, q⟩ => ?_⟩
  rw [eval] at q
  cases hc : copies ρ caps with
  | none => rw [hc] at q; exact q.elim
  | some r =>
    rw [hc] at q
    cases r with
    | exc x ρ1 => exact (copies_exc hc).elim
    | ok ds ρ1 =>
      simp only [O.bind] at q
      obtain ⟨vs, cp, st1⟩ := copies_ok st hc
      have hlen := st1.len
      obtain ⟨l, env, Z, fp, lv⟩ := st1
      split at q
      rotate_left
      · exact q.elim
      rename_i hn
      cases hcf : cf (.fn w) [.thk ds n caps cb] with
      | none => rw [hcf] at q; exact q.elim
      | some res =>
        rw [hcf] at q
        cases res with
        | exc x ps => exact q.elim
        | ret m ps =>
          simp only at q
          cases hv : view m with
          | none => rw [hv] at q; exact q.elim
          | some d =>
            rw [hv] at q
            obtain ⟨c, P0, hcode, TB, hmT, hu⟩ := tb.ex
            refine wpAny_Call_Name_kw (ld_glob I hg P.mg ?_ hdb)
            refine PySem.W.callWith_K (h₀ := X.base) I.ok.mod.kin P.kp ?_ (by rfl) (by rfl)
            show wpAny _ _ (spliced ((false, PySem.eval (.Lambda params body scope lpos) X.env) :: backTo pos (starEach [] X.env))) _ _ s
            refine Calls.spliced_cons (LamX.lam_make2 I TB hcode hmT hu lv.zs.tb hdef (L.has I.ok) fun f c1 pm ctv H1 s1 I1 eN T1 hf hfn hfr hco => Calls.spliced_nil ⟨I1.kIn, ?_⟩)
            have lv1 := lv.extN eN T1
            have pm1 : (l ++ (zipM (ds.map M.imm) vs ++ fr)).Perm (zipM (ds.map M.imm) vs ++ (l ++ fr)) := by
              rw [← List.append_assoc, ← List.append_assoc]
              exact List.perm_append_comm.append_right _
            have rc := P.run pins σ H1 s1 f c1 pm ctv ds vs (l ++ fr) Q m ps d I1 hf hfn hfr hco cp (hn.trans hlen) (Live.perm ⟨Z, fp, lv1⟩ pm1) (by rw [copies_len hc, cp.len]) hcf hv
              (fun v H' mo lv' => q v H' ((Mono.of_extN eN).trans mo) ⟨l, env, lv'.perm List.perm_middle.symm⟩)
            refine wpAny_call (codeAny_mono rc fun r s2 hq => ?_)
            cases r with
            | error e => exact (show False from hq).elim
            | ok fl =>
              cases fl with
              | ret u => exact I1.after hq
              | next => exact False.elim hq
              | brk => exact False.elim hq
              | cont => exact False.elim hq
end
end Iv
set_option linter.all false
set_option maxRecDepth 100000
set_option maxHeartbeats 1000000
/-! Iv18: methods of built-in things. -/
namespace Iv
open PySem PySem.Spec PyProof.Rows L2
section
variable {A : Ask} {sg : Sig} {cf : CallFn} {X : Cx} {T : Flds} {σ : L2.St} {fr : List (M × V)} {H H0 H1 : Hp} {ρ : Rho} {Z : Addr → Prop} {pins : List (Addr × Obj)} {s : Shared}
theorem recv_is {d : PyData} {x : V} {v : Value} {t : String} (I : Inv X pins σ H s) (r : RelV x v) (h : Vw (X.mo T) Z H d x) (e : tyD d = t) (ht : t = "str" ∨ t = "dict") : s.TypeIs v t ∧ ∀ a, v = .ref a → ∃ ob, s.heap.get? a = some ob ∧ ob.dict = none := by
  cases d with
  | str y =>
    cases h.str
    obtain ⟨t1, rfl⟩ := r
    cases e
    exact ⟨typeIs_str s y t1, fun _ e => nomatch e⟩
  | dict ps =>
    obtain ⟨a, kvs, rfl, r', z, hd, vs, rel, dd⟩ := dict_at I h
    cases (show v = Value.ref a from r)
    cases e
    refine ⟨dd.typeIs, fun b q => ?_⟩
    cases q
    obtain ⟨ob, _, _, h1, h2, _⟩ := dd
    exact ⟨ob, h1, h2.2.1⟩
  | _ => rcases ht with rfl | rfl <;> simp [tyD] at e
def tBMI (B : Mo) (t : String) (g : List PyData → Option M) (to : TE) (ta : TA) : TE := fun σ H Q => to σ H fun x H1 => (∃ Z d, Vw B Z H1 d x ∧ tyD d = t) ∧ ta σ H1 fun xs H2 => rCS B g (x :: xs) H2 Q
theorem pe_bmI {o e : Expr} {es : List Expr} {name : Str} {id t : String} {apos cpos : Pos} {g : List PyData → Option M} {to : TE} {ta : TA} (pa : PlainAttrs t) (slot : Slot t name id) (hty : typeOf (.builtin id) = pure (.type "method_descriptor")) (ht : t = "str" ∨ t = "dict") (hm : CallS T X (.builtin id) g) (ho : PE X o to) (ha : PA X (e :: es) ta)
    (hb : noSuper o = true) (hs : (e :: es).all notStar = true) (hn : (e :: es).length < 30) (hline : (apos.endLine == cpos.line) = true) : PE X (.Call (.Attribute o name apos) (e :: es) [] cpos) (tBMI (X.mo T) t g to ta) := by
  have hs' := hs
  simp only [List.all_cons, Bool.and_eq_true] at hs'
  refine ⟨fun pins s σ H Q I h => ?_⟩
  refine wpAny_Call_method_late (base_ok hb) (few_ok hs hn) hline rfl (thn (ho.run pins s σ H _ I h) fun v s1 ⟨x, H1, I1, r1, ⟨Z, d, hv, ed⟩, q1⟩ => ?_)
  obtain ⟨h1, h2⟩ := recv_is I1 r1 hv ed ht
  refine ⟨t, id, pa, slot, hty, h1, h2, ?_⟩
  have hA := ha.run cpos pins s1 σ H1 _ I1 q1
  rw [star_cons hs'.1] at hA ⊢
  refine Calls.callWith_builtin (by show (false || (backTo cpos (starEach es X.env)).any (·.1)) = false; rw [back_any (star_all hs'.2)]; rfl) (Calls.evalArgs_plain ?_)
  exact thn hA fun us s2 ⟨vs, H2, I2, r2, Z2, ds, m, w1, w2, w3⟩ => hm pins s2 σ H2 (x :: vs) (v :: us) Q Z2 ds m I2 (.cons r1 r2) w1 w2 w3
theorem bmt_read {B : Mo} {cr : Ex} {cs : List Ex} {p : Prm} {Q : VK} (h : tI B A sg cf (.bmt p cr cs) σ H Q) : tBMI B (recv p) (prmD p) (tO B A sg cf cr) (tOs B A sg cf cs) σ H Q := by
  obtain ⟨ρ, fr, s, q⟩ := h
  rw [eval] at q
  refine ⟨ρ, fr, s, AfterT.bind (P := After B A σ fr H Q) q nA xA fun t ρ1 x H1 _ q1 m1 o1 s1 => ?_⟩
  cases hl : t.look ρ1 with
  | none => rw [hl] at q1; exact q1.elim
  | some d =>
    rw [hl] at q1
    split at q1
    · rename_i heq
      have hd : tyD d = recv p := by simpa using heq
      obtain ⟨Z, v, k⟩ := Sta.looks (ts := [t]) (vs := [x]) s1 (.cons o1 .nil) (by simp [lookAll, hl] : lookAll ρ1 [t] = some [d])
      cases v with
      | cons v1 _ =>
        refine ⟨⟨Z, d, v1, hd⟩, ρ1, _, s1, AfterTs.bind (P := After B A σ fr H Q) q1 nA (fun e ρ h => (ExcA.dropT h).mono m1) fun ts ρ2 vs H2 _ q2 m2 o2 s2 => ?_⟩
        cases hla : lookAll ρ2 (t :: ts) with
        | none => rw [hla] at q2; exact q2.elim
        | some ds =>
          cases hg : prmD p ds with
          | none => simp [hla, hg, ofM, After] at q2
          | some m =>
            simp only [hla, hg, ofM, Option.bind_some, Option.map_some] at q2
            obtain ⟨Z2, v2, k2⟩ := Sta.looks (ts := t :: ts) (vs := x :: vs) s2 (.cons (o1.mono m2) o2) hla
            exact ⟨Z2, ds, m, v2, hg, fun z H' n => q2 z H' ((m1.trans m2).trans (.of_ext n.1)) (k2 H' m z n)⟩
    · exact q1.elim
theorem se_bmt {o : Expr} {es : List Expr} {cr : Ex} {cs : List Ex} {name : Str} {id : String} {apos cpos : Pos} {p : Prm} (pa : PlainAttrs (recv p)) (slot : Slot (recv p) name id) (hty : typeOf (.builtin id) = pure (.type "method_descriptor")) (hm : CallS T X (.builtin id) (prmD p)) (ho : SE (X.mo T) A sg cf X o cr) (h : SEs (X.mo T) A sg cf X es cs) (hne : es ≠ [])
    (hb : noSuper o = true) (hs : es.all notStar = true) (hn : es.length < 30) (hline : (apos.endLine == cpos.line) = true) : SE (X.mo T) A sg cf X (.Call (.Attribute o name apos) es [] cpos) (.bmt p cr cs) := by
  match es, h, hs, hn, hne with
  | e :: es, h, hs, hn, _ =>
    exact .of rfl rfl ((pe_bmI pa slot hty (by cases p <;> simp [recv]) hm ho.po (pa_os h hs) hb hs hn hline).imp fun σ H Q q => bmt_read q)
theorem vws2 {B : Mo} {d : PyData} {ds : List PyData} {xs : List V} (h : Vws B Z H (d :: ds) xs) : ∃ x ys, xs = x :: ys ∧ Vw B Z H d x ∧ Vws B Z H ds ys := by
  cases h with
  | cons a b => exact ⟨_, _, rfl, a, b⟩
theorem vws0 {B : Mo} {xs : List V} (h : Vws B Z H [] xs) : xs = [] := by cases h; rfl
theorem Vw.rdN {B : Mo} {d : PyData} {x : V} (h : Vw B Z H d x) (hb : noBox d = true) : RD B Z H d x := by
  rcases h with h | ⟨_, _, _, rfl, _⟩ | ⟨_, _, _, rfl, _⟩
  · exact h
  · simp [noBox] at hb
  · simp [noBox] at hb
theorem cs_sindex : CallS T X (.builtin "str.index") (prmD .sindex) := by
  intro pins s σ H xs us Q Z ds m I rv h hg q
  match ds, h, hg with
  | [.str a, .str b], h, hg =>
    obtain ⟨x, ys, rfl, hx, h⟩ := vws2 h
    obtain ⟨y, zs, rfl, hy, h⟩ := vws2 h
    cases vws0 h
    cases hx.str; cases hy.str
    obtain ⟨u1, u2, rfl, r1, r2⟩ := vals2 rv
    obtain ⟨t, rfl⟩ := r1
    obtain ⟨u, rfl⟩ := r2
    simp only [prmD] at hg
    cases hq : Builtin.Str.occurrences a b 0 a.length 1 with
    | nil => rw [hq] at hg; cases hg
    | cons k rest =>
      rw [hq] at hg
      cases hg
      exact PySem.SC.index hq ⟨.int (k : Nat), H, I.tok _, ⟨_, rfl⟩, q _ _ (.imm (.int _))⟩
theorem strs_eq {B : Mo} : ∀ {ds : List PyData} {vs : List V} {ys : List Str}, RDs B Z H ds vs → strsD ds = some ys → vs = ys.map V.str
  | _, _, ys, .nil, e => by cases e; rfl
  | _, _, ys, @RDs.cons _ _ _ d v ds vs r rs, e => by
    cases d with
    | str b =>
      cases r
      simp only [strsD] at e
      obtain ⟨zs, h1, h2⟩ := Option.map_eq_some_iff.mp e
      subst h2
      rw [strs_eq rs h1]; rfl
    | _ => simp [strsD] at e
theorem cs_join : CallS T X (.builtin "str.join") (prmD .join) := by
  intro pins s σ H xs us Q Z ds m I rv h hg q
  match ds, h, hg with
  | [.str a, .list zs], h, hg =>
    obtain ⟨x, ys, rfl, hx, h⟩ := vws2 h
    obtain ⟨y, ws, rfl, hy, h⟩ := vws2 h
    cases vws0 h
    cases hx.str
    obtain ⟨p, vs, rfl, hl, r⟩ := hy.list
    simp only [prmD] at hg
    cases hst : strsD zs with
    | none => rw [hst] at hg; cases hg
    | some yy =>
      rw [hst] at hg
      simp only [Option.bind_some] at hg
      split at hg
      · rename_i hz
        cases hg
        rw [strs_eq r hst] at hl
        cases rv with
        | cons r1 rs => exact mt_join pins s σ H _ _ _ _ Q I r1 rs ⟨a, p, yy, rfl, rfl, .inl hl, hz, q _ _ (.imm (.str _))⟩
      · cases hg
theorem cs_dget : CallS T X (.builtin "dict.get") (prmD .dget) := by
  intro pins s σ H xs us Q Z ds m I rv h hg q
  match ds, h, hg with
  | [.dict kvs, k, d], h, hg =>
    obtain ⟨x, ys, rfl, hx, h⟩ := vws2 h
    obtain ⟨y, ws, rfl, hy, h⟩ := vws2 h
    obtain ⟨w, ws, rfl, hw, h⟩ := vws2 h
    cases vws0 h
    simp only [prmD] at hg
    split at hg
    · rename_i hk
      cases hg
      obtain ⟨key, hkey⟩ := Option.isSome_iff_exists.mp hk.1
      have ey := hy.key hkey
      subst ey
      have rw' := hw.rdN hk.2
      obtain ⟨a, us', rfl, r, z, hd, vs, rel, dd⟩ := dict_at I hx
      cases rv with
      | cons r1 rs =>
        cases rs with
        | cons r2 rs =>
          cases rs with
          | cons r3 rs =>
            cases rs
            cases r1
            refine call_meetsIn PySem.F.slot_dict_get dd.typeIs PySem.F.entry_dict_get (PySem.F.args_dict_get_3 _ _ _) (meets_dict_get_default (mixKind X.prog X.w) a (kV_is r2) hd _) ⟨_, dd.mapOf, ?_⟩
            rcases RKs.val r hkey with ⟨h1, h2⟩ | ⟨d', v', h1, h2, h3⟩
            · rw [h1] at q
              have := (rel.val key).getD r3
              rw [h2] at this
              exact ⟨w, H, I.tok _, this, q _ _ (.imm rw')⟩
            · rw [h1] at q
              have := (rel.val key).getD r3
              rw [h2] at this
              exact ⟨v', H, I.tok _, this, q _ _ (.imm h3)⟩
    · cases hg
end
end Iv
set_option linter.all false
set_option maxRecDepth 100000
set_option maxHeartbeats 1000000
/-! Iv18r: repr. -/
namespace Iv
open PySem PySem.Spec PyProof.Rows L2
section
variable {X : Cx} {T : Flds} {σ : L2.St} {H : Hp} {Z : Addr → Prop} {pins : List (Addr × Obj)} {s : Shared}
mutual
theorem RD.reads (I : Inv X pins σ H s) : ∀ {d : PyData} {v : V} {u : Value}, RD (X.mo T) Z H d v → RelV v u → PyData.hasDict d = false → ∃ as, Reads s.heap u d as
  | _, _, u, .non, r, _ => by cases (show u = Value.none from r); exact ⟨_, .none⟩
  | _, _, u, .bl b, r, _ => by cases (show u = Value.bool b from r); exact ⟨_, .bool b⟩
  | _, _, u, .int i, r, _ => by obtain ⟨t, rfl⟩ := (show ∃ t, u = Value.int i t from r); exact ⟨_, .int i t⟩
  | _, _, u, .str x, r, _ => by obtain ⟨t, rfl⟩ := (show ∃ t, u = Value.str x t from r); exact ⟨_, .str x t⟩
  | _, _, u, @RD.tup _ _ _ a vs ds h _ rs, r, e => by
    cases (show u = Value.ref a from r)
    obtain ⟨its, rv, ⟨o, h1, h2, n, h3⟩, hz⟩ := I.tuple h
    obtain ⟨as, ra⟩ := RDs.reads I rs rv (by simpa [PyData.hasDict] using e)
    exact ⟨_, .tuple h1 h2 h3 (by simpa using ra)⟩
  | _, _, u, @RD.lst _ _ _ a vs ds z h rs, r, e => by
    cases (show u = Value.ref a from r)
    obtain ⟨its, rv, ⟨o, n, h1, h2, _, h3⟩, hz⟩ := I.list (.inl h)
    obtain ⟨as, ra⟩ := RDs.reads I rs rv (by simpa [PyData.hasDict] using e)
    exact ⟨_, .list h1 h2 h3 (by simpa using ra)⟩
  | _, _, u, @RD.klst _ _ _ a vs ds h rs, r, e => by
    cases (show u = Value.ref a from r)
    obtain ⟨its, rv, ⟨o, n, h1, h2, _, h3⟩, hz⟩ := I.list h.sq
    obtain ⟨as, ra⟩ := RDs.reads I rs rv (by simpa [PyData.hasDict] using e)
    exact ⟨_, .list h1 h2 h3 (by simpa using ra)⟩
  | _, _, u, .dic _ _ _, r, e => by simp [PyData.hasDict] at e
  | _, _, u, .kdic _ _ _, r, e => by simp [PyData.hasDict] at e
theorem RDs.reads (I : Inv X pins σ H s) : ∀ {ds : List PyData} {vs : List V} {us : List Value}, RDs (X.mo T) Z H ds vs → Vals vs us → PyData.hasDictAll ds = false → ∃ as, ReadsAll s.heap us ds as
  | _, _, _, .nil, .nil, _ => ⟨_, .nil⟩
  | _, _, _, .cons r rs, .cons v vs, e => by
    simp only [PyData.hasDictAll, Bool.or_eq_false_iff] at e
    obtain ⟨as, h1⟩ := RD.reads I r v e.1
    obtain ⟨bs, h2⟩ := RDs.reads I rs vs e.2
    exact ⟨_, .cons h1 h2⟩
end
theorem Vw.reads {d : PyData} {v : V} {u : Value} (I : Inv X pins σ H s) (h : Vw (X.mo T) Z H d v) (r : RelV v u) (e : PyData.hasDict d = false) : ∃ as, Reads s.heap u d as := by
  rcases h with h | ⟨a, vs, ds, rfl, rfl, h, rs⟩ | ⟨a, kvs, ps, rfl, _⟩
  · exact h.reads I r e
  · cases (show u = Value.ref a from r)
    obtain ⟨its, rv, ⟨o, n, h1, h2, _, h3⟩, hz⟩ := I.list (SqL.of h)
    obtain ⟨as, ra⟩ := rs.reads I rv (by simpa [PyData.hasDict] using e)
    exact ⟨_, .list h1 h2 h3 (by simpa using ra)⟩
  · simp [PyData.hasDict] at e
theorem cs_repr (hg : X.A.guards = some []) (hu : X.A.units + 64 < cLine) : CallS T X (.builtin "repr") (prmD .repr) := by
  intro pins s σ H xs us Q Z ds m I rv h hgm q
  have key : ∀ (d : PyData) (x : V) (u : Value), Vw (X.mo T) Z H d x → RelV x u → (∃ a, x = .ref a) → d.showable = true ∧ d.hasDict = false ∧ d.depth ≤ 40 ∧ d.shown.length ≤ line → (∀ z H', New (X.mo T) Z H H' (.imm (.str d.shown)) z → Q z H') → wpAny (model X.prog X.w) X.A (call (.builtin "repr") [u]) (EP X pins σ Q) X.xe s := by
    intro d x u hv r ⟨a, hx⟩ c q
    subst hx
    cases (show u = Value.ref a from r)
    obtain ⟨as, rd⟩ := hv.reads I rfl c.2.1
    refine repr_of_reads' rd c.1 (by rw [c.2.1]; intro z; cases z) hg (by omega) (fun _ _ e => e) (fun h' u tk hk => ?_) (by rw [← line_eq]; exact c.2.2.2)
    exact ⟨.str d.shown, H, I.kept hk, ⟨u, rfl⟩, q _ _ (.imm (.str _))⟩
  match ds, h, hgm with
  | [.list zs], h, hgm =>
    obtain ⟨x, ys, rfl, hx, h⟩ := vws2 h
    cases vws0 h
    obtain ⟨u, rfl, r1⟩ := vals1 rv
    simp only [prmD] at hgm
    split at hgm
    · rename_i c
      cases hgm
      obtain ⟨a, vs, rfl, _⟩ := hx.list
      exact key _ _ _ hx r1 ⟨a, rfl⟩ c q
    · cases hgm
  | [.tuple zs], h, hgm =>
    obtain ⟨x, ys, rfl, hx, h⟩ := vws2 h
    cases vws0 h
    obtain ⟨u, rfl, r1⟩ := vals1 rv
    simp only [prmD] at hgm
    split at hgm
    · rename_i c
      cases hgm
      obtain ⟨a, vs, rfl, _⟩ := hx.tuple
      exact key _ _ _ hx r1 ⟨a, rfl⟩ c q
    · cases hgm
end
end Iv
set_option linter.all false
set_option maxRecDepth 100000
set_option maxHeartbeats 1000000
/-! Iv18s: sorted. -/
namespace Iv
open PySem PySem.Spec PyProof.Rows L2
theorem lt_irr : ∀ a : List Nat, ltCps a a = false
  | [] => rfl
  | x :: a => by simp [ltCps, lt_irr a]
theorem lt_anti : ∀ a b : List Nat, ltCps a b = false → ltCps b a = false → a = b
  | [], [], _, _ => rfl
  | [], _ :: _, h, _ => by simp [ltCps] at h
  | _ :: _, [], _, h => by simp [ltCps] at h
  | x :: a, y :: b, h1, h2 => by
    simp only [ltCps, Bool.or_eq_false_iff, Bool.and_eq_false_iff, decide_eq_false_iff_not, beq_eq_false_iff_ne] at h1 h2
    have e : x = y := by omega
    subst e
    have := lt_anti a b (by rcases h1.2 with h | h; exact absurd rfl h; exact h) (by rcases h2.2 with h | h; exact absurd rfl h; exact h)
    rw [this]
theorem lt_asymm : ∀ a b : List Nat, ltCps a b = true → ltCps b a = false
  | [], [], h => by simp [ltCps] at h
  | [], _ :: _, _ => by simp [ltCps]
  | _ :: _, [], h => by simp [ltCps] at h
  | x :: a, y :: b, h => by
    simp only [ltCps, Bool.or_eq_true, Bool.and_eq_true, decide_eq_true_eq, beq_iff_eq] at h
    simp only [ltCps, Bool.or_eq_false_iff, Bool.and_eq_false_iff, decide_eq_false_iff_not, beq_eq_false_iff_ne]
    rcases h with h | ⟨rfl, h⟩
    · exact ⟨by omega, .inl (by omega)⟩
    · exact ⟨by omega, .inr (lt_asymm a b h)⟩
theorem le_trans : ∀ a b c : List Nat, ltCps b a = false → ltCps c b = false → ltCps c a = false
  | a, b, [], h1, h2 => by
    cases b with
    | nil => cases a with
      | nil => rfl
      | cons _ _ => simp [ltCps] at h1
    | cons _ _ => simp [ltCps] at h2
  | [], b, z :: c, _, _ => by simp [ltCps]
  | x :: a, [], z :: c, h1, h2 => by simp [ltCps] at h1
  | x :: a, y :: b, z :: c, h1, h2 => by
    simp only [ltCps, Bool.or_eq_false_iff, Bool.and_eq_false_iff, decide_eq_false_iff_not, beq_eq_false_iff_ne] at h1 h2 ⊢
    refine ⟨by omega, ?_⟩
    by_cases e : z = x
    · right
      have e1 : y = x := by omega
      have e2 : z = y := by omega
      exact le_trans a b c (by rcases h1.2 with h | h; exact absurd e1 h; exact h) (by rcases h2.2 with h | h; exact absurd e2 h; exact h)
    · exact .inl e
theorem leStr_trans (a b c : Str) (h1 : leStr a b = true) (h2 : leStr b c = true) : leStr a c = true := by
  simp only [leStr, Bool.not_eq_true'] at *
  exact le_trans _ _ _ h1 h2
theorem leStr_total (a b : Str) : (leStr a b || leStr b a) = true := by
  simp only [leStr]
  cases h : ltCps b.cps.toList a.cps.toList with
  | false => rfl
  | true => rw [lt_asymm _ _ h]; rfl
theorem leStr_anti {a b : Str} (h1 : leStr a b = true) (h2 : leStr b a = true) : a = b := by
  simp only [leStr, Bool.not_eq_true'] at *
  have := lt_anti _ _ h2 h1
  cases a; cases b
  simpa using this
theorem sorted_pw : ∀ {ys : List Str}, sortedS ys = true → ys.Pairwise fun a b => leStr a b = true
  | [], _ => .nil
  | x :: r, h => by
    have gen : ∀ (r : List Str) (p : Str), risingS p r = true → (p :: r).Pairwise fun a b => leStr a b = true := by
      intro r
      induction r with
      | nil => intro p _; exact List.pairwise_singleton ..
      | cons y r ih =>
        intro p h
        simp only [risingS, Bool.and_eq_true] at h
        have h2 := ih y h.2
        refine List.Pairwise.cons (fun z hz => ?_) h2
        have hpy : leStr p y = true := h.1
        rcases List.mem_cons.mp hz with rfl | hz
        · exact hpy
        · exact leStr_trans _ _ _ hpy ((List.pairwise_cons.mp h2).1 z hz)
    exact gen r x h
theorem sortS_uniq {ys ks : List Str} (hp : ys.Perm ks) (hs : sortedS ys = true) : ys = sortS ks :=
  List.Perm.eq_of_pairwise (le := fun a b => leStr a b = true) (fun a b _ _ h h' => leStr_anti h h') (sorted_pw hs) (List.pairwise_mergeSort leStr_trans leStr_total ks) (hp.trans (List.mergeSort_perm ks leStr).symm)
section
variable {X : Cx} {T : Flds}
theorem keys_of {B : Mo} {Z : Addr → Prop} {H : Hp} : ∀ {ps : List (PyData × PyData)} {kvs : List (Key × V)} {ks : List Str}, RKs B Z H ps kvs → strsD (ps.map (·.1)) = some ks → kvs.map (·.1) = ks.map Sum.inr
  | _, _, ks, .nil, e => by cases e; rfl
  | _, _, ks, @RKs.cons _ _ _ k d q v ps kvs h r rs, e => by
    cases k with
    | str b =>
      simp only [List.map_cons, strsD] at e
      obtain ⟨zs, h1, h2⟩ := Option.map_eq_some_iff.mp e
      subst h2
      simp only [keyD, Option.some.injEq] at h
      subst h
      simp [keys_of rs h1]
    | _ => simp [strsD] at e
/-- sorted of a dict, however it is known -/
theorem sorted_dict {pins : List (Addr × Obj)} {s : Shared} {σ : L2.St} {H : Hp} {Q : VK} {a : Addr} {kvs : List (Key × V)} {ks : List Str} {vs : List (Key × Value)} (hcalm : X.calm = true) (I : Inv X pins σ H s) (lo : (a == sysModules) = false) (rel : KV kvs vs) (dd : s.heap.DictOf (mixKind X.prog X.w) a vs) (hks : kvs.map (·.1) = ks.map Sum.inr) (h64 : ks.length < 64)
    (q : ∀ ys p, ys.Perm ks → sortedS ys = true → H p = none → Q (.ref p) (upd H p (.lst (ys.map V.str)))) : wpAny (model X.prog X.w) X.A (call (.builtin "sorted") [.ref a]) (EP X pins σ Q) X.xe s := by
  obtain ⟨ep, hat⟩ := dd.dictAt
  have hkeys : vs.map (·.1) = ks.map Sum.inr := rel.keys.symm.trans hks
  have hl : vs.length = ks.length := by
    have e := congrArg List.length hkeys
    rw [List.length_map, List.length_map] at e
    exact e
  have h16 : vs.length ≤ sizeLine := by rw [hl, sizeLine_eq]; omega
  refine Calls.call_function_entry PyProof.Rows.kind_sorted PyProof.Rows.plain_sorted PyProof.Rows.entry_sorted (PyProof.Rows.args_sorted1 _) ?_
  unfold Builtin.«sorted»
  refine wpAny_bind (m := checkCount "sorted" 1 1 _) (wpAny_pure ?_)
  refine wpAny_bind (PySem.W.kdu_collect (A := X.A.in1) (PySem.W.kdl_dict (knd := mixKind X.prog X.w) (kvs := vs) (ep := ep) lo) (I.ok.hd hcalm) hat h16 fun h' tk acc hk hacc => ?_)
  have hal : acc.toList.length = ks.length := by rw [Array.length_toList, hacc.1, hl]
  have hS : StrsAre acc.toList ks := strs_at hal fun j v e => by
    obtain ⟨k, x, e1, e2⟩ := hacc.2 j v (by rw [← Array.getElem?_toList]; exact e)
    have e3 : (vs.map (·.1))[j]? = some k := by rw [List.getElem?_map, e1]; all_goals rfl
    rw [hkeys, List.getElem?_map] at e3
    cases e4 : ks[j]? with
    | none => rw [e4] at e3; cases e3
    | some y =>
      rw [e4] at e3
      have e5 : Sum.inr y = k := Option.some.inj e3
      subst e5
      obtain ⟨t, ev⟩ := Value.isStrOf_shape (x := y) (v := v) e2
      exact ⟨y, t, rfl, ev⟩
  have I1 : Inv X pins σ H { s with heap := h', toks := tk } := I.kept hk
  refine wpAny_bind (wpAny_newList ?_ (by rw [hal, sizeLine_eq]; omega))
  have hoL : (h'.push (seqObj "list" acc.toList.toArray 0)).get? h'.objs.size = some (seqObj "list" acc.toList.toArray 0) := Heap.get?_push_size _ rfl
  show wpAny _ _ _ _ _ { s with heap := h'.push (seqObj "list" acc.toList.toArray 0), toks := tk }
  refine wpAny_bind (wpAny_holding (wpAny_call_entry PyProof.Rows.slot_list_sort ⟨_, hoL, rfl⟩ PyProof.Rows.entry_list_sort
    (list_sort_treeK strKind_oneLt (s := { s with heap := h'.push (seqObj "list" acc.toList.toArray 0), toks := tk }) hoL hS.keysOf (fun v₁ v₂ rest e => keyKind_strs (by rw [← e]; exact hS)) (by rw [hal]; exact h64) fun st' hp hs => ⟨_, rfl, ?_⟩)
    (PyProof.Rows.args_list_sort _)))
  obtain ⟨ys, g1, g2, g3⟩ := sorted_out_str hS hp hs
  obtain ⟨e', he'⟩ := PyProof.Rows.sortedHeap_at (vs := acc.toList) (out := (arrOf st').map (·.2)) hoL
  have hlen : (ys.map V.str).length ≤ sizeLine := by
    rw [List.length_map, g2.length_eq]
    exact Nat.le_trans (Nat.le_of_lt h64) (by decide)
  refine wpAny_pure ⟨_, rfl, .ref h'.objs.size, upd H h'.objs.size (.lst (ys.map V.str)), I1.laid (t' := tk) (fun b u e => ?_) (Nat.le_refl _)
    (show ObjOk X.prog X.w _ _ _ (.lst (ys.map V.str)) from ⟨hlen, ((arrOf st').map (·.2)).toList, e', vals_of_strs g1, by rw [Array.toArray_toList]; exact he'⟩), rfl, q ys _ g2 g3 (I1.hok.fresh (Nat.le_refl _))⟩
  have hb : b < h'.objs.size := Heap.lt_size e
  rw [PyProof.Rows.sortedHeap_old (Nat.ne_of_lt hb) (by rw [size_push']; exact Nat.lt_succ_of_lt hb)]
  exact Heap.get?_push_of_some _ e
variable {σ : L2.St} {H : Hp} {Z : Addr → Prop} {pins : List (Addr × Obj)} {s : Shared}
theorem sortOk_alike {zs : List D} (h : sortOk zs = true) : PySem.W.AllAlike (zs.map id) := by
  simp only [sortOk, Bool.and_eq_true, List.all_eq_true] at h
  intro d hd e he
  simp only [List.map_id] at hd he
  exact h.1.1.1 d hd e he
theorem sortOk_sortable {zs : List D} (h : sortOk zs = true) : PySem.W.Sortable (zs.map id) := by
  simp only [sortOk, Bool.and_eq_true, Bool.or_eq_true, List.all_eq_true] at h
  rcases h.1.1.2 with h | h
  · refine .inl fun d hd => ?_
    simp only [List.map_id] at hd
    have := h d hd
    split at this
    · exact ⟨_, _, rfl⟩
    · cases this
  · refine .inr fun d hd => ?_
    simp only [List.map_id] at hd
    have := h d hd
    refine ⟨?_, fun xs => ?_⟩ <;> (rintro rfl; simp at this)
theorem sortOk_noDict {zs : List D} (h : sortOk zs = true) : PyData.hasDictAll zs = false := by
  simp only [sortOk, Bool.and_eq_true] at h
  simpa using h.1.2
theorem sortOk_depth {zs : List D} (h : sortOk zs = true) : ∀ d ∈ zs, d.depth ≤ 40 := by
  simp only [sortOk, Bool.and_eq_true, List.all_eq_true] at h
  intro d hd
  simpa using h.2 d hd
theorem each_rd (I : Inv X pins σ H s) : ∀ {ds : List D} {vs : List V} {us : List Value}, RDs (X.mo T) Z H ds vs → Vals vs us → PyData.hasDictAll ds = false → PySem.W.EachIs (fun u d => ∃ v, RD (X.mo T) Z H d v ∧ RelV v u) us ds ∧ PySem.W.EachIs (fun u d => ∃ as, Reads s.heap u (id d) as) us ds
  | _, _, _, .nil, .nil, _ => ⟨.nil, .nil⟩
  | _, _, _, .cons r rs, .cons v vs, e => by
    simp only [PyData.hasDictAll, Bool.or_eq_false_iff] at e
    obtain ⟨h1, h2⟩ := each_rd I rs vs e.2
    exact ⟨.cons ⟨_, r, v⟩ h1, .cons (RD.reads I r v e.1) h2⟩
theorem each_back {B : Mo} : ∀ {us : List Value} {ds : List D}, PySem.W.EachIs (fun u d => ∃ v, RD B Z H d v ∧ RelV v u) us ds → ∃ vs, RDs B Z H ds vs ∧ Vals vs us
  | _, _, .nil => ⟨[], .nil, .nil⟩
  | _, _, .cons ⟨v, r, e⟩ t => by
    obtain ⟨vs, h1, h2⟩ := each_back t
    exact ⟨v :: vs, .cons r h1, .cons e h2⟩
theorem sorted_list {Q : VK} {x : V} {u : Value} {zs : List D} (hu : X.A.units + 64 < cLine) (I : Inv X pins σ H s) (hx : Vw (X.mo T) Z H (.list zs) x) (rx : RelV x u) (hs : sortOk zs = true)
    (q : ∀ z H', New (X.mo T) Z H H' (.lst (sortD zs)) z → Q z H') : wpAny (model X.prog X.w) X.A (call (.builtin "sorted") [u]) (EP X pins σ Q) X.xe s := by
  obtain ⟨a, vs, rfl, hl, rs⟩ := hx.list
  cases (show u = Value.ref a from rx)
  obtain ⟨its, rv, hp, hz⟩ := I.list hl
  obtain ⟨e1, e2⟩ := each_rd I rs rv (sortOk_noDict hs)
  refine PySem.W.sorted_data hp.isList e1 e2 (sortOk_alike hs) (sortOk_sortable hs) (by rw [← e1.length, ← rv.length]; exact hz) (fun d hd => ?_) fun out ho ho2 => ?_
  · have := sortOk_depth hs d hd
    simp only [id]
    omega
  · obtain ⟨ws, r1, r2⟩ := each_back ho2
    obtain ⟨n, hn⟩ := PyProof.Rows.sortedAll_at s.heap its out.toArray
    have hf : H (s.heap.objs.size + 1) = none := I.hok.fresh (Nat.le_succ _)
    refine ⟨.ref (s.heap.objs.size + 1), upd H (s.heap.objs.size + 1) (.lst ws), I.laid (t' := s.toks) (fun b o e => PyProof.Rows.sortedAll_old e) (Nat.le_succ _) (show ObjOk X.prog X.w _ _ _ (.lst ws) from ⟨?_, out, n, r2, hn⟩), rfl, q _ _ (.lst hf r1)⟩
    rw [r2.length, ho, ← e1.length, ← rv.length]
    exact hz
theorem cs_sorted (hcalm : X.calm = true) (hu : X.A.units + 64 < cLine) : CallS T X (.builtin "sorted") (prmD .sorted) := by
  intro pins s σ H xs us Q Z ds m I rv h hg q
  match ds, h, hg with
  | [.list zs], h, hg =>
    obtain ⟨x, ys, rfl, hx, h⟩ := vws2 h
    cases vws0 h
    simp only [prmD] at hg
    split at hg
    · rename_i hs
      cases hg
      obtain ⟨u, rfl, rx⟩ := vals1 rv
      exact sorted_list hu I hx rx hs q
    · cases hg
  | [.dict ps], h, hg =>
    obtain ⟨x, ys, rfl, hx, h⟩ := vws2 h
    cases vws0 h
    simp only [prmD] at hg
    cases hst : strsD (ps.map (·.1)) with
    | none => rw [hst] at hg; cases hg
    | some ks =>
      rw [hst] at hg
      simp only [Option.bind_some] at hg
      split at hg
      · rename_i h64
        cases hg
        have fin : ∀ p, H p = none → Q (.ref p) (upd H p (.lst ((sortS ks).map V.str))) := fun p hp => q _ _ (.lst hp (by
          have gen : ∀ zs : List Str, RDs (X.mo T) Z H (zs.map PyData.str) (zs.map V.str) := fun zs => by
            induction zs with
            | nil => exact .nil
            | cons z zs ih => exact .cons (.str z) ih
          exact gen _))
        obtain ⟨a, kvs, rfl, r, z, hd, vs, rel, dd⟩ := dict_at I hx
        obtain ⟨u, rfl, rx⟩ := vals1 rv
        cases rx
        refine sorted_dict hcalm I hd rel dd (keys_of r hst) h64 fun ys p hp hs hn => ?_
        rw [sortS_uniq hp hs]
        exact fin p hn
      · cases hg
end
end Iv
set_option linter.all false
set_option maxRecDepth 100000
set_option maxHeartbeats 1000000
/-! Iv18i: sorted(e.items()). -/
namespace Iv
open PySem PySem.Spec PyProof.Rows L2
theorem key_rd {B : Mo} {Z : Addr → Prop} {H : Hp} {k : D} {q : Key} (e : keyD k = some q) : RD B Z H k (kV q) := by
  cases k <;> simp [keyD] at e <;> subst e
  · exact .int _
  · exact .str _
theorem two_key {k v : D} {q : Key} (e : keyD k = some q) : two [k, v] = true := by
  cases k <;> simp [keyD] at e <;> rfl
theorem pairs_rds {B : Mo} {Z : Addr → Prop} {H H' : Hp} (ext : ∀ b o, H b = some o → H' b = some o) : ∀ {ps : List (D × D)} {kvs : List (Key × V)} {as : List Addr}, RKs B Z H ps kvs → Paired (fun (t : Addr) (q : Key × V) => H' t = some (.tup [kV q.1, q.2])) as kvs → RDs B Z H' (ps.map fun p => .tuple [p.1, p.2]) (as.map V.ref)
  | _, _, _, .nil, .nil => .nil
  | _, _, _, .cons h r rs, .cons e t => .cons (.tup (.inl (.inl e)) (fun n => by rw [two_key h] at n; cases n) (.cons (key_rd h) (.cons (r.keep (kp_ext ext) fun _ z => z) .nil))) (pairs_rds ext rs t)
section
variable {X : Cx} {T : Flds} {A : Ask} {sg : Sig} {cf : CallFn}
open LiI in
theorem tups_laid {pins : List (Addr × Obj)} {σ : L2.St} {H : Hp} {s : Shared} {h' : Heap} {tk : Nat} {kvs : List (Key × V)} {vs : List (Key × Value)} {as : List Addr} (I : Inv X pins σ H s) (kv : KV kvs vs)
    (hk : ∀ b o, s.heap.get? b = some o → h'.get? b = some o) (hl : as.length = vs.length) (hG : PySem.W.KdxG (mixKind X.prog X.w) vs s.heap.objs.size h' as) :
    ∃ H' : Hp, (∀ b o, H b = some o → H' b = some o) ∧ Paired (fun (t : Addr) (q : Key × V) => H' t = some (.tup [kV q.1, q.2])) as kvs ∧ Inv X pins σ H' { s with heap := h', toks := tk } := by
  have lk : kvs.length = vs.length := Paired.length kv
  have nd : as.Nodup := List.Pairwise.imp (fun {a b} (h : a < b) => Nat.ne_of_lt h) hG.rise
  have new : ∀ t ∈ as, H t = none := fun t ht => I.hok.fresh (Nat.le_of_lt (hG.above t ht))
  have atP := putT_at as kvs H (by omega) nd
  have off : ∀ b, b ∉ as → putT H as kvs b = H b := fun b h1 => putT_off as kvs _ h1
  have low : ∀ b o, s.heap.get? b = some o → b ∉ as := fun b o e z => absurd (Heap.lt_size e) (Nat.not_lt.mpr (Nat.le_of_lt (hG.above b z)))
  have kp : ∀ b u, H b = some u → (putT H as kvs) b = some u := fun b u e => by
    rw [off b (fun z => by rw [new b z] at e; cases e)]
    exact e
  refine ⟨putT H as kvs, kp, atP, ?_⟩
  refine I.call' (ch := []) rfl ⟨fun b o q _ _ _ => hk b o q, fun b o q _ _ _ => ⟨o.slots, hk b o q⟩, fun b o q n _ => ?_, fun b o q _ => ⟨o, hk b o q⟩, fun b xs q => kp b _ q, fun b o u q => kp b _ q, fun b ps q => ⟨#[], by rw [kp b _ q]; simp⟩⟩ (fun b u q => ?_) I.bare fun b z => by simp at z
  · rw [off b (low b o q)]
    exact n
  · by_cases hb : b ∈ as
    · obtain ⟨j, pk, e1, e2, e3⟩ := paired_ix atP hb
      rw [e3] at q
      cases q
      obtain ⟨key, k, x, f1, f2, f3⟩ := hG.pairs j b e1
      obtain ⟨qv, g1, g2, g3⟩ := LiI.paired_get kv e2
      rw [f1] at g1
      cases g1
      have rk : RelV (kV pk.1) key := by
        rw [g2]
        exact relV_key (show keyIs k key = true from f2)
      exact ⟨by show 2 ≤ sizeLine; decide, [key, x], .cons rk (.cons g3 .nil), ⟨_, f3, rfl, _, rfl⟩⟩
    · rw [off b hb] at q
      exact (I.hok b u q).stay (fun d v _ y => hk d v y) (fun d y => kp d _ y) fun d xs y => kp d _ y
def tSI (B : Mo) (te : TE) : TE := fun σ H Q => te σ H fun x H1 => ∃ Z ps, Vw B Z H1 (.dict ps) x ∧ sortOk (ps.map fun p => .tuple [p.1, p.2]) = true ∧ ∀ z H', New B Z H1 H' (.lst (sortD (ps.map fun p => .tuple [p.1, p.2]))) z → Q z H'
theorem pe_sortedItems {e : Expr} {te : TE} {p apos cpos pos : Pos} (hc : X.calm = true) (hu : X.A.units + 64 < cLine) (he : PE X e te) (hg : Gl X "sorted") (hm : X.mg "sorted" = none) (hbase : attributeBase e "items" X.env (PySem.eval e X.env) = PySem.eval e X.env) (hline : (apos.endLine == cpos.line) = true)
    (hs : starEach [.Call (.Attribute e "items" apos) [] [] cpos] X.env = (false, PySem.eval (.Call (.Attribute e "items" apos) [] [] cpos) X.env) :: starEach [] X.env := by rfl) :
    PE X (.Call (.Name "sorted" p) [.Call (.Attribute e "items" apos) [] [] cpos] [] pos) (tSI (X.mo T) te) := by
  refine ⟨fun pins s σ H Q I hq => ?_⟩
  refine Call_ (ld_blt I hg hm PyProof.Rows.boot_sorted ?_)
  refine PyProof.Rows.callWith_builtin1 (PyProof.Rows.args_cons ?_ hs) rfl rfl
  refine wpAny_Call_method (T := "dict") (id := "dict.items") hbase rfl hline F.plainAttrs_dict F.slot_dict_items F.type_dict_items (thn (he.run pins s σ H _ I hq) fun u s1 ⟨x, H1, I1, rx, Z, ps, hx, hok, q⟩ => ?_)
  obtain ⟨d, kvs, rfl, r, hz, hs0, vs, kv, hdo⟩ := dict_at I1 hx
  cases (show u = Value.ref d from rx)
  obtain ⟨ep, hat⟩ := hdo.dictAt
  have lk : kvs.length = vs.length := Paired.length kv
  have I2 : Inv X pins σ H1 { s1 with heap := s1.heap.push { cls := .type "dict_items", data := .fields #[.ref d] } } := I1.kept (t' := s1.toks) fun b ob q => Heap.get?_push_of_some _ q
  refine ⟨hdo.typeIs, hdo.mapOf.noDict, ?_⟩
  show wpAny _ _ (callWith cpos (.builtin "dict.items") [.ref d] [] []) _ X.xe s1
  refine method_meetsIn F.slot_dict_items F.entry_dict_items rfl (PySem.evalArgs_none ⟨rfl, hdo.typeIs, F.args_dict_items_1 _, _, meets_dict_items (mixKind X.prog X.w) d hs0, ⟨vs, hdo⟩, ?_⟩)
  refine PyProof.Rows.args_nil ?_
  refine Calls.call_function_entry PyProof.Rows.kind_sorted PyProof.Rows.plain_sorted PyProof.Rows.entry_sorted (PyProof.Rows.args_sorted1 _) ?_
  unfold Builtin.«sorted»
  refine wpAny_bind (m := checkCount "sorted" 1 1 _) (wpAny_pure ?_)
  refine wpAny_bind (PySem.W.kdx_collect (A := X.A.in1) (knd := mixKind X.prog X.w) (kvs := vs) (ep := ep) (I1.ok.hd hc) ⟨_, Heap.get?_push_size _ rfl, rfl, rfl⟩ (hat.push _) (by omega) fun h' tk as hk hl hG => ?_)
  obtain ⟨H', k1, k6, J⟩ := tups_laid (tk := tk) I2 kv hk hl hG
  have rds := pairs_rds k1 r k6
  obtain ⟨e1, e2⟩ := each_rd J rds (LiI.vals_refs as) (sortOk_noDict hok)
  have hlen : (as.map Value.ref).length ≤ sizeLine := by rw [List.length_map, hl, ← lk]; exact hz
  refine wpAny_bind (wpAny_newList ?_ hlen)
  have hoL : (h'.push (seqObj "list" (as.map Value.ref).toArray 0)).get? h'.objs.size = some (seqObj "list" (as.map Value.ref).toArray 0) := Heap.get?_push_size _ rfl
  show wpAny _ _ _ _ _ { s1 with heap := h'.push (seqObj "list" (as.map Value.ref).toArray 0), toks := tk }
  generalize hps : ps.map (fun p => PyData.tuple [p.1, p.2]) = zs at *
  have er' : PySem.W.EachIs (fun v (b : D) => ∃ bs, Reads (PySem.W.sortingHeap (h'.push (seqObj "list" (as.map Value.ref).toArray 0)) h'.objs.size (as.map Value.ref)) v (id b) bs) (as.map Value.ref) zs :=
    e2.mono fun _ _ ⟨bs, rr⟩ => ⟨bs, PyProof.Rows.Reads.keeps (fun b o z => PySem.W.sortingHeap_old (Nat.ne_of_lt (Heap.lt_size z)) (Heap.get?_push_of_some _ z)) rr⟩
  refine wpAny_bind (wpAny_holding (wpAny_call_entry PyProof.Rows.slot_list_sort ⟨_, hoL, rfl⟩ PyProof.Rows.entry_list_sort
    (PySem.W.list_sort_vals (κ := PySem.W.dataKind (PySem.W.sortingHeap (h'.push (seqObj "list" (as.map Value.ref).toArray 0)) h'.objs.size (as.map Value.ref)) (zs.map id)) (s := { s1 with heap := h'.push (seqObj "list" (as.map Value.ref).toArray 0), toks := tk }) hoL
      (PySem.W.SortsAt.data (s := { s1 with heap := PySem.W.sortingHeap (h'.push (seqObj "list" (as.map Value.ref).toArray 0)) h'.objs.size (as.map Value.ref), toks := tk }) (PySem.W.each_map (R := fun v d => ∃ bs, Reads (PySem.W.sortingHeap (h'.push (seqObj "list" (as.map Value.ref).toArray 0)) h'.objs.size (as.map Value.ref)) v d bs) id er') (sortOk_alike hok) (sortOk_sortable hok) (PySem.W.bound_map fun d hd => ?_)) hlen ⟨_, rfl, ?_⟩)
    (PyProof.Rows.args_list_sort _)))
  · have := sortOk_depth hok d hd
    show X.A.units + 2 + d.depth < cLine
    omega
  · have ho2 := PySem.W.sortVals_data false e1 er' (sortOk_alike hok)
    have ho := PySem.W.sortVals_length (κ := PySem.W.dataKind (PySem.W.sortingHeap (h'.push (seqObj "list" (as.map Value.ref).toArray 0)) h'.objs.size (as.map Value.ref)) (zs.map id)) false (ks := as.map Value.ref) (vs := as.map Value.ref) rfl
    generalize PySem.W.sortVals (PySem.W.dataKind (PySem.W.sortingHeap (h'.push (seqObj "list" (as.map Value.ref).toArray 0)) h'.objs.size (as.map Value.ref)) (zs.map id)) false (as.map Value.ref) (as.map Value.ref) = out at *
    obtain ⟨ws, r1, r2⟩ := each_back ho2
    obtain ⟨n, hn⟩ := PyProof.Rows.sortedHeap_at (vs := as.map Value.ref) (out := out.toArray) hoL
    have hf : H' h'.objs.size = none := J.hok.fresh (Nat.le_refl _)
    have hf1 : H1 h'.objs.size = none := by
      cases hh : H1 h'.objs.size with
      | none => rfl
      | some o => rw [k1 _ _ hh] at hf; cases hf
    refine wpAny_pure ⟨_, rfl, .ref h'.objs.size, upd H' h'.objs.size (.lst ws), J.laid (t' := tk) (fun b o z => ?_) (Nat.le_refl _) (show ObjOk X.prog X.w _ _ _ (.lst ws) from ⟨?_, out, n, r2, hn⟩), rfl, q _ _ ?_⟩
    · have hb : b < h'.objs.size := Heap.lt_size z
      rw [PyProof.Rows.sortedHeap_old (Nat.ne_of_lt hb) (by rw [size_push']; exact Nat.lt_succ_of_lt hb)]
      exact Heap.get?_push_of_some _ z
    · rw [r2.length, ho]
      exact hlen
    · obtain ⟨n1, fp, n2, n3, n4⟩ := New.lst hf r1
      exact ⟨fun b o z => n1 b o (k1 b o z), fp, n2, n3, fun a ha => by
        cases hh : H1 a with
        | none => rfl
        | some o => have := n4 a ha; rw [k1 _ _ hh] at this; cases this⟩
theorem se_sitems {e : Expr} {c : Ex} {p apos cpos pos : Pos} (hc : X.calm = true) (hu : X.A.units + 64 < cLine) (hg : Gl X "sorted") (hm : X.mg "sorted" = none) (ha : SE (X.mo T) A sg cf X e c) (hb : noSuper e = true) (hline : (apos.endLine == cpos.line) = true) :
    SE (X.mo T) A sg cf X (.Call (.Name "sorted" p) [.Call (.Attribute e "items" apos) [] [] cpos] [] pos) (.prm .sitems [c]) := by
  refine .of rfl rfl ((pe_sortedItems (T := T) hc hu ha.po hg hm (base_ok hb) hline).imp fun σ H Q ⟨ρ, fr, s, q⟩ => ?_)
  rw [eval, opds] at q
  refine ⟨ρ, fr, s, ?_⟩
  cases ho : opd c (eval sg cf c) ρ with
  | none => rw [ho] at q; exact q.elim
  | some r =>
    rw [ho] at q
    cases r with
    | exc x ρ1 => exact q
    | ok t1 ρ1 =>
      refine fun x H1 m1 o1 s1 => ?_
      simp only [O.bind, opds] at q
      cases hl : t1.look ρ1 with
      | none => simp [lookAll, hl, ofM, After] at q
      | some d =>
        obtain ⟨Z, v, k⟩ := Sta.looks (ts := [t1]) (vs := [x]) s1 (.cons o1 .nil) (by simp [lookAll, hl] : lookAll ρ1 [t1] = some [d])
        cases v with
        | cons v1 _ =>
          cases d with
          | dict ps =>
            by_cases hok : sortOk (ps.map fun p => .tuple [p.1, p.2]) = true
            · simp only [lookAll, hl, prmD, hok, if_true, ofM, Option.bind_some, Option.map_some] at q
              exact ⟨Z, ps, v1, hok, fun z H' n => q z H' (m1.trans (.of_ext n.1)) (k H' _ z n)⟩
            · simp [lookAll, hl, prmD, hok, ofM, After] at q
          | _ => simp [lookAll, hl, prmD, ofM, After] at q
end
end Iv
set_option linter.all false
set_option maxRecDepth 100000
set_option maxHeartbeats 3200000
/-! Iv18t: len(set(..)) of texts. -/
namespace Iv
open PySem PySem.Spec PyProof.Rows L2 SS
theorem cnt_le (xs : List Str) : ∀ i, cnt xs i ≤ i
  | 0 => Nat.le_refl _
  | i + 1 => by
    have := cnt_le xs i
    rw [cnt]; split <;> omega
section
variable {prog : Program} {w : World} {A : Around} {R : Result → Shared → Prop} {I : Addr} {fp wr : List Addr} {G : Array GenState → Array GenState → Prop} {n : Nat} {P : Nat → Value → Prop} {St : Nat → Shared → Prop}
theorem loopStrN (W : WalksS prog w A.in1 I fp wr G n P St) (S : Addr) (hSf : S ∉ fp) (xs : List Str) (hsz : xs.length = n) (hb : n + 1 < scanBound)
    (hval : ∀ i v, P i v → ∃ t, v = .str (xs.getD i Str.empty) t) :
    ∀ (k i : Nat) (s : Shared), n - i = k → i ≤ n → St i s →
      s.heap.SetOf (PySem.strKind prog w) S (fun k' => (xs.take i).any (· == k')) (cnt xs i) →
      (∀ s', Moved (S :: wr) G s s' → s'.heap.SetOf (PySem.strKind prog w) S (fun k' => (xs.take n).any (· == k')) (cnt xs n) → R (.ok (.ret .none)) s') →
      codeAny (model prog w) A (.builtin "set.update.loop" ⟨[.ref S, .ref I], []⟩) R s := by
  have hSw : S ∉ wr := fun h => hSf (W.sub _ h)
  have hsub : ∀ b ∈ wr, b ∈ S :: wr := fun b hb => List.mem_cons_of_mem _ hb
  intro k
  induction k with
  | zero =>
    intro i s hk hi hst hS hR
    have hin : i = n := by omega
    subst hin
    refine codeAny_builtin PyProof.Rows.F.entry_set_update_loop ?_
    rw [Around.under_plainId PyProof.Rows.F.plain_set_update_loop _]
    show wpAny _ A.in1 (pyNext (.ref I) >>= _) _ _ s
    refine wpAny_bind (W.done s _ _ hst fun s' hm => ?_)
    show wpAny _ A.in1 (ret Value.none) _ _ s'
    exact wpAny_pure (hR s' (hm.mono hsub) (by
      obtain ⟨o, es, ep, t, ho, rest⟩ := hS
      exact ⟨o, es, ep, t, hm.heap S _ hSw ho, rest⟩))
  | succ k ih =>
    intro i s hk hi hst hS hR
    have hlt : i < n := by omega
    refine codeAny_builtin PyProof.Rows.F.entry_set_update_loop ?_
    rw [Around.under_plainId PyProof.Rows.F.plain_set_update_loop _]
    show wpAny _ A.in1 (pyNext (.ref I) >>= _) _ _ s
    refine wpAny_bind (W.item i s _ _ hlt hst fun v s' hP hst' hm => ?_)
    obtain ⟨t, rfl⟩ := hval i v hP
    have hS' : s'.heap.SetOf (PySem.strKind prog w) S (fun k' => (xs.take i).any (· == k')) (cnt xs i) := by
      obtain ⟨o, es, ep, tb, ho, rest⟩ := hS
      exact ⟨o, es, ep, tb, hm.heap S _ hSw ho, rest⟩
    show wpAny _ A.in1 (holding [Value.str (xs.getD i Str.empty) t] (setAdd S (.str (xs.getD i Str.empty) t)) >>= _) _ _ s'
    refine wpAny_bind (wpAny_holding ?_)
    unfold setAdd
    refine wpAny_holding ?_
    refine wpAny_bind ((PySem.strKind prog w).pyHash (k := xs.getD i Str.empty) (strKind_is _ _ _ _) ?_)
    refine wpAny_setAddHashed_of (knd := PySem.strKind prog w) (s := { s' with toks := s'.toks + 1 }) (strKind_is _ _ _ _) rfl hS' (by have := cnt_le xs i; omega) fun h' hsb hS2 => ?_
    have hSi : h'.SetOf (PySem.strKind prog w) S (fun k' => (xs.take (i + 1)).any (· == k')) (cnt xs (i + 1)) := by
      refine SetOf_congr hS2 (fun k' => ?_) rfl
      have e : xs.take (i + 1) = xs.take i ++ [xs.getD i Str.empty] := by
        rw [List.take_succ, List.getElem?_eq_getElem (by omega)]
        simp [List.getD, List.getElem?_eq_getElem (show i < xs.length by omega)]
      rw [e, List.any_append]
      congr 1
      simp only [List.any_cons, List.any_nil, Bool.or_false]
      by_cases h : k' = xs.getD i Str.empty
      · subst h; simp
      · have hb : (xs.getD i Str.empty == k') = false := beq_eq_false_iff_ne.mpr fun e => h e.symm
        rw [hb]; exact decide_eq_false h
    refine wpAny_pure ⟨plainId_quiet PyProof.Rows.F.plain_set_update_loop _, ih (i + 1) _ (by omega) hlt (W.frame _ s' _ _ hst' (Nat.le_succ _) fun b hb o e => ?_) hSi fun s'' hm'' hS'' => ?_⟩
    · rw [hsb.2 b (fun h : b = S => hSf (by rw [← h]; exact hb))]; exact e
    · refine hR s'' (Moved.trans W.gtrans ((hm.mono hsub).then_heap (Nat.le_succ _) fun b o hb e => ?_) hm'') hS''
      rw [hsb.2 b (fun h : b = S => hb (by rw [h]; exact List.mem_cons_self))]; exact e
end
section
variable {prog : Program} {w : World} {A : Around} {E : Value → Shared → Prop} {s : Shared}
set_option maxHeartbeats 3200000 in
theorem call_set_listN {l : Addr} {items : Array Value} {xs : List Str} {Q : Value → Shared → Prop}
    (hh : A.handled = none) (hl : s.heap.IsList l items) (hi : PyProof.Rows.StrsAre items.toList xs) (hb : xs.length + 1 < scanBound)
    (h : ∀ (h' : Heap) (tk : Nat), h'.SetOf (PySem.strKind prog w) s.heap.objs.size (fun k' => (xs.take items.size).any (· == k')) (cnt xs items.size) →
      (∀ b o, b < s.heap.objs.size → s.heap.get? b = some o → h'.get? b = some o) → Q (.ref s.heap.objs.size) { s with heap := h', toks := tk }) :
    wpAny (model prog w) A (call (.type "set") [.ref l]) Q E s := by
  obtain ⟨c, tl, hmro⟩ := PySem.F.called_set.mro
  have hmade := PySem.F.called_set.made
  have hsub := PySem.F.called_set.sub
  refine wpAny_call (codeAny_of_tree ?_)
  show wpAny _ _ (callAny (.type "set") _) _ _ _
  refine wpAny_pure ⟨Code.quiet_builtin _ (by decide +kernel), codeAny_builtin PySem.F.entry_type_call ?_⟩
  rw [Around.under_plain (weight_type_call_type "set" [.ref l] []) rfl]
  have h1 := PySem.F.called_set.notType
  have h2 := PySem.F.called_set.canCreate
  have hct := PySem.F.typeCall_set_1 (.ref l)
  repeat (any_goals (first | assumption | wp_step))

  refine codeAny_mono (code_set_new_1 (.ref l) (E := E) (Q₁ := fun obj s₁ => ∃ led : Bool, obj = .ref s.heap.objs.size ∧ s₁ = { s with heap := s.heap.push { cls := .type "set", dict := none, data := .set #[] 0 (.fresh 0 0 led) } }) fun led => ⟨led, rfl, rfl⟩) fun r s₁ hr => ?_
  cases r with
  | error e => exact hr
  | ok fl =>
    cases fl with
    | ret obj =>
      obtain ⟨led, rfl, rfl⟩ := hr
      have hS : (s.heap.push { cls := .type "set", dict := none, data := .set #[] 0 (.fresh 0 0 led) }).get? s.heap.objs.size = some { cls := .type "set", dict := none, data := .set #[] 0 (.fresh 0 0 led) } := Heap.get?_push_size _ rfl
      have hT : Shared.TypeIs { s with heap := s.heap.push { cls := .type "set", dict := none, data := .set #[] 0 (.fresh 0 0 led) } } (.ref s.heap.objs.size) "set" := ⟨_, hS, rfl⟩
      have hli := PySem.F.called_set.init.lookup
      have hbi := PySem.F.called_set.init.bind (.ref s.heap.objs.size)
      repeat (any_goals (first | assumption | wp_step))

      refine codeAny_mono (codeAny_call_builtin (R := wants (fun r s₂ => r = .none ∧ ∃ h' tk, s₂ = { s with heap := h', toks := tk } ∧
          h'.SetOf (PySem.strKind prog w) s.heap.objs.size (fun k' => (xs.take items.size).any (· == k')) (cnt xs items.size) ∧
          (∀ b o, b < s.heap.objs.size → s.heap.get? b = some o → h'.get? b = some o)) E) PySem.F.called_set.init.plain PySem.F.entry_set_init (check_set_init_1 hT ?_)) fun r₂ s₂ hr₂ => ?_
      · obtain ⟨ol, hol, hcl, nl, hdl⟩ := hl
        obtain ⟨ocls, odict, odata, oslots⟩ := ol
        simp only at hcl hdl
        subst hcl; subst hdl
        have hol' : (s.heap.push { cls := .type "set", dict := none, data := .set #[] 0 (.fresh 0 0 led) }).get? l = some { cls := .type "list", dict := odict, data := .seq items nl, slots := oslots } := Heap.get?_push_of_some _ hol
        have hsls := PySem.F.sub_list_set
        have hslf := PySem.F.sub_list_frozenset
        have hne : (Value.type "list" == Value.type "dict") = false := by decide
        have hl1 : (s.heap.push { cls := .type "set", dict := none, data := .set #[] 0 (.fresh 0 0 led) }).IsList l items := ⟨_, hol', rfl, nl, rfl⟩
        unfold Builtin.«set.__init__» noKeywords Builtin.Frozenset.updateFrom
        generalize hPI : pyIter = PI
        wp_walk
        subst hPI

        refine wpAny_pyIter_list hl1 ?_
        refine wpAny_bind (wpAny_runValue ?_)
        have hlS : l < s.heap.objs.size := Heap.lt_size hol
        have hh3 : A.in1.in1.in1.handled = none := by simp [hh]
        have hneI : l ≠ (s.heap.push { cls := .type "set", dict := none, data := .set #[] 0 (.fresh 0 0 led) }).objs.size := by
          rw [Heap.size_push]; exact Nat.ne_of_lt (Nat.lt_succ_of_lt hlS)
        have hSf : s.heap.objs.size ∉ [(s.heap.push { cls := .type "set", dict := none, data := .set #[] 0 (.fresh 0 0 led) }).objs.size, l] := by
          rw [Heap.size_push]; simp only [List.mem_cons, List.mem_singleton, List.not_mem_nil, or_false, not_or]
          exact ⟨Nat.ne_of_lt (Nat.lt_succ_self _), Nat.ne_of_gt hlS⟩
        have hsz : xs.length = items.size := by rw [← StrsAre.len_eq hi, Array.length_toList]
        have hval : ∀ (i : Nat) (v : Value), items[i]? = some v → ∃ t, v = .str (xs.getD i Str.empty) t := fun i v hv => strs_at hi i v (by rw [Array.getElem?_toList]; exact hv)
        refine loopStrN ((Walks.list hh3 _ l hneI items).toS) s.heap.objs.size
          hSf xs hsz (by rw [← hsz]; exact hb) hval (items.size - 0) 0 _ (by omega) (Nat.zero_le _)
          ⟨⟨_, Heap.get?_push_size _ rfl, rfl, rfl⟩, (hl1.push _)⟩ ?hS0 ?hR
        case hS0 =>
          have hget : ((s.heap.push { cls := .type "set", dict := none, data := .set #[] 0 (.fresh 0 0 led) }).push { cls := .type "list_iterator", data := .fields #[.ref l, .int 0 0] }).get? s.heap.objs.size
              = some { cls := .type "set", dict := none, data := .set #[] 0 (.fresh 0 0 led) } := Heap.get?_push_of_some _ hS
          exact PyProof.Rows.SetOf_congr ((PyProof.Rows.setObjOf_fresh (knd := PySem.strKind prog w) led).setOf hget (by unfold scanBound; omega)) (fun _ => rfl) rfl
        case hR =>
          intro s' hm hS'
          obtain ⟨h', g', d', tk', os'⟩ := s'
          have eg : g' = s.gens := hm.gens
          have ed : d' = s.drawn := hm.drawn
          have eo : os' = s.os := hm.os
          subst eg; subst ed; subst eo
          show wpAny _ _ _ _ _ _
          refine wpAny_pure ?_
          show wpAny _ _ (ret Value.none) _ _ _
          refine wpAny_pure ⟨rfl, h', tk', rfl, hS', fun b o hb e => ?_⟩
          have hb1 : b ≠ s.heap.objs.size := Nat.ne_of_lt hb
          have hb2 : b ≠ (s.heap.push { cls := .type "set", dict := none, data := .set #[] 0 (.fresh 0 0 led) }).objs.size := by
            rw [Heap.size_push]; exact Nat.ne_of_lt (Nat.lt_succ_of_lt hb)
          exact hm.heap b o (by simp only [List.mem_cons, List.mem_singleton, List.not_mem_nil, or_false, not_or]; exact ⟨hb1, hb2⟩) (Heap.get?_push_of_some _ (Heap.get?_push_of_some _ e))

      · cases r₂ with
        | error e => exact hr₂
        | ok fl₂ =>
          cases fl₂ with
          | ret r =>
            obtain ⟨rfl, h', tk, rfl, hS', hk'⟩ := hr₂
            repeat (any_goals (first | assumption | wp_step))
            exact h _ _ hS' hk'
          | _ => exact hr₂.elim
    | _ => exact hr.elim

end
section
variable {X : Cx} {A : Ask} {sg : Sig} {cf : CallFn} {T : Flds} {σ : L2.St} {H : Hp}
def tLenSetN (K : PySem.W.Frag) (ta : TE) : TE := fun σ H Q => ta σ H fun x H1 => ∃ l, ∃ xs : List Str, x = .ref l ∧ SqL K H1 l (xs.map V.str) ∧ xs.length + 1 < scanBound ∧ Q (.int (cnt xs xs.length)) H1
theorem pe_lenSetN {a : Expr} {ta : TE} {p p2 q pos : Pos} (hc : X.calm = true) (hg : Gl X "len") (hm : X.mg "len" = none) (hg2 : Gl X "set") (hm2 : X.mg "set" = none) (ha : PE X a ta)
    (na : starEach [a] X.env = (false, PySem.eval a X.env) :: starEach [] X.env) : PE X (.Call (.Name "len" p) [.Call (.Name "set" p2) [a] [] q] [] pos) (tLenSetN X.K ta) := by
  refine ⟨fun pins s σ H Q I h => ?_⟩
  refine Call_ (ld_blt I hg hm boot_len ?_)
  refine PyProof.Rows.callWith_builtin1 (PyProof.Rows.args_cons ?_ rfl) rfl rfl
  refine Call_ (ld_blt I hg2 hm2 boot_set ?_)
  refine PyProof.Rows.callWith_type1 (PyProof.Rows.args_cons (thn (ha.run pins s σ H _ I h) fun v s1 ⟨x, H1, I1, r1, q1⟩ => PyProof.Rows.args_nil ?_) na) na rfl
  obtain ⟨l, xs, rfl, hq, h1, q1⟩ := q1
  cases r1
  obtain ⟨its, r, pl, hz⟩ := I1.list hq
  refine call_set_listN (I1.ok.hd hc) pl.isList (by simpa using strsAre_of r) h1 fun h' tk hS hk => ?_
  refine PyProof.Rows.args_nil ?_
  have hl : its.toArray.size = xs.length := by rw [List.size_toArray, ← r.length, List.length_map]
  rw [hl] at hS
  obtain ⟨o, es, ep, t, ho, hex, hd, _, _, _, hf, hn⟩ := hS
  have I2 : Inv X pins σ H1 { s1 with heap := h', toks := tk } := I1.kept fun b o e => hk b o (Heap.lt_size e) e
  have hcl := cnt_le xs xs.length
  have hzl : xs.length ≤ sizeLine := by simpa using hz
  refine call_len_set ho hex hd hf (by rw [hn, sizeLine_eq] at *; omega) ⟨.int (cnt xs xs.length), H1, I2.tok _, ⟨_, by rw [hn]⟩, q1⟩
theorem se_lenset {a : Expr} {c : Ex} {p p2 q pos : Pos} (hc : X.calm = true) (hg : Gl X "len") (hm : X.mg "len" = none) (hg2 : Gl X "set") (hm2 : X.mg "set" = none) (ha : SE (X.mo T) A sg cf X a c) (hs : notStar a = true) : SE (X.mo T) A sg cf X (.Call (.Name "len" p) [.Call (.Name "set" p2) [a] [] q] [] pos) (.prm .set [c]) := by
  refine .of rfl rfl ((pe_lenSetN hc hg hm hg2 hm2 ha.po (star_cons hs)).imp fun σ H Q ⟨ρ, fr, s, q⟩ => ?_)
  rw [eval, opds] at q
  refine ⟨ρ, fr, s, ?_⟩
  cases ho : opd c (eval sg cf c) ρ with
  | none => rw [ho] at q; exact q.elim
  | some r =>
    rw [ho] at q
    cases r with
    | exc x ρ1 => exact q
    | ok t1 ρ1 =>
      refine fun x H1 m1 o1 s1 => ?_
      simp only [O.bind, opds] at q
      cases hl : t1.look ρ1 with
      | none => simp [lookAll, hl, ofM, After] at q
      | some d =>
        obtain ⟨Z, v, k⟩ := Sta.looks (ts := [t1]) (vs := [x]) s1 (.cons o1 .nil) (by simp [lookAll, hl] : lookAll ρ1 [t1] = some [d])
        cases v with
        | cons v1 _ =>
          cases d with
          | list zs =>
            cases hst : strsD zs with
            | none => simp [lookAll, hl, prmD, hst, ofM, After] at q
            | some ys =>
              by_cases hlen : ys.length < 1000
              · simp only [lookAll, hl, prmD, hst, hlen, if_true, ofM, Option.bind_some, Option.map_some] at q
                obtain ⟨a, vs, rfl, hq, r⟩ := v1.list
                rw [strs_eq r hst] at hq
                exact ⟨a, ys, rfl, hq, by unfold scanBound; omega, q (.int _) H1 m1 (k H1 _ _ (.imm (.int _)))⟩
              · simp [lookAll, hl, prmD, hst, hlen, ofM, After] at q
          | _ => simp [lookAll, hl, prmD, ofM, After] at q
end
end Iv
set_option linter.all false
set_option maxRecDepth 100000
set_option maxHeartbeats 3200000
/-! Iv18z: tuple(zip(a, b)) of lists. -/
namespace Iv
open PySem PySem.Spec PyProof.Rows L2
abbrev IsZipF (h : Heap) (z TI TO : Addr) (f0 : Value) (fl : Bool) : Prop :=
  h.get? z = some { cls := .type "zip", dict := none, data := .fields #[f0, .bool fl, .bool false, .ref TI, .ref TO], slots := #[] }
section
variable {prog : Program} {w : World} {A : Around} {E : Value → Shared → Prop} {s : Shared}
theorem wp_alive {a : Addr} {o : Obj} {Q : Option Obj → Shared → Prop} (h : s.heap.get? a = some o) (hQ : Q (some o) s) : wpAny (model prog w) A (loadIfAlive a) Q E s := fun Γ p hΓ => by
  unfold loadIfAlive
  rw [Sem.wp_loadIfAlive, h]
  exact wpAny_pure (M := model prog w) (A := A) (E := E) hQ Γ p hΓ
theorem not_free {z TI TO T : Addr} {fl : Bool} {o : Obj} {Q : Bool → Shared → Prop} (hz : IsZipF s.heap z TI TO (rawInt T) fl) (hT : s.heap.get? T = some o) (hQ : ∀ h', IsZipF h' z TI TO (rawInt T) true → Heap.SameBut z s.heap h' → Q false { s with heap := h' }) :
    wpAny (model prog w) A (Builtin.SmallTypes.ownedTupleIsFree (.ref z)) Q E s := by
  unfold Builtin.SmallTypes.ownedTupleIsFree
  refine wpAny_bind (wpAny_field hz rfl (x := rawInt T) rfl ?_)
  show wpAny _ _ (loadIfAlive (T : Int).toNat >>= _) _ _ _
  refine wpAny_bind (wp_alive (by simpa using hT) ?_)
  simp only [Option.isNone_some, Bool.false_eq_true, if_false]
  refine wpAny_bind (wpAny_field hz rfl (x := .bool fl) rfl ?_)
  cases fl with
  | true =>
    simp only [bne_self_eq_false, Bool.false_eq_true, if_false]
    refine wpAny_pure (hQ s.heap hz ⟨rfl, fun _ _ => rfl⟩)
  | false =>
    rw [if_pos (by decide)]
    exact wpAny_bind (wpAny_setField_rec hz (by simp) fun h₁ hz₁ hs₁ => wpAny_pure (hQ h₁ hz₁ hs₁))
theorem zip_more {z TI TO T i1 i2 l1 l2 : Addr} {fl : Bool} {k1 k2 : Nat} {xs ys : Array Value} {x y : Value} {o : Obj} {Q : Value → Shared → Prop} (D : ZipApart z TI TO i1 i2 l1 l2)
    (hz : IsZipF s.heap z TI TO (rawInt T) fl) (hT : s.heap.get? T = some o) (hTI : IsPair s.heap TI (.ref i1) (.ref i2))
    (h1 : s.heap.IsListIter i1 l1 k1) (h2 : s.heap.IsListIter i2 l2 k2) (hl1 : s.heap.IsList l1 xs) (hl2 : s.heap.IsList l2 ys) (hx : xs[k1]? = some x) (hy : ys[k2]? = some y)
    (hQ : ∀ h', IsZipF h' z TI TO (rawInt T) true → h'.IsListIter i1 l1 (k1 + 1) → h'.IsListIter i2 l2 (k2 + 1) → IsPair h' s.heap.objs.size x y → h'.objs.size = s.heap.objs.size + 1 →
      (∀ c o, c ≠ z → c ≠ i1 → c ≠ i2 → s.heap.get? c = some o → h'.get? c = some o) → Q (.ref s.heap.objs.size) { s with heap := h' }) :
    wpAny (model prog w) A (Builtin.«zip.__next__» ⟨[.ref z], []⟩) (fun fin s' => ∃ v, fin = .done (.ret v) ∧ Q v s') E s := by
  show wpAny _ _ (field (.ref z) 2 >>= _) _ _ _
  refine wpAny_bind (wpAny_field hz rfl (x := .bool false) rfl ?_)
  show wpAny _ _ (field (.ref z) 3 >>= _) _ _ _
  refine wpAny_bind (wpAny_field hz rfl (x := .ref TI) rfl ?_)
  refine wpAny_bind (wpAny_seqItems hTI rfl ?_)
  show wpAny _ _ (Builtin.SmallTypes.ownedTupleIsFree (.ref z) >>= _) _ _ _
  refine wpAny_bind (not_free hz hT fun h₁ hz₁ hs₁ => ?_)
  simp only [Bool.false_eq_true, if_false]
  refine wpAny_bind ?_
  simp only [← Array.forIn_toList, List.forIn_cons, List.forIn_nil]
  refine wpAny_bind (wpAny_bind (wpAny_holding ?_))
  show wpAny _ _ (Builtin.SmallTypes.nextOf (.ref i1) >>= _) _ _ _
  refine wpAny_bind (wpAny_nextOf_list_item (h1.extBut hs₁.extBut D.i1z) (hl1.extBut hs₁.extBut D.l1z) hx fun h₂ h1₂ hs₂ => wpAny_pure ?_)
  refine wpAny_pure ?_
  refine wpAny_bind (wpAny_bind (wpAny_holding ?_))
  show wpAny _ _ (Builtin.SmallTypes.nextOf (.ref i2) >>= _) _ _ _
  refine wpAny_bind (wpAny_nextOf_list_item ((h2.extBut hs₁.extBut D.i2z).extBut hs₂.extBut D.i12.symm) ((hl2.extBut hs₁.extBut D.l2z).extBut hs₂.extBut D.l2i1) hy fun h₃ h2₃ hs₃ => wpAny_pure ?_)
  refine wpAny_pure ?_
  refine wpAny_pure ?_
  have hsz : h₃.objs.size = s.heap.objs.size := by rw [hs₃.1, hs₂.1, hs₁.1]
  refine wpAny_bind (wpAny_newTuple ?_ (by show 2 ≤ sizeLine; decide))
  refine wpAny_pure ⟨_, rfl, ?_⟩
  show Q (.ref h₃.objs.size) _
  have up : ∀ c o, h₃.get? c = some o → (h₃.push { cls := .type "tuple", data := .seq #[x, y] }).get? c = some o := fun c o e => Heap.get?_push_of_some _ e
  rw [hsz]
  refine hQ _ (up _ _ (hs₃.extBut _ _ D.i2z.symm (hs₂.extBut _ _ D.i1z.symm hz₁))) ((h1₂.extBut hs₃.extBut D.i12).at fun o e => up _ o e) (h2₃.at fun o e => up _ o e) ?_ (by rw [Heap.size_push, hsz]) fun c o c1 c2 c3 e => up _ _ (hs₃.extBut _ _ c3 (hs₂.extBut _ _ c2 (hs₁.extBut _ _ c1 e)))
  rw [← hsz]
  exact Heap.get?_push_size _ rfl
theorem zip_more_end {z TI TO T i1 i2 l1 l2 : Addr} {fl : Bool} {k1 k2 : Nat} {xs ys : Array Value} {o : Obj} {Q : Fin → Shared → Prop} (hh : A.handled = none) (D : ZipApart z TI TO i1 i2 l1 l2)
    (hz : IsZipF s.heap z TI TO (rawInt T) fl) (hT : s.heap.get? T = some o) (hTI : IsPair s.heap TI (.ref i1) (.ref i2))
    (h1 : s.heap.IsListIter i1 l1 k1) (h2 : s.heap.IsListIter i2 l2 k2) (hl1 : s.heap.IsList l1 xs) (hl2 : s.heap.IsList l2 ys) (hend : xs[k1]? = none ∨ ys[k2]? = none)
    (hE : ∀ h' e, (∀ c o, c ≠ z → c ≠ i1 → c ≠ i2 → s.heap.get? c = some o → h'.get? c = some o) → (∃ o, h'.get? e = some o ∧ o.cls = .type "StopIteration") → E (.ref e) { s with heap := h' }) :
    wpAny (model prog w) A (Builtin.«zip.__next__» ⟨[.ref z], []⟩) Q E s := by
  show wpAny _ _ (field (.ref z) 2 >>= _) _ _ _
  refine wpAny_bind (wpAny_field hz rfl (x := .bool false) rfl ?_)
  show wpAny _ _ (field (.ref z) 3 >>= _) _ _ _
  refine wpAny_bind (wpAny_field hz rfl (x := .ref TI) rfl ?_)
  refine wpAny_bind (wpAny_seqItems hTI rfl ?_)
  show wpAny _ _ (Builtin.SmallTypes.ownedTupleIsFree (.ref z) >>= _) _ _ _
  refine wpAny_bind (not_free hz hT fun h₁ hz₁ hs₁ => ?_)
  simp only [Bool.false_eq_true, if_false]
  refine wpAny_bind ?_
  simp only [← Array.forIn_toList, List.forIn_cons, List.forIn_nil]
  refine wpAny_bind (wpAny_bind (wpAny_holding ?_))
  show wpAny _ _ (Builtin.SmallTypes.nextOf (.ref i1) >>= _) _ _ _
  cases hx : xs[k1]? with
  | none =>
    refine wpAny_bind (wpAny_nextOf_list_end hh (h1.extBut hs₁.extBut D.i1z) (hl1.extBut hs₁.extBut D.l1z) hx fun h₂ e hs₂ he => ?_)
    exact hE h₂ e (fun c o c1 c2 _ x => hs₂ _ _ c2 (hs₁.extBut _ _ c1 x)) he
  | some x =>
    have hy : ys[k2]? = none := by rcases hend with h | h; rw [hx] at h; cases h; exact h
    refine wpAny_bind (wpAny_nextOf_list_item (h1.extBut hs₁.extBut D.i1z) (hl1.extBut hs₁.extBut D.l1z) hx fun h₂ h1₂ hs₂ => wpAny_pure ?_)
    refine wpAny_pure ?_
    refine wpAny_bind (wpAny_bind (wpAny_holding ?_))
    show wpAny _ _ (Builtin.SmallTypes.nextOf (.ref i2) >>= _) _ _ _
    refine wpAny_bind (wpAny_nextOf_list_end hh ((h2.extBut hs₁.extBut D.i2z).extBut hs₂.extBut D.i12.symm) ((hl2.extBut hs₁.extBut D.l2z).extBut hs₂.extBut D.l2i1) hy fun h₃ e hs₃ he => ?_)
    exact hE h₃ e (fun c o c1 c2 c3 x => hs₃ _ _ c3 (hs₂.extBut _ _ c2 (hs₁.extBut _ _ c1 x))) he
theorem next_more {z TI TO T i1 i2 l1 l2 : Addr} {fl : Bool} {k1 k2 : Nat} {xs ys : Array Value} {x y : Value} {o : Obj} {Q : Option Value → Shared → Prop} (D : ZipApart z TI TO i1 i2 l1 l2)
    (hz : IsZipF s.heap z TI TO (rawInt T) fl) (hT : s.heap.get? T = some o) (hTI : IsPair s.heap TI (.ref i1) (.ref i2))
    (h1 : s.heap.IsListIter i1 l1 k1) (h2 : s.heap.IsListIter i2 l2 k2) (hl1 : s.heap.IsList l1 xs) (hl2 : s.heap.IsList l2 ys) (hx : xs[k1]? = some x) (hy : ys[k2]? = some y)
    (hQ : ∀ h', IsZipF h' z TI TO (rawInt T) true → h'.IsListIter i1 l1 (k1 + 1) → h'.IsListIter i2 l2 (k2 + 1) → IsPair h' s.heap.objs.size x y → h'.objs.size = s.heap.objs.size + 1 →
      (∀ c o, c ≠ z → c ≠ i1 → c ≠ i2 → s.heap.get? c = some o → h'.get? c = some o) → Q (some (.ref s.heap.objs.size)) { s with heap := h' }) :
    wpAny (model prog w) A (pyNext (.ref z)) Q E s := by
  have hTy : s.TypeIs (.ref z) "zip" := ⟨_, hz, rfl⟩
  unfold pyNext
  exact wpAny_bind (wpAny_attempt (wpAny_callSpecial?_slot (name := Str.ofString "__next__") hTy PySem.F.slot_zip_next
    (wpAny_call_entry PySem.F.slot_zip_next hTy PySem.F.entry_zip_next
      (zip_more D hz hT hTI h1 h2 hl1 hl2 hx hy fun h' a1 a2 a3 a4 a5 a6 => wpAny_pure (hQ h' a1 a2 a3 a4 a5 a6)) (PySem.F.args_zip_next_1 _))))
theorem next_more_end {z TI TO T i1 i2 l1 l2 : Addr} {fl : Bool} {k1 k2 : Nat} {xs ys : Array Value} {o : Obj} {Q : Option Value → Shared → Prop} (hh : A.handled = none) (D : ZipApart z TI TO i1 i2 l1 l2)
    (hz : IsZipF s.heap z TI TO (rawInt T) fl) (hT : s.heap.get? T = some o) (hTI : IsPair s.heap TI (.ref i1) (.ref i2))
    (h1 : s.heap.IsListIter i1 l1 k1) (h2 : s.heap.IsListIter i2 l2 k2) (hl1 : s.heap.IsList l1 xs) (hl2 : s.heap.IsList l2 ys) (hend : xs[k1]? = none ∨ ys[k2]? = none)
    (hQ : ∀ h', (∀ c o, c ≠ z → c ≠ i1 → c ≠ i2 → s.heap.get? c = some o → h'.get? c = some o) → Q none { s with heap := h' }) : wpAny (model prog w) A (pyNext (.ref z)) Q E s := by
  have hTy : s.TypeIs (.ref z) "zip" := ⟨_, hz, rfl⟩
  unfold pyNext
  refine wpAny_bind (wpAny_attempt (wpAny_callSpecial?_slot (name := Str.ofString "__next__") hTy PySem.F.slot_zip_next
    (wpAny_call_entry PySem.F.slot_zip_next hTy PySem.F.entry_zip_next (zip_more_end hh D hz hT hTI h1 h2 hl1 hl2 hend fun h' e hk he => ?_) (PySem.F.args_zip_next_1 _))))
  obtain ⟨o, ho, hc⟩ := he
  refine wpAny_bind (wpAny_isInstance (T := "StopIteration") (b := true) ⟨o, ho, hc⟩ isSubtype_stop ?_)
  exact wpAny_pure (hQ _ hk)
/-- the zip's state at turn i -/
structure ZS (S : Addr) (h : Heap) (z TI TO i1 i2 l1 l2 : Addr) (xs ys : Array Value) (i : Nat) : Prop where
  st : (∃ a b, IsZip h z TI TO .none ∧ IsPair h TO a b) ∨ ∃ (T : Addr) (o : Obj) (fl : Bool), IsZipF h z TI TO (rawInt T) fl ∧ h.get? T = some o ∧ T ≠ z ∧ T ≠ i1 ∧ T ≠ i2 ∧ T ≠ S ∧ ∃ u, h.get? TO = some u
  ti : IsPair h TI (.ref i1) (.ref i2)
  h1 : h.IsListIter i1 l1 i
  h2 : h.IsListIter i2 l2 i
  l1 : h.IsList l1 xs
  l2 : h.IsList l2 ys
/-- the pairs that were put together -/
def Prs (h : Heap) (lo : Addr) (bad : List Addr) (xs ys acc : Array Value) : Prop := ∀ (j : Nat) (v : Value), acc[j]? = some v → ∃ a x y, v = .ref a ∧ lo ≤ a ∧ a ∉ bad ∧ IsPair h a x y ∧ xs[j]? = some x ∧ ys[j]? = some y
theorem ZS.keep {S : Addr} {h h' : Heap} {z TI TO i1 i2 l1 l2 : Addr} {xs ys : Array Value} {i : Nat} (Z : ZS S h z TI TO i1 i2 l1 l2 xs ys i) (hS : S ∉ [z, TI, TO, i1, i2, l1, l2]) (k : ∀ b, b ≠ S → ∀ o, h.get? b = some o → h'.get? b = some o) : ZS S h' z TI TO i1 i2 l1 l2 xs ys i := by
  simp only [List.mem_cons, List.not_mem_nil, or_false, not_or] at hS
  obtain ⟨s1, s2, s3, s4, s5, s6, s7⟩ := hS
  refine ⟨?_, k _ (Ne.symm s2) _ Z.ti, Z.h1.at fun o e => k _ (Ne.symm s4) o e, Z.h2.at fun o e => k _ (Ne.symm s5) o e, ?_, ?_⟩
  · rcases Z.st with ⟨a, b, hz, hTO⟩ | ⟨T, o, fl, hz, hT, n⟩
    · exact .inl ⟨a, b, k _ (Ne.symm s1) _ hz, k _ (Ne.symm s3) _ hTO⟩
    · exact .inr ⟨T, o, fl, k _ (Ne.symm s1) _ hz, k _ n.2.2.2.1 _ hT, n.1, n.2.1, n.2.2.1, n.2.2.2.1, n.2.2.2.2.elim fun u e => ⟨u, k _ (Ne.symm s3) _ e⟩⟩
  · obtain ⟨o, e, r⟩ := Z.l1; exact ⟨o, k _ (Ne.symm s6) o e, r⟩
  · obtain ⟨o, e, r⟩ := Z.l2; exact ⟨o, k _ (Ne.symm s7) o e, r⟩
theorem zs_next {S z TI TO i1 i2 l1 l2 : Addr} {xs ys : Array Value} {i : Nat} {x y : Value} {Q : Option Value → Shared → Prop} (D : ZipApart z TI TO i1 i2 l1 l2) (Z : ZS S s.heap z TI TO i1 i2 l1 l2 xs ys i) (hx : xs[i]? = some x) (hy : ys[i]? = some y) (hSl : S < s.heap.objs.size)
    (hQ : ∀ h', ZS S h' z TI TO i1 i2 l1 l2 xs ys (i + 1) → IsPair h' s.heap.objs.size x y → (∀ c o, c ≠ z → c ≠ TO → c ≠ i1 → c ≠ i2 → s.heap.get? c = some o → h'.get? c = some o) → Q (some (.ref s.heap.objs.size)) { s with heap := h' }) : wpAny (model prog w) A (pyNext (.ref z)) Q E s := by
  have lt1 : z < s.heap.objs.size := by rcases Z.st with ⟨_, _, hz, _⟩ | ⟨_, _, _, hz, _⟩ <;> exact Heap.lt_size hz
  have lt2 : i1 < s.heap.objs.size := by obtain ⟨_, e, _⟩ := Z.h1; exact Heap.lt_size e
  have lt3 : i2 < s.heap.objs.size := by obtain ⟨_, e, _⟩ := Z.h2; exact Heap.lt_size e
  have lst : ∀ {h' : Heap} {l : Addr} {items : Array Value}, l ≠ z → l ≠ TO → l ≠ i1 → l ≠ i2 → (∀ c o, c ≠ z → c ≠ TO → c ≠ i1 → c ≠ i2 → s.heap.get? c = some o → h'.get? c = some o) → s.heap.IsList l items → h'.IsList l items := fun {h' l items} a b c d k ⟨o, e, r⟩ => ⟨o, k l o a b c d e, r⟩
  rcases Z.st with ⟨a, b, hz, hTO⟩ | ⟨T, o, fl, hz, hT, n1, n2, n3, n4, u, hu⟩
  · refine wpAny_pyNext_zip_item D hz Z.ti hTO Z.h1 Z.h2 Z.l1 Z.l2 hx hy fun h' a1 a2 a3 a4 a5 a6 a7 => hQ h' ⟨.inr ⟨_, _, false, a1, a5, Nat.ne_of_gt lt1, Nat.ne_of_gt lt2, Nat.ne_of_gt lt3, Nat.ne_of_gt hSl, _, a2⟩, a7 _ _ D.TIz D.TITO D.TIi1 D.TIi2 Z.ti, a3, a4, lst D.l1z D.l1TO D.l1i1 D.l1i2 a7 Z.l1, lst D.l2z D.l2TO D.l2i1 D.l2i2 a7 Z.l2⟩ a5 a7
  · refine next_more D hz hT Z.ti Z.h1 Z.h2 Z.l1 Z.l2 hx hy fun h' a1 a3 a4 a5 a6 a7 => ?_
    have k : ∀ c o, c ≠ z → c ≠ TO → c ≠ i1 → c ≠ i2 → s.heap.get? c = some o → h'.get? c = some o := fun c o c1 _ c3 c4 e => a7 c o c1 c3 c4 e
    exact hQ h' ⟨.inr ⟨T, o, true, a1, a7 _ _ n1 n2 n3 hT, n1, n2, n3, n4, u, a7 _ _ D.TOz D.TOi1 D.TOi2 hu⟩, k _ _ D.TIz D.TITO D.TIi1 D.TIi2 Z.ti, a3, a4, lst D.l1z D.l1TO D.l1i1 D.l1i2 k Z.l1, lst D.l2z D.l2TO D.l2i1 D.l2i2 k Z.l2⟩ a5 k
theorem zip_loop {z TI TO i1 i2 l1 l2 S : Addr} {xs ys : Array Value} {res : Value} {R : Result → Shared → Prop} (hh : A.handled = none) (D : ZipApart z TI TO i1 i2 l1 l2) (hS0 : S ∉ [z, TI, TO, i1, i2, l1, l2]) (hn : min xs.size ys.size ≤ sizeLine) :
    ∀ (k i : Nat) (s : Shared) (acc : Array Value) (c : Nat), min xs.size ys.size - i = k → i ≤ min xs.size ys.size → ZS S s.heap z TI TO i1 i2 l1 l2 xs ys i → s.heap.get? S = some { cls := .type "list", dict := none, data := .seq acc c, slots := #[] } → acc.size = i → Prs s.heap S [S, z, TI, TO, i1, i2, l1, l2] xs ys acc →
    (∀ s' acc' c', (∀ b o, b ∉ [S, z, TO, i1, i2] → s.heap.get? b = some o → s'.heap.get? b = some o) → s'.gens = s.gens → s'.drawn = s.drawn → s'.os = s.os → s'.heap.get? S = some { cls := .type "list", dict := none, data := .seq acc' c', slots := #[] } → acc'.size = min xs.size ys.size → Prs s'.heap S [S, z, TI, TO, i1, i2, l1, l2] xs ys acc' → R (.ok (.ret res)) s') →
    codeAny (model prog w) A (.builtin "list.extend.loop" ⟨[.ref S, .ref z, res], []⟩) R s := by
  intro k
  induction k with
  | zero =>
    intro i s acc c hk hi Z hS hacc hP hR
    have hend : xs[i]? = none ∨ ys[i]? = none := by
      by_cases h : xs.size ≤ i
      · exact .inl (Array.getElem?_eq_none h)
      · exact .inr (Array.getElem?_eq_none (by omega))
    refine codeAny_builtin PySem.F.entry_extend_loop ?_
    rw [Around.under_plainId PySem.F.plain_extend_loop _]
    show wpAny _ A.in1 (pyNext (.ref z) >>= _) _ _ s
    have fin : ∀ h' : Heap, (∀ c o, c ≠ z → c ≠ TO → c ≠ i1 → c ≠ i2 → s.heap.get? c = some o → h'.get? c = some o) → R (.ok (.ret res)) { s with heap := h' } := fun h' hk' => by
      simp only [List.mem_cons, List.not_mem_nil, or_false, not_or] at hS0
      refine hR { s with heap := h' } acc c (fun b o hb e => ?_) rfl rfl rfl (hk' S _ hS0.1 hS0.2.2.1 hS0.2.2.2.1 hS0.2.2.2.2.1 hS) (by omega) fun j v hv => ?_
      · simp only [List.mem_cons, List.not_mem_nil, or_false, not_or] at hb
        exact hk' b o hb.2.1 hb.2.2.1 hb.2.2.2.1 hb.2.2.2.2 e
      · obtain ⟨a, x, y, e, hlo, hb, hp, e1, e2⟩ := hP j v hv
        refine ⟨a, x, y, e, hlo, hb, ?_, e1, e2⟩
        simp only [List.mem_cons, List.not_mem_nil, or_false, not_or] at hb
        exact hk' a _ hb.2.1 hb.2.2.2.1 hb.2.2.2.2.1 hb.2.2.2.2.2.1 hp
    rcases Z.st with ⟨a, b, hz, hTO⟩ | ⟨T, o, fl, hz, hT, _⟩
    · refine wpAny_bind (wpAny_pyNext_zip_end hh D hz Z.ti hTO Z.h1 Z.h2 Z.l1 Z.l2 hend fun h' hk' => ?_)
      exact wpAny_pure (fin h' hk')
    · refine wpAny_bind (next_more_end hh D hz hT Z.ti Z.h1 Z.h2 Z.l1 Z.l2 hend fun h' hk' => ?_)
      exact wpAny_pure (fin h' fun c o c1 _ c3 c4 e => hk' c o c1 c3 c4 e)
  | succ k ih =>
    intro i s acc c hk hi Z hS hacc hP hR
    have hS0' := hS0
    simp only [List.mem_cons, List.not_mem_nil, or_false, not_or] at hS0'
    obtain ⟨x0, hx⟩ : ∃ x0, xs[i]? = some x0 := ⟨_, Array.getElem?_eq_getElem (by omega)⟩
    obtain ⟨y0, hy⟩ : ∃ y0, ys[i]? = some y0 := ⟨_, Array.getElem?_eq_getElem (by omega)⟩
    refine codeAny_builtin PySem.F.entry_extend_loop ?_
    rw [Around.under_plainId PySem.F.plain_extend_loop _]
    show wpAny _ A.in1 (pyNext (.ref z) >>= _) _ _ s
    refine wpAny_bind (zs_next D Z hx hy (Heap.lt_size hS) fun h' Z' hp hk' => ?_)
    have hS' := hk' S _ hS0'.1 hS0'.2.2.1 hS0'.2.2.2.1 hS0'.2.2.2.2.1 hS
    show wpAny _ A.in1 (updateSeq S (·.push (.ref s.heap.objs.size)) >>= _) _ _ _
    refine wpAny_bind ?_
    refine wpAny_updateSeq hS' rfl (wpAny_pure ⟨plainId_quiet PySem.F.plain_extend_loop _, ih (i + 1) _ (acc.push (.ref s.heap.objs.size)) _ (by omega) (by omega) (Z'.keep hS0 fun b hb o e => ?_) (Heap.get?_update_self _ hS' rfl) (by simp [hacc]) ?_ fun s'' acc' c' hk'' g1 g2 g3 hS'' ha hP' => ?_⟩)
      (by rw [hacc]; omega) (by show (acc.push _).size ≤ sizeLine + 1; rw [Array.size_push, hacc]; omega)
    · exact (Heap.get?_update_other _ _ (fun e' : S = b => hb e'.symm)).trans e
    · intro j v hv
      have szlt : ∀ {b : Addr} {o : Obj}, s.heap.get? b = some o → s.heap.objs.size ≠ b := fun e => Nat.ne_of_gt (Heap.lt_size e)
      rw [Array.getElem?_push] at hv
      split at hv
      · rename_i hj
        cases hv
        have hTO : s.heap.objs.size ≠ TO := by
          rcases Z.st with ⟨a, b, hz, hTO⟩ | ⟨T, o, fl, hz, hT, n⟩
          · exact szlt hTO
          · obtain ⟨_, _, _, _, u, hu⟩ := n
            exact szlt hu
        refine ⟨_, x0, y0, rfl, Nat.le_of_lt (Heap.lt_size hS), ?_, (Heap.get?_update_other _ _ (szlt hS).symm).trans hp, by rw [hj, hacc]; exact hx, by rw [hj, hacc]; exact hy⟩
        have q1 : s.heap.objs.size ≠ z := by rcases Z.st with ⟨_, _, hz, _⟩ | ⟨_, _, _, hz, _⟩ <;> exact szlt hz
        have q2 : s.heap.objs.size ≠ i1 := by obtain ⟨_, e, _⟩ := Z.h1; exact szlt e
        have q3 : s.heap.objs.size ≠ i2 := by obtain ⟨_, e, _⟩ := Z.h2; exact szlt e
        have q4 : s.heap.objs.size ≠ l1 := by obtain ⟨_, e, _⟩ := Z.l1; exact szlt e
        have q5 : s.heap.objs.size ≠ l2 := by obtain ⟨_, e, _⟩ := Z.l2; exact szlt e
        simp only [List.mem_cons, List.not_mem_nil, or_false, not_or]
        exact ⟨szlt hS, q1, szlt Z.ti, hTO, q2, q3, q4, q5⟩
      · obtain ⟨a, x, y, e, hlo, hb, hp', e1, e2⟩ := hP j v hv
        refine ⟨a, x, y, e, hlo, hb, ?_, e1, e2⟩
        simp only [List.mem_cons, List.not_mem_nil, or_false, not_or] at hb
        exact (Heap.get?_update_other _ _ (fun e' : S = a => hb.1 e'.symm)).trans (hk' a _ hb.2.1 hb.2.2.2.1 hb.2.2.2.2.1 hb.2.2.2.2.2.1 hp')
    · refine hR s'' acc' c' (fun b o hb e => hk'' b o hb ?_) g1 g2 g3 hS'' ha hP'
      simp only [List.mem_cons, List.not_mem_nil, or_false, not_or] at hb
      exact (Heap.get?_update_other _ _ (fun e' : S = b => hb.1 e'.symm)).trans (hk' b o hb.2.1 hb.2.2.1 hb.2.2.2.1 hb.2.2.2.2 e)
theorem zip_no_len : typeLookup (.type "zip") "__len__" = pure none := by rw [typeLookup_type, builtinLookup_eq_fast]; kernel_rfl
theorem zip_no_hint : typeLookup (.type "zip") "__length_hint__" = pure none := by rw [typeLookup_type, builtinLookup_eq_fast]; kernel_rfl
theorem collect_zip {z TI TO i1 i2 l1 l2 : Addr} {xs ys : Array Value} {a b : Value} {Q : List Value → Shared → Prop} (hh : A.handled = none) (D : ZipApart z TI TO i1 i2 l1 l2) (hn : min xs.size ys.size ≤ sizeLine)
    (hz : IsZip s.heap z TI TO .none) (hTI : IsPair s.heap TI (.ref i1) (.ref i2)) (hTO : IsPair s.heap TO a b) (h1 : s.heap.IsListIter i1 l1 0) (h2 : s.heap.IsListIter i2 l2 0) (hl1 : s.heap.IsList l1 xs) (hl2 : s.heap.IsList l2 ys)
    (hQ : ∀ (s' : Shared) (acc : Array Value), (∀ b o, b ∉ [z, TO, i1, i2] → s.heap.get? b = some o → s'.heap.get? b = some o) → s'.gens = s.gens → s'.drawn = s.drawn → s'.os = s.os → acc.size = min xs.size ys.size → Prs s'.heap s.heap.objs.size [s.heap.objs.size, z, TI, TO, i1, i2, l1, l2] xs ys acc → Q acc.toList s') :
    wpAny (model prog w) A (collect (.ref z)) Q E s := by
  have szlt : ∀ {b : Addr} {o : Obj}, s.heap.get? b = some o → s.heap.objs.size ≠ b := fun e => Nat.ne_of_gt (Heap.lt_size e)
  have q1 : s.heap.objs.size ≠ i1 := by obtain ⟨_, e, _⟩ := h1; exact szlt e
  have q2 : s.heap.objs.size ≠ i2 := by obtain ⟨_, e, _⟩ := h2; exact szlt e
  have q3 : s.heap.objs.size ≠ l1 := by obtain ⟨_, e, _⟩ := hl1; exact szlt e
  have q4 : s.heap.objs.size ≠ l2 := by obtain ⟨_, e, _⟩ := hl2; exact szlt e
  have hSz : s.heap.objs.size ≠ z := szlt hz
  have hS0 : s.heap.objs.size ∉ [z, TI, TO, i1, i2, l1, l2] := by
    simp only [List.mem_cons, List.not_mem_nil, or_false, not_or]
    exact ⟨hSz, szlt hTI, szlt hTO, q1, q2, q3, q4⟩
  have hS₁ : (s.heap.push { cls := .type "list", data := .seq ([] : List Value).toArray }).get? s.heap.objs.size = some { cls := .type "list", data := .seq ([] : List Value).toArray } := Heap.get?_push_size _ rfl
  have up : ∀ b o, s.heap.get? b = some o → (s.heap.push { cls := .type "list", data := .seq ([] : List Value).toArray }).get? b = some o := fun b o e => Heap.get?_push_of_some _ e
  have hz1 := up _ _ hz
  have hT : ({ s with heap := s.heap.push { cls := .type "list", data := .seq ([] : List Value).toArray } } : Shared).TypeIs (.ref z) "zip" := ⟨_, hz1, rfl⟩
  have g1 : Builtin.List.listSameRef (.ref s.heap.objs.size) (.ref z) = false := by simp [Builtin.List.listSameRef, hSz]
  have g2 : (Value.type "zip" == Value.type "list") = false := by decide
  have g3 : (Value.type "zip" == Value.type "tuple") = false := by decide
  unfold collect
  refine wpAny_bind (wpAny_runValue (codeAny_builtin PySem.F.entry_proto_collect ?_))
  rw [Around.under_plainId PySem.F.plain_proto_collect _]
  show wpAny _ A.in1 (newList [] >>= fun l => again (.builtin "list.__iadd__" ⟨[l, .ref z], []⟩)) _ _ s
  refine wpAny_bind (wpAny_newObj_type ?_)
  refine wpAny_pure ⟨plainId_quiet PySem.F.plain_list_iadd _, codeAny_builtin PySem.F.entry_list_iadd ?_⟩
  rw [Around.under_plainId PySem.F.plain_list_iadd _]
  show wpAny _ A.in1 (Builtin.List.listExtendWith (.ref s.heap.objs.size) (.ref z) (.ref s.heap.objs.size)) _ _ _
  unfold Builtin.List.listExtendWith
  refine wpAny_bind (wpAny_typeOf hT ?_)
  simp only [g1, g2, g3, Bool.or_false, Bool.false_eq_true, if_false]
  refine wpAny_bind (wpAny_pyIter_zip (s := { s with heap := s.heap.push { cls := .type "list", data := .seq ([] : List Value).toArray } }) hz1 ?_)
  refine wpAny_bind (wpAny_holding ?_)
  unfold Builtin.List.listLengthHint
  refine wpAny_bind (wpAny_specialOf hT zip_no_len ?_)
  show wpAny _ A.in1 (specialOf (Value.ref z) (Str.ofString "__length_hint__") >>= _) _ _ _
  refine wpAny_bind (wpAny_specialOf hT zip_no_hint ?_)
  refine wpAny_pure ?_
  show wpAny _ A.in1 (rule "list.extend.makes-room" >>= fun _ => Builtin.List.listTouch (.ref s.heap.objs.size) >>= fun _ =>
    again (.builtin "list.extend.loop" ⟨[.ref s.heap.objs.size, .ref z, .ref s.heap.objs.size], []⟩)) _ _ _
  refine wpAny_bind (wpAny_rule ?_)
  refine wpAny_bind ?_
  show wpAny _ A.in1 (updateSeq s.heap.objs.size (·.push .none) >>= fun _ => updateSeq s.heap.objs.size (·.pop)) _ _ _
  refine wpAny_bind (wpAny_updateSeq hS₁ rfl ?_)
  have hS₂ := Heap.get?_update_self (Obj.mapSeq (·.push Value.none)) hS₁ rfl
  refine wpAny_updateSeq hS₂ rfl ?_
  have hS₃ := Heap.get?_update_self (Obj.mapSeq (·.pop)) hS₂ rfl
  have oth : ∀ b o, b ≠ s.heap.objs.size → (s.heap.push { cls := .type "list", data := .seq ([] : List Value).toArray }).get? b = some o →
      (((s.heap.push { cls := .type "list", data := .seq ([] : List Value).toArray }).update s.heap.objs.size (Obj.mapSeq (·.push Value.none))).update s.heap.objs.size (Obj.mapSeq (·.pop))).get? b = some o :=
    fun b o hb e => (Heap.get?_update_other _ _ (Ne.symm hb)).trans ((Heap.get?_update_other _ _ (Ne.symm hb)).trans e)
  have Z0 : ZS s.heap.objs.size (s.heap.push { cls := .type "list", data := .seq ([] : List Value).toArray }) z TI TO i1 i2 l1 l2 xs ys 0 :=
    ⟨.inl ⟨a, b, hz1, up _ _ hTO⟩, up _ _ hTI, h1.at fun o e => up _ o e, h2.at fun o e => up _ o e, hl1.push _, hl2.push _⟩
  refine wpAny_pure ⟨plainId_quiet PySem.F.plain_extend_loop _, zip_loop (A := A) hh D hS0 hn _ 0 _ #[] _ rfl (Nat.zero_le _) (Z0.keep hS0 fun b hb o e => oth b o hb e) hS₃ rfl (fun j v h => by simp at h) fun s' acc' c' hm g1 g2 g3 hS' ha hP => ?_⟩
  show wpAny _ A (load s.heap.objs.size >>= _) _ _ s'
  refine wpAny_bind (wpAny_load hS' ?_)
  refine wpAny_pure (hQ s' acc' (fun b o hb e => hm b o ?_ (oth b o (szlt e).symm (up b o e))) g1 g2 g3 ha hP)
  simp only [List.mem_cons, List.not_mem_nil, or_false, not_or] at hb ⊢
  exact ⟨(szlt e).symm, hb.1, hb.2.1, hb.2.2.1, hb.2.2.2⟩
theorem code_tuple_new_zip {z TI TO i1 i2 l1 l2 : Addr} {xs ys : Array Value} {a b : Value} {Q₁ : Value → Shared → Prop} (hh : A.handled = none) (D : ZipApart z TI TO i1 i2 l1 l2) (hn : min xs.size ys.size ≤ sizeLine)
    (hz : IsZip s.heap z TI TO .none) (hTI : IsPair s.heap TI (.ref i1) (.ref i2)) (hTO : IsPair s.heap TO a b) (h1 : s.heap.IsListIter i1 l1 0) (h2 : s.heap.IsListIter i2 l2 0) (hl1 : s.heap.IsList l1 xs) (hl2 : s.heap.IsList l2 ys)
    (h : ∀ (s' : Shared) (acc : Array Value), (∀ b o, b ∉ [z, TO, i1, i2] → s.heap.get? b = some o → s'.heap.get? b = some o) → s'.gens = s.gens → s'.drawn = s.drawn → s'.os = s.os → acc.size = min xs.size ys.size → Prs s'.heap s.heap.objs.size [s.heap.objs.size, z, TI, TO, i1, i2, l1, l2] xs ys acc →
      Q₁ (.ref s'.heap.objs.size) { s' with heap := s'.heap.push { cls := .type "tuple", data := .seq acc } }) :
    codeAny (model prog w) A (.call (.builtin "tuple.__new__") ⟨[.type "tuple", .ref z], []⟩) (wants Q₁ E) s := by
  refine codeAny_of_tree ?_
  show wpAny _ A.in1 (do checkBuiltinCall "tuple.__new__" ⟨[.type "tuple", .ref z], []⟩; again (.builtin "tuple.__new__" ⟨[.type "tuple", .ref z], []⟩)) _ _ s
  refine wpAny_bind (wpAny_of_eq (PySem.F.newCall_tuple_1 _) (wpAny_pure ⟨plainId_quiet PySem.F.plain_tuple_new _, codeAny_builtin PySem.F.entry_tuple_new ?_⟩))
  rw [Around.under_plainId PySem.F.plain_tuple_new _]
  have hsub := sub_tuple_self
  have hinit := init_tuple_lookup
  have hmh := madeHere_tuple
  have hTI' : s.TypeIs (.ref z) "zip" := ⟨_, hz, rfl⟩
  have hh1 : A.in1.handled = none := hh
  wp_walk using wpAny_typeOf hTI', collect_zip (A := A.in1) hh1 D hn hz hTI hTO h1 h2 hl1 hl2
  intro s' acc hk g1 g2 g3 ha hP
  show wpAny _ _ (Builtin.Tuple.tupleExact acc.toList.toArray >>= fun v => ret v) _ _ _
  unfold Builtin.Tuple.tupleExact
  refine wpAny_bind (wpAny_newObj_type ?_ (by show acc.toList.toArray.size ≤ sizeLine; simp only [Array.toArray_toList]; rw [ha]; exact hn))
  refine wpAny_pure ?_
  have e : acc.toList.toArray = acc := by simp
  rw [e]
  exact h s' acc hk g1 g2 g3 ha hP
theorem call_tuple_zip {z TI TO i1 i2 l1 l2 : Addr} {xs ys : Array Value} {a b : Value} {Q : Value → Shared → Prop} (hh : A.handled = none) (D : ZipApart z TI TO i1 i2 l1 l2) (hn : min xs.size ys.size ≤ sizeLine)
    (hz : IsZip s.heap z TI TO .none) (hTI : IsPair s.heap TI (.ref i1) (.ref i2)) (hTO : IsPair s.heap TO a b) (h1 : s.heap.IsListIter i1 l1 0) (h2 : s.heap.IsListIter i2 l2 0) (hl1 : s.heap.IsList l1 xs) (hl2 : s.heap.IsList l2 ys)
    (hQ : ∀ (s' : Shared) (acc : Array Value), (∀ b o, b ∉ [z, TO, i1, i2] → s.heap.get? b = some o → s'.heap.get? b = some o) → s'.gens = s.gens → s'.drawn = s.drawn → s'.os = s.os → acc.size = min xs.size ys.size → Prs s'.heap s.heap.objs.size [s.heap.objs.size, z, TI, TO, i1, i2, l1, l2] xs ys acc →
      Q (.ref s'.heap.objs.size) { s' with heap := s'.heap.push { cls := .type "tuple", data := .seq acc } }) :
    wpAny (model prog w) A (call (.type "tuple") [.ref z]) Q E s := by
  refine callType_codes (Q₁ := fun obj s₁ => s₁.TypeIs obj "tuple" ∧ Q obj s₁) PySem.F.called_tuple (PySem.F.typeCall_tuple_1 _) PySem.F.entry_object_init
    (code_tuple_new_zip (A := A.in1) hh D hn hz hTI hTO h1 h2 hl1 hl2 fun s' acc hk g1 g2 g3 ha hP => ⟨⟨_, Heap.get?_push_size _ rfl, rfl⟩, hQ s' acc hk g1 g2 g3 ha hP⟩) fun obj s₁ h₁ => ?_
  exact ⟨h₁.1, PySem.F.args_object_init_2 obj _, object_init_meets PySem.F.called_tuple.init.lookup PySem.F.called_tuple.made (by decide) prog w A.in1 _ s₁ ⟨h₁.1, rfl, h₁.2⟩⟩
end
section
variable {X : Cx} {A : Ask} {sg : Sig} {cf : CallFn} {T : Flds} {σ : L2.St} {H H' : Hp} {pins : List (Addr × Obj)} {s : Shared} {h' : Heap}
/-- things more that stand -/
theorem inv_more {t' : Nat} (I : Inv X pins σ H s) (k : ∀ b o, s.heap.get? b = some o → h'.get? b = some o) (ext : ∀ b u, H b = some u → H' b = some u) (new : ∀ b u, H' b = some u → H b = some u ∨ s.heap.objs.size ≤ b ∧ ObjOk X.prog X.w H' h' b u) : Inv X pins σ H' { s with heap := h', toks := t' } := by
  refine I.step (g' := s.gens) (d' := s.drawn) (ch := []) (fun b hb => absurd hb (by simp)) (fun b o _ _ hc e _ => k b o e) (fun b o _ _ hc e _ => ⟨o.slots, k b o e⟩)
    (fun b o _ e n => ?_) (fun b o hc e => ⟨o, k b o e⟩) (fun b xs e => ext b _ e) (fun b o u e => ext b _ e) (fun b ps e => ⟨#[], by simpa using ext b _ e⟩) (fun m hm => ?_) (fun b u e => ?_) I.bare
  · cases q : H' b with
    | none => rfl
    | some u =>
      rcases new b u q with z | z
      · rw [n] at z; cases z
      · exact absurd (Nat.lt_of_lt_of_le (Heap.lt_size e) z.1) (Nat.lt_irrefl _)
  · obtain ⟨o, es, ep, ho, r⟩ := hm
    exact ⟨o, es, ep, k _ o ho, r⟩
  · rcases new b u e with z | z
    · exact (I.hok b u z).stay (fun c v _ q => k c v q) (fun c q => ext c _ q) fun c xs q => ext c _ q
    · exact z.2
open Classical in
noncomputable def pairsH (H : Hp) (h : Heap) (acc : Array Value) : Hp := fun b => if (Value.ref b) ∈ acc.toList then (match h.get? b with
  | some ⟨_, _, .seq arr _, _⟩ => some (.tup (arr.toList.filterMap absV))
  | _ => none) else H b
/-- pairs of the items of two lists -/
inductive Prd (H : Hp) : List V → List V → List V → Prop
  | nilL {ys : List V} : Prd H [] [] ys
  | nilR {xs : List V} : Prd H [] xs []
  | cons {a : Addr} {x y : V} {ws xs ys : List V} : H a = some (.tup [x, y]) → Prd H ws xs ys → Prd H (.ref a :: ws) (x :: xs) (y :: ys)
theorem prd_of {H : Hp} : ∀ {xs ys : List V} {us : List Value}, us.length = min xs.length ys.length → (∀ (j : Nat) (v : Value), us[j]? = some v → ∃ a x y, v = .ref a ∧ xs[j]? = some x ∧ ys[j]? = some y ∧ H a = some (.tup [x, y])) → ∃ ws, Vals ws us ∧ Prd H ws xs ys
  | [], ys, us, h, _ => by
    have : us = [] := List.eq_nil_of_length_eq_zero (by simpa using h)
    subst this
    exact ⟨[], .nil, .nilL⟩
  | x :: xs, [], us, h, _ => by
    have : us = [] := List.eq_nil_of_length_eq_zero (by simpa using h)
    subst this
    exact ⟨[], .nil, .nilR⟩
  | x :: xs, y :: ys, [], h, _ => by simp at h
  | x :: xs, y :: ys, u :: us, h, f => by
    obtain ⟨a, x', y', rfl, e1, e2, e3⟩ := f 0 u rfl
    simp at e1 e2
    subst e1 e2
    obtain ⟨ws, r, p⟩ := prd_of (H := H) (xs := xs) (ys := ys) (us := us) (by simp at h ⊢; omega) fun j v hj => by
      obtain ⟨a, x, y, e, q1, q2, q3⟩ := f (j + 1) v (by simpa using hj)
      exact ⟨a, x, y, e, by simpa using q1, by simpa using q2, q3⟩
    exact ⟨.ref a :: ws, .cons (show RelV (.ref a) (.ref a) from rfl) r, .cons e3 p⟩
theorem Prd.ext {H H' : Hp} (k : ∀ b u, H b = some u → H' b = some u) : ∀ {ws xs ys : List V}, Prd H ws xs ys → Prd H' ws xs ys
  | _, _, _, .nilL => .nilL
  | _, _, _, .nilR => .nilR
  | _, _, _, .cons e r => .cons (k _ _ e) (Prd.ext k r)
theorem vals_back {xs : List V} {us : List Value} {j : Nat} {u : Value} (r : Vals xs us) (h : us[j]? = some u) : ∃ x, xs[j]? = some x ∧ RelV x u := by
  have hj : j < xs.length := by rw [r.length]; exact (List.getElem?_eq_some_iff.mp h).1
  obtain ⟨u', h', q⟩ := r.get (List.getElem?_eq_getElem hj)
  rw [h] at h'; cases h'
  exact ⟨_, List.getElem?_eq_getElem hj, q⟩
def tTupZip (K : PySem.W.Frag) (ta : TA) : TE := fun σ H Q => ta σ H fun vs H1 => ∃ l1 l2 xs ys, vs = [.ref l1, .ref l2] ∧ SqL K H1 l1 xs ∧ SqL K H1 l2 ys ∧ ∀ p H2 ws, (∀ b u, H1 b = some u → H2 b = some u) → H1 p = none → (∃ o : Obj, o.dict = none ∧ H2 p = some (.frz o (.tup ws))) → Prd H2 ws xs ys → Q (.ref p) H2
theorem pe_tupZip {a b : Expr} {ta : TA} {p p2 q pos : Pos} (hc : X.calm = true) (hg : Gl X "tuple") (hm : X.mg "tuple" = none) (hg2 : Gl X "zip") (hm2 : X.mg "zip" = none) (ha : PA X [a, b] ta)
    (hs : starEach [a, b] X.env = (false, PySem.eval a X.env) :: starEach [b] X.env) (hpl : (backTo q (starEach [b] X.env)).any (·.1) = false) : PE X (.Call (.Name "tuple" p) [.Call (.Name "zip" p2) [a, b] [] q] [] pos) (tTupZip X.K ta) := by
  refine ⟨fun pins s σ H Q I h => ?_⟩
  refine Call_ (ld_blt I hg hm boot_tuple ?_)
  refine PyProof.Rows.callWith_type1 (PyProof.Rows.args_cons ?_ rfl) rfl rfl
  refine Call_ (ld_blt I hg2 hm2 PyProof.Rows.boot_zip ?_)
  refine PyProof.Rows.callWith_type1 (thn (ha.run q pins s σ H _ I h) fun us s1 ⟨vs, H1, I1, r1, q1⟩ => ?_) hs hpl
  obtain ⟨l1, l2, xs, ys, rfl, hqx, hqy, q1⟩ := q1
  cases r1 with
  | cons r rr =>
    cases rr with
    | cons r' rr =>
      cases rr
      cases r
      cases r'
      obtain ⟨its, rv, p1, _⟩ := I1.list hqx
      obtain ⟨its2, rv2, p2, _⟩ := I1.list hqy
      refine call_zip_2 p1.isList p2.isList fun h' hz hTI hTO h1 h2 hsz hk => ?_
      refine PyProof.Rows.args_nil ?_
      have lift : ∀ {l : Addr} {arr : Array Value}, s1.heap.IsList l arr → h'.IsList l arr := fun {l arr} ⟨o, e, r⟩ => ⟨o, hk _ o e, r⟩
      have D := PySem.W.ktu_apart s1.heap.objs.size l1 l2 p1.lt p2.lt
      have lx := rv.length
      have ly := rv2.length
      refine call_tuple_zip (s := { s1 with heap := h' }) (I1.ok.hd hc) D (by simp only [List.size_toArray]; omega) hz hTI hTO h1 h2 (lift p1.isList) (lift p2.isList) fun s' acc hk' g1 g2 g3 ha hP => ?_
      have hle : s1.heap.objs.size + 3 ≤ s'.heap.objs.size := by
        have : (s1.heap.objs.size + 2 : Nat) < s'.heap.objs.size := Heap.lt_size (hk' (s1.heap.objs.size + 2) _ (by simp) hTI)
        omega
      have hpn : H1 s'.heap.objs.size = none := I1.hok.fresh (by omega)
      have inAcc : ∀ (j : Nat) (v : Value), acc.toList[j]? = some v → ∃ a x y u w, v = .ref a ∧ s1.heap.objs.size ≤ a ∧ a < s'.heap.objs.size ∧ IsPair s'.heap a u w ∧ xs[j]? = some x ∧ ys[j]? = some y ∧ RelV x u ∧ RelV y w := fun j v hj => by
        obtain ⟨a, u, w, e, hlo, _, hp, e1, e2⟩ := hP j v (by simpa using hj)
        obtain ⟨x, x1, x2⟩ := vals_back rv (j := j) (u := u) (by simpa using e1)
        obtain ⟨y, y1, y2⟩ := vals_back rv2 (j := j) (u := w) (by simpa using e2)
        have hlo' : h'.objs.size ≤ a := hlo
        exact ⟨a, x, y, u, w, e, by omega, Heap.lt_size hp, hp, x1, y1, x2, y2⟩
      have memA : ∀ b, Value.ref b ∈ acc.toList → ∃ x y u w, s1.heap.objs.size ≤ b ∧ b < s'.heap.objs.size ∧ IsPair s'.heap b u w ∧ RelV x u ∧ RelV y w := fun b hb => by
        obtain ⟨j, hj, e⟩ := List.getElem_of_mem hb
        obtain ⟨a, x, y, u, w, e', q1, q2, q3, _, _, q4, q5⟩ := inAcc j _ (List.getElem?_eq_some_iff.mpr ⟨hj, e⟩)
        cases e'
        exact ⟨x, y, u, w, q1, q2, q3, q4, q5⟩
      have atP : ∀ {a : Addr} {x y : V} {u w : Value}, Value.ref a ∈ acc.toList → IsPair s'.heap a u w → RelV x u → RelV y w → pairsH H1 s'.heap acc a = some (.tup [x, y]) := fun {a x y u w} hm hp rx ry => by
        unfold pairsH
        rw [if_pos hm, hp]
        simp [rx.abs, ry.abs]
      obtain ⟨ws, rw', pr⟩ := prd_of (H := pairsH H1 s'.heap acc) (xs := xs) (ys := ys) (us := acc.toList) (by rw [Array.length_toList, ha]; simp only [List.size_toArray]; omega) fun j v hj => by
        obtain ⟨a, x, y, u, w, rfl, _, _, q3, e1, e2, q4, q5⟩ := inAcc j v hj
        exact ⟨a, x, y, rfl, e1, e2, atP (List.mem_of_getElem? hj) q3 q4 q5⟩
      have nP : pairsH H1 s'.heap acc s'.heap.objs.size = none := by
        unfold pairsH
        rw [if_neg fun hm => ?_]
        · exact hpn
        · obtain ⟨_, _, _, _, _, q, _⟩ := memA _ hm
          exact Nat.lt_irrefl _ q
      have ext1 : ∀ b u, H1 b = some u → pairsH H1 s'.heap acc b = some u := fun b u e => by
        unfold pairsH
        rw [if_neg fun hm => ?_]
        · exact e
        · obtain ⟨_, _, _, _, q, _⟩ := memA _ hm
          exact Nat.lt_irrefl _ (Nat.lt_of_lt_of_le (I1.hok b u e).lt q)
      have ext2 : ∀ b u, pairsH H1 s'.heap acc b = some u → upd (pairsH H1 s'.heap acc) s'.heap.objs.size (.frz { cls := .type "tuple", data := .seq acc } (.tup ws)) b = some u := ext_upd nP
      have hwl : ws.length ≤ sizeLine := by rw [rw'.length, Array.length_toList, ha]; simp only [List.size_toArray]; omega
      have up : ∀ b o, s'.heap.get? b = some o → (s'.heap.push { cls := .type "tuple", data := .seq acc }).get? b = some o := fun b o e => Heap.get?_push_of_some _ e
      have I2 : Inv X pins σ (upd (pairsH H1 s'.heap acc) s'.heap.objs.size (.frz { cls := .type "tuple", data := .seq acc } (.tup ws))) { s1 with heap := s'.heap.push { cls := .type "tuple", data := .seq acc }, toks := s'.toks } := by
        refine inv_more I1 (fun b o e => up b o (hk' b o ?_ (hk b o e))) (fun b u e => ext2 b u (ext1 b u e)) fun b u e => ?_
        · have hlt : (b : Nat) < s1.heap.objs.size := Heap.lt_size e
          simp only [List.mem_cons, List.not_mem_nil, or_false, not_or]
          refine ⟨fun h => ?_, fun h => ?_, fun h => ?_, fun h => ?_⟩ <;> (rw [h] at hlt; first | exact Nat.lt_irrefl _ hlt | exact Nat.not_lt.mpr (Nat.le_add_right _ _) hlt)
        · by_cases hb : b = s'.heap.objs.size
          · subst hb
            rw [upd_same] at e
            cases e
            exact .inr ⟨by omega, Heap.get?_push_size _ rfl, hwl, acc.toList, rw', _, Heap.get?_push_size _ rfl, rfl, _, (by rw [Array.toArray_toList] : Data.seq acc 0 = Data.seq acc.toList.toArray 0)⟩
          · rw [upd_ne hb] at e
            by_cases hm : Value.ref b ∈ acc.toList
            · obtain ⟨x, y, u', w', q1, q2, q3, q4, q5⟩ := memA b hm
              rw [atP hm q3 q4 q5] at e
              cases e
              exact .inr ⟨q1, by show 2 ≤ sizeLine; decide, [u', w'], .cons q4 (.cons q5 .nil), _, up _ _ q3, rfl, _, rfl⟩
            · unfold pairsH at e
              rw [if_neg hm] at e
              exact .inl e
      have es : ({ s' with heap := s'.heap.push { cls := .type "tuple", data := .seq acc } } : Shared) = { s1 with heap := s'.heap.push { cls := .type "tuple", data := .seq acc }, toks := s'.toks } := by
        have g1' : s'.gens = s1.gens := g1
        have g2' : s'.drawn = s1.drawn := g2
        have g3' : s'.os = s1.os := g3
        rw [← g1', ← g2', ← g3']
      rw [es]
      exact ⟨.ref s'.heap.objs.size, _, I2, rfl, q1 _ _ ws (fun b u e => ext2 b u (ext1 b u e)) hpn ⟨_, rfl, upd_same⟩ (pr.ext ext2)⟩
theorem two_zip {x y : D} {xs ys : List D} (h : (zipL (x :: xs) (y :: ys)).all twoT = true) : two [x, y] = true := by
  have e : zipL (x :: xs) (y :: ys) = .tuple [x, y] :: zipL xs ys := rfl
  rw [e, List.all_cons, Bool.and_eq_true] at h
  exact h.1
theorem two_zip' {x y : D} {xs ys : List D} (h : (zipL (x :: xs) (y :: ys)).all twoT = true) : (zipL xs ys).all twoT = true := by
  have e : zipL (x :: xs) (y :: ys) = .tuple [x, y] :: zipL xs ys := rfl
  rw [e, List.all_cons, Bool.and_eq_true] at h
  exact h.2
theorem prd_rds {B : Mo} {Z : Addr → Prop} {H1 H2 : Hp} (ext : ∀ b u, H1 b = some u → H2 b = some u) : ∀ {ws vs1 vs2 : List V} {xs ys : List D}, Prd H2 ws vs1 vs2 → RDs B Z H1 xs vs1 → RDs B Z H1 ys vs2 → (zipL xs ys).all twoT = true → RDs B Z H2 (zipL xs ys) ws
  | _, _, _, _, _, .nilL, .nil, _, _ => .nil
  | _, _, _, xs, _, .nilR, _, .nil, _ => by simp [zipL]; exact .nil
  | _, _, _, _, _, .cons e p, .cons r rs, .cons r' rs', h2 => .cons (.tup (.inl (.inl e)) (fun n => by rw [two_zip h2] at n; cases n) (.cons (r.keep (kp_ext ext) fun _ z => z) (.cons (r'.keep (kp_ext ext) fun _ z => z) .nil))) (prd_rds ext p rs rs' (two_zip' h2))
theorem se_tupzip {a b : Expr} {ca cb : Ex} {p p2 q pos : Pos} (hc : X.calm = true) (hg : Gl X "tuple") (hm : X.mg "tuple" = none) (hg2 : Gl X "zip") (hm2 : X.mg "zip" = none) (ha : SE (X.mo T) A sg cf X a ca) (hb : SE (X.mo T) A sg cf X b cb) (hs : notStar a = true) (hs2 : notStar b = true) : SE (X.mo T) A sg cf X (.Call (.Name "tuple" p) [.Call (.Name "zip" p2) [a, b] [] q] [] pos) (.prm .zip2 [ca, cb]) := by
  refine .of rfl rfl ((pe_tupZip hc hg hm hg2 hm2 (pa_os (.cons ha (.cons hb .nil)) (by simp [hs, hs2])) (star_cons hs) (back_any (star_all (by simp [hs2])))).imp fun σ H Q ⟨ρ, fr, s, q⟩ => ?_)
  rw [eval] at q
  refine ⟨ρ, fr, s, ?_⟩
  cases ho : opds sg cf [ca, cb] ρ with
  | none => rw [ho] at q; exact q.elim
  | some r =>
    rw [ho] at q
    cases r with
    | exc x ρ1 => exact q
    | ok ts ρ1 =>
      refine fun vs H1 m1 o1 s1 => ?_
      simp only [O.bind] at q
      cases hl : lookAll ρ1 ts with
      | none => rw [hl] at q; exact q.elim
      | some ds =>
        obtain ⟨Z, v, k⟩ := Sta.looks s1 o1 hl
        rw [hl] at q
        simp only [Option.bind_some] at q
        match ds, vs, v, q with
        | [x, y], _, .cons v1 (.cons v2 .nil), q =>
          obtain ⟨xs, ys, rfl, rfl⟩ : ∃ xs ys, x = .list xs ∧ y = .list ys := by cases x <;> cases y <;> first | exact ⟨_, _, rfl, rfl⟩ | (simp [prmD, ofM, After] at q; done)
          have h2 : (zipL xs ys).all twoT = true := by
            cases h : (zipL xs ys).all twoT with
            | true => rfl
            | false => simp [prmD, h, ofM, After] at q
          have ez : prmD .zip2 [.list xs, .list ys] = some (.imm (.tuple (zipL xs ys))) := if_pos h2
          rw [ez] at q
          obtain ⟨l1, vs1, rfl, hq1, r1⟩ := v1.list
          obtain ⟨l2, vs2, rfl, hq2, r2⟩ := v2.list
          refine ⟨l1, l2, vs1, vs2, rfl, hq1, hq2, fun p H2 ws ext hn ⟨o, hd, hp⟩ pr => ?_⟩
          exact q (.ref p) H2 (m1.trans (.of_ext ext)) (k H2 _ _ ⟨ext, [], .imm (.tup (.inl (.inr ⟨o, hp⟩)) (fun _ => .inl ⟨o, _, hd, hp⟩) (prd_rds ext pr r1 r2 h2)), .nil, fun _ h => nomatch h⟩)
        | [], _, _, q => exact q.elim
        | [_], _, _, q => exact (by simp [prmD, ofM, After] at q)
        | _ :: _ :: _ :: _, _, _, q => exact (by simp [prmD, ofM, After] at q)
end
end Iv
set_option linter.all false
set_option maxRecDepth 100000
set_option maxHeartbeats 4000000
/-! Iv19: from the text's expressions to the small language, and that this is right. -/
namespace Iv
open PySem PySem.Spec PyProof.Rows L2
/-- what is known of the module: constants by their data, defs and methods, fields -/
structure Gm where
  cst : Str → Option PyData
  keys : List FK
  fl : List Str
  mov : Str → Str → Bool := fun _ _ => false
  /-- own exception classes that are raised; those with an own __init__; all that except and isinstance may name -/
  xs : List String := []
  xin : List String := []
  xh : List String := []
  /-- defs that are handed a lambda -/
  lkeys : List String := []
/-- the block: its scope, which names of it are stored by cells -/
structure Bk where
  sc : Scope
  fn : Str → Bool
  /-- the parameter that holds a lambda; whether lambdas may be made here -/
  th : Option (Str × Nat)
  lam : Bool
def visC (sc : Scope) (x : Str) : Bool := match sc.names.lookup x with
  | some .local => true
  | some .cell => true
  | some .free => true
  | _ => false
def okName (x : Str) : Bool := !(x == ("__debug__" : Str)) && !(x == ("__classdict__" : Str))
def glC (sc : Scope) (x : Str) : Bool := decide (sc.names.lookup x = some .globalImplicit) && !(x == ("__debug__" : Str))
def storeC (bk : Bk) (x : Str) : Bool := match bk.sc.names.lookup x with
  | some .local => true
  | some .cell => bk.fn x
  | _ => false
def slotV (N : List Str) (bk : Bk) (x : Str) : Option Nat := if visC bk.sc x && okName x then N.idxOf? x else none
def slotS (N : List Str) (bk : Bk) (x : Str) : Option Nat := if storeC bk x then N.idxOf? x else none
def keyFn (ks : List FK) (x : Str) : Option String := ks.findSome? fun
  | .fn s => if Str.ofString s = x then some s else none
  | _ => none
def keyCls (ks : List FK) (x : Str) : Option String := ks.findSome? fun
  | .mt c m => if m = "__init__" ∧ Str.ofString c = x then some c else none
  | _ => none
def keyMt (ks : List FK) (x : Str) : Option String := ks.findSome? fun
  | .mt _ m => if Str.ofString m = x then some m else none
  | _ => none
def bopOf : Operator → Option Bop
  | .Add => some .add
  | .Sub => some .sub
  | .Mult => some .mul
  | .FloorDiv => some .fdiv
  | .Mod => some .mod
  | .Pow => some .pow
  | _ => none
def cmpOf : CmpOp → Option Cop
  | .Eq => some .eq
  | .NotEq => some .ne
  | .Lt => some .lt
  | .LtE => some .le
  | .Gt => some .gt
  | .GtE => some .ge
  | .In => some .isin
  | .NotIn => some .notin
  | .Is => some .is
  | .IsNot => some .isnot
theorem bopOf_ok {op : Operator} {o : Bop} (h : bopOf op = some o) : op = opOf o := by cases op <;> simp [bopOf] at h <;> subst h <;> rfl
theorem cmpOf_ok {op : CmpOp} {o : Cop} (h : cmpOf op = some o) : op = copOf o := by cases op <;> simp [cmpOf] at h <;> subst h <;> rfl
/-- an own list's place: a name, a field of a name's thing -/
def pathOf (g : Gm) (N : List Str) (bk : Bk) : Expr → Option (Nat × Option Nat)
  | .Name x _ => (slotV N bk x).map fun i => (i, none)
  | .Attribute (.Name x _) y _ => (slotV N bk x).bind fun i => (g.fl.idxOf? y).map fun f => (i, some f)
  | _ => none
def blts : List Str := ["len", "all", "any", "tuple", "list", "dict", "isinstance", "int", "bool", "str", "range", "repr", "sorted", "set", "zip", "enumerate", "max", "min", "sum", "abs", "ValueError"]
def isiOf (y : Str) : Option String := if y = "int" then some "int" else if y = "bool" then some "bool" else if y = "str" then some "str" else if y = "tuple" then some "tuple" else if y = "list" then some "list" else if y = "dict" then some "dict" else none
def prmB (x : Str) : Option Prm := if x = "len" then some .len else if x = "all" then some .all else if x = "any" then some .any else if x = "repr" then some .repr else if x = "sorted" then some .sorted else if x = "max" then some .max else if x = "min" then some .min else if x = "abs" then some .abs else none
def prmT (x : Str) : Option Prm := if x = "tuple" then some .tuple else if x = "list" then some .list else if x = "dict" then some .dict else none
def slots (N : List Str) (bk : Bk) : List Expr → Option (List Nat)
  | [] => some []
  | .Name x _ :: r => (slotS N bk x).bind fun i => (slots N bk r).map (i :: ·)
  | _ :: _ => none
def tgOf (N : List Str) (bk : Bk) : Expr → Option (List Nat × Bool)
  | .Name x _ => (slotS N bk x).map fun i => ([i], true)
  | .Tuple es _ _ => (slots N bk es).map fun is => (is, false)
  | _ => none
section
variable (g : Gm) (N : List Str) (f : Bk → Expr → Ex)
def cName (bk : Bk) (x : Str) : Ex := match slotV N bk x with
  | some i => .var i
  | none => if glC bk.sc x then (match g.cst x with
    | some d => .cst d
    | none => .bad) else .bad
def isTupT : Expr → Bool
  | .Tuple _ _ _ => true
  | _ => false
def cIter (bk : Bk) (tg e : Expr) : It := match e with
  | .Call (.Name x _) [a] [] _ => if x = "range" ∧ glC bk.sc x = true ∧ notStar a = true then .rng (f bk a) else if x = "enumerate" ∧ isTupT tg = true ∧ glC bk.sc x = true ∧ notStar a = true then .enm [f bk a] else .val (f bk e)
  | .Call (.Name x _) [a, b] [] _ => if x = "range" ∧ glC bk.sc x = true ∧ notStar a = true ∧ notStar b = true then .rng2 (f bk a) (f bk b) else if x = "zip" ∧ isTupT tg = true ∧ glC bk.sc x = true ∧ notStar a = true ∧ notStar b = true then .zip [f bk a, f bk b] else .val (f bk e)
  | _ => .val (f bk e)
def notSet : Expr → Bool
  | .Set _ _ _ => false
  | _ => true
def ownOf (N : List Str) (is : List Nat) : List (Str × Nat) := is.filterMap fun i => (N[i]?).map fun x => (x, i)
def cComp (bk : Bk) (elt tg it : Expr) (ifs : List Expr) (scope : Scope) : Ex :=
  let bk' : Bk := ⟨relS scope bk.sc, fun x => scope.names.lookup x == some .cell, none, false⟩
  match tgOf N bk' tg with
  | none => .bad
  | some (is, one) => if blkC N bk.sc scope (ownOf N is) = true ∧ (ownOf N is).map (·.2) = is ∧ notSet it = true ∧ ifs.length ≤ 1 then .lcp (f bk' elt) is one (cIter f bk tg it) (ifs.map (f bk')) else .bad
def cCallN (bk : Bk) (x : Str) (es : List Expr) : Ex :=
  if glC bk.sc x = true ∧ es.all notStar = true then
    match keyFn g.keys x with
    | some s => .cal s (es.map (f bk))
    | none => match keyCls g.keys x with
      | some s => .new s (es.map (f bk))
      | none => if es = [] then .bad else match prmB x with
        | some p => .prm p (es.map (f bk))
        | none => match prmT x with
          | some p => .prm p (es.map (f bk))
          | none => .bad
  else .bad
def cIsi (bk : Bk) (x : Str) (a : Expr) (y : Str) : Option Ex :=
  if x = "isinstance" ∧ glC bk.sc x = true ∧ glC bk.sc y = true ∧ notStar a = true then (isiOf y).map fun t => .prm (.isi t) [f bk a] else none
def xName (y : Str) : Option String := if y = "ValueError" then some "ValueError" else g.xh.find? fun n => decide (Str.ofString n = y)
def xNames : List Expr → Option (List String)
  | [] => some []
  | .Name y _ :: r => (g.xh.find? fun n => decide (Str.ofString n = y)).bind fun n => (xNames r).map (n :: ·)
  | _ :: _ => none
def namesGl (bk : Bk) : List Expr → Bool
  | [] => true
  | .Name y _ :: r => glC bk.sc y && namesGl bk r
  | _ :: _ => false
/-- isinstance of own exceptions -/
def cIsx (bk : Bk) (x : Str) (a : Expr) (y : Str) : Option Ex :=
  if x = "isinstance" ∧ glC bk.sc x = true ∧ glC bk.sc y = true ∧ notStar a = true then (xName g y).map fun n => .isx (f bk a) [n] else none
def cIsxT (bk : Bk) (x : Str) (a : Expr) (es : List Expr) : Option Ex :=
  if x = "isinstance" ∧ glC bk.sc x = true ∧ namesGl bk es = true ∧ notStar a = true ∧ es.length ≤ 1000 then (xNames g es).map fun ns => .isx (f bk a) ns else none
def noPar : Arguments → Bool
  | ⟨[], [], none, [], [], none, []⟩ => true
  | _ => false
/-- f(lambda: e) -/
def cLam (bk : Bk) (x : Str) (params : Arguments) (body : Expr) (scope : Scope) : Ex :=
  if bk.lam = true ∧ glC bk.sc x = true ∧ noPar params = true ∧ LamX.lamSB bk.sc scope = true then
    match g.lkeys.find? fun n => decide (Str.ofString n = x) with
    | some w => .lam w N.length (scope.names.filterMap fun y => if y.2 = .free then N.idxOf? y.1 else none) (f ⟨scope, fun _ => false, none, false⟩ body)
    | none => .bad
  else .bad
def isNoneE : Expr → Bool
  | .Constant .none _ _ => true
  | _ => false
def cIsn (bk : Bk) (l : Expr) (op : CmpOp) (r : Expr) : Option Ex := match l, op with
  | .Name x p, .Is => if isNoneE r = true ∧ behindInMarks .Is r = false then some (.isn false (f bk (.Name x p))) else none
  | .Name x p, .IsNot => if isNoneE r = true ∧ behindInMarks .IsNot r = false then some (.isn true (f bk (.Name x p))) else none
  | _, _ => none
def bmtOf (m : Str) (n : Nat) : Option Prm := if m = "get" ∧ n = 2 then some .dget else if m = "index" ∧ n = 1 then some .sindex else if m = "join" ∧ n = 1 then some .join else none
def cCallM (bk : Bk) (o : Expr) (m : Str) (es : List Expr) (apos pos : Pos) : Ex :=
  if (apos.endLine == pos.line) = true ∧ noSuper o = true ∧ es.all notStar = true ∧ es.length < 30 then
    match keyMt g.keys m with
    | some s => if m ∈ g.fl then .bad else .mth (f bk o) s (es.map (f bk))
    | none => match bmtOf m es.length with
      | some p => .bmt p (f bk o) (es.map (f bk))
      | none => match pathOf g N bk o with
        | some (i, p) => if m = "append" ∧ es ≠ [] then .mut .append i p (es.map (f bk)) else if m = "clear" ∧ es = [] then .mut .clear i p [] else if m = "extend" ∧ es ≠ [] then .mut .extend i p (es.map (f bk)) else if m = "pop" ∧ es = [] then .mut .pop i p [] else .bad
        | none => .bad
  else .bad
def weave : List Ex → List Ex → List Ex
  | k :: ks, v :: vs => k :: v :: weave ks vs
  | _, _ => []
def somes : List (Option Expr) → Option (List Expr)
  | [] => some []
  | some e :: r => (somes r).map (e :: ·)
  | none :: _ => none
def cOpt (bk : Bk) : Option Expr → Ex
  | none => .cst .none
  | some e => let c := f bk e
    if isNo c then .bad else c
def isBad : Ex → Bool
  | .bad => true
  | _ => false
def stepE (bk : Bk) (e : Expr) : Ex := match e with
  | .Constant c _ _ => (match c with
    | .none => .cst .none
    | .bool b => .cst (.bool b)
    | .int i => .cst (.int i)
    | .str x => .cst (.str x)
    | _ => .bad)
  | .Name x _ => cName g N bk x
  | .Tuple es _ _ => if es.all notStar = true ∧ es.length ≤ 1000 then .tup (es.map (f bk)) else .bad
  | .List es _ => if es.all notStar = true ∧ es.length ≤ 1000 then .lst (es.map (f bk)) else .bad
  | .BinOp a op b _ => (match bopOf op with
    | some o => .bin o (f bk a) (f bk b)
    | none => .bad)
  | .UnaryOp op a _ => (match op with
    | .Not => .not (f bk a)
    | .USub => .prm .neg [f bk a]
    | _ => .bad)
  | .BoolOp op vs _ => if 2 ≤ vs.length then (match op with
    | .And => andE (vs.map (f bk))
    | .Or => orE (vs.map (f bk))) else .bad
  | .IfExp t a b _ => .ite (f bk t) (f bk a) (f bk b)
  | .Compare l ops rs _ => (match ops, rs with
    | [op], [r] => (match cIsn f bk l op r with
      | some c => c
      | none => (match cmpOf op with
        | some o => if behindInMarks op r then .bad else .cmp o (f bk l) (f bk r)
        | none => .bad))
    | [op, op2], [r, r2] => (match cmpOf op, cmpOf op2 with
      | some o, some o2 => if behindInMarks op2 r2 then .bad else .chn o o2 (f bk l) (f bk r) (f bk r2)
      | _, _ => .bad)
    | _, _ => .bad)
  | .Subscript a s _ => (match s with
    | .Slice lo hi none _ => if isBad (cOpt f bk lo) || isBad (cOpt f bk hi) then .bad else .slc (f bk a) (cOpt f bk lo) (cOpt f bk hi)
    | b => if isSlice b then .bad else .sub (f bk a) (f bk b))
  | .Dict ks vs _ => (match somes ks with
    | some es => if ks.length ≤ 15 ∧ ks.length = vs.length then .dct (weave (es.map (f bk)) (vs.map (f bk))) else .bad
    | none => .bad)
  | .Attribute o y _ => if noSuper o then (match g.fl.idxOf? y with
    | some k => (match pathOf g N bk o with
      | some (i, none) => .fld i k
      | _ => .tfl (f bk o) k)
    | none => .bad) else .bad
  | .Call fn es kws pos => (match kws with
    | [] => (match fn with
      | .Name x _ => (match es with
        | [.Call (.Name y _) [a] [] _] => if x = "len" ∧ y = "set" ∧ glC bk.sc x = true ∧ glC bk.sc y = true ∧ notStar a = true then .prm .set [f bk a] else cCallN g f bk x es
        | [.Call (.Name y _) [a, b] [] _] => if x = "tuple" ∧ y = "zip" ∧ glC bk.sc x = true ∧ glC bk.sc y = true ∧ notStar a = true ∧ notStar b = true then .prm .zip2 [f bk a, f bk b] else cCallN g f bk x es
        | [.Call (.Attribute a y apos) [] [] cpos] => if x = "sorted" ∧ y = "items" ∧ glC bk.sc x = true ∧ (apos.endLine == cpos.line) = true ∧ noSuper a = true then .prm .sitems [f bk a] else cCallN g f bk x es
        | [a, .Name y _] => (match cIsi f bk x a y with
          | some c => c
          | none => (match cIsx g f bk x a y with
            | some c => c
            | none => cCallN g f bk x es))
        | [a, .Tuple ys _ _] => (match cIsxT g f bk x a ys with
          | some c => c
          | none => cCallN g f bk x es)
        | [.Lambda params body scope _] => cLam g N f bk x params body scope
        | [] => (match bk.th with
          | some (a, i) => if x = a then .thc i else cCallN g f bk x es
          | none => cCallN g f bk x es)
        | _ => cCallN g f bk x es)
      | .Attribute o m apos => cCallM g N f bk o m es apos pos
      | _ => .bad)
    | _ => .bad)
  | .ListComp elt gens scope _ => (match gens with
    | [⟨tg, it, ifs, as⟩] => if as = 0 then cComp N f bk elt tg it ifs scope else .bad
    | _ => .bad)
  | _ => .bad
end
def compE (g : Gm) (N : List Str) : Nat → Bk → Expr → Ex
  | 0, _, _ => .bad
  | n + 1, bk, e => stepE g N (compE g N n) bk e
end Iv
set_option linter.all false
set_option maxRecDepth 100000
set_option maxHeartbeats 4000000
/-! Iv20: the compiled expressions are right. -/
namespace Iv
open PySem PySem.Spec PyProof.Rows L2
/-- what is known of own exceptions -/
structure XFacts (P : Program) (w : World) (K : PySem.W.Frag) (mg : Str → Option Value) (base : Heap) (xs xin xh : List String) : Prop where
  pl : ∀ c ∈ xs, c ∉ xin → XPl K mg c
  ini : ∀ c ∈ xs, c ∈ xin → ∃ f, XIn P w K mg base c f
  em : ∀ a ∈ xs, ∀ c ∈ xh, PySem.W.exmOne K (.ref (He.ga K (Str.ofString a))) (.ref (He.ga K (Str.ofString c))) = some (subX a c)
  at_ : ∀ c ∈ xh, mg (Str.ofString c) = some (.ref (He.ga K (Str.ofString c)))
  kit : ∀ a ∈ xs, ∀ c ∈ xh, PySem.W.kitOne K (.ref (He.ga K (Str.ofString a))) (.ref (He.ga K (Str.ofString c))) = some (subX a c)
  ve : ∀ a ∈ xs, PySem.W.kitOne K (.ref (He.ga K (Str.ofString a))) (.type "ValueError") = some (subX a "ValueError")
  ec : ∀ c ∈ xs, ExcC K (He.ga K (Str.ofString c))
def Parts0 (XO : Cx → Flds → Ask → Sig → CallFn → Nat → Bk → Prop) (f : Bk → Expr → Ex) : Prop := ∀ (X : Cx) (T : Flds) (A : Ask) (sg : Sig) (cf : CallFn) (k : Nat) (bk : Bk) (e : Expr), XO X T A sg cf k bk → SE (X.mo T) A sg cf X e (f bk e)
structure XOk0 (X : Cx) (T : Flds) (A : Ask) (sg : Sig) (cf : CallFn) (k : Nat) (g : Gm) (N : List Str) (bk : Bk) : Prop where
  ctx : Ctx X T A sg cf k
  hN : X.N = N
  sc : X.env.scope = bk.sc
  fn : X.fn = bk.fn
  keys : g.keys = sg.keys
  fl : g.fl = T.fl
  cst : ∀ x d, g.cst x = some d → ∃ u v, X.mg x = some u ∧ RelV v u ∧ ∀ Z H, RD (X.mo T) Z H d v
  blt : ∀ x ∈ blts, X.mg x = none
  xs : g.xs = T.xs
  rx : A.R = RX (X.mo T)
  xf : XFacts X.prog X.w X.K X.mg X.base g.xs g.xin g.xh
  k2 : 2 ≤ k
  th : ∀ a i, bk.th = some (a, i) → ∃ t σ0 cf2, ThOk X T A.R sg cf a i t σ0 cf2
/-- the context of a block: lambdas, where they may be made -/
structure XOk (X : Cx) (T : Flds) (A : Ask) (sg : Sig) (cf : CallFn) (k : Nat) (g : Gm) (N : List Str) (bk : Bk) : Prop extends XOk0 X T A sg cf k g N bk where
  lam : bk.lam = true → TabOk X T ∧ ∀ w ∈ g.lkeys, ∀ (params : Arguments) (body : Expr) (scope : Scope) (caps : List Nat) (f : Bk → Expr → Ex), Parts0 (fun X T A sg cf k bk => bk.lam = false ∧ XOk0 X T A sg cf k g N bk) f → noPar params = true → LamX.LamS X.env.scope scope → ∃ gd, LamP X T cf w params body scope N.length caps (f ⟨scope, fun _ => false, none, false⟩ body) gd
section
variable {X : Cx} {T : Flds} {A : Ask} {sg : Sig} {cf : CallFn} {k : Nat} {g : Gm} {N : List Str} {bk : Bk}
theorem takes_off {Y : Cx} : Takes Y (fun _ _ _ _ => False) := fun _ _ ⟨_, _, _, _, _, _, _, _, _, _, _, _, _, _, _, _, w⟩ => w.elim
theorem XOk.blk (o : XOk X T A sg cf k g N bk) (s : Shared) (H : Hp) (scope : Scope) (C : Addr) (cl : List (Str × Addr)) (fp : List Addr) : XOk (X.blk s H scope (compEnvC scope cl C X.env) fp) T A.off sg cf k g N ⟨relS scope bk.sc, fun x => scope.names.lookup x == some .cell, none, false⟩ where
  ctx := ⟨o.ctx.room, o.ctx.gd, takes_off, o.ctx.calm, o.ctx.nd, o.ctx.has, o.ctx.makes⟩
  hN := o.hN
  sc := by show relS scope X.env.scope = _; rw [o.sc]
  fn := rfl
  keys := o.keys
  fl := o.fl
  cst := o.cst
  blt := o.blt
  xs := o.xs
  rx := o.rx
  xf := o.xf
  k2 := o.k2
  th := fun _ _ h => nomatch h
  lam := fun h => nomatch h
theorem idx_ok {l : List Str} {x : Str} {i : Nat} (h : l.idxOf? x = some i) : l[i]? = some x := by
  unfold List.idxOf? at h
  obtain ⟨h1, h2, _⟩ := List.findIdx?_eq_some_iff_getElem.mp h
  rw [List.getElem?_eq_getElem h1]
  simpa using h2
theorem vis_ok {sc : Scope} {x : Str} (h : visC sc x = true) : Vis sc x := by
  unfold visC at h
  split at h
  · exact .inl (by assumption)
  · exact .inr (.inl (by assumption))
  · exact .inr (.inr (by assumption))
  · cases h
theorem XOk.gl (o : XOk X T A sg cf k g N bk) {x : Str} (h : glC bk.sc x = true) : Gl X x ∧ (x == ("__debug__" : Str)) = false := by
  unfold glC at h
  simp only [Bool.and_eq_true, decide_eq_true_eq, Bool.not_eq_true'] at h
  exact ⟨by show X.env.scope.names.lookup x = _; rw [o.sc]; exact h.1, h.2⟩
theorem XOk.var (o : XOk X T A sg cf k g N bk) {x : Str} {i : Nat} {p : Pos} (h : slotV N bk x = some i) : PE X (.Name x p) (tVar i) := by
  unfold slotV at h
  split at h
  · rename_i hv
    simp only [Bool.and_eq_true, okName, Bool.not_eq_true'] at hv
    exact pe_var (by rw [o.hN]; exact idx_ok h) (by rw [o.sc]; exact vis_ok hv.1) hv.2.1 hv.2.2
  · cases h
theorem XOk.store (o : XOk X T A sg cf k g N bk) {x : Str} {i : Nat} (h : slotS N bk x = some i) : NameAt X x i := by
  unfold slotS at h
  split at h
  · rename_i hv
    unfold storeC at hv
    refine ⟨by rw [o.hN]; exact idx_ok h, ?_, ?_⟩
    · rw [o.sc]
      split at hv
      · exact .inl (by assumption)
      · exact .inr (by assumption)
      · cases hv
    · rw [o.sc, o.fn]
      split at hv
      · exact .inr (by assumption)
      · exact .inl hv
      · cases hv
  · cases h
theorem XOk.slots (o : XOk X T A sg cf k g N bk) : ∀ {es : List Expr} {is : List Nat}, slots N bk es = some is → NamesAt X es is
  | [], is, h => by cases h; exact .nil
  | e :: es, is, h => by
    cases e with
    | Name x p =>
      simp only [Iv.slots] at h
      cases h1 : slotS N bk x with
      | none => rw [h1] at h; cases h
      | some i =>
        rw [h1] at h
        cases h2 : Iv.slots N bk es with
        | none => rw [h2] at h; cases h
        | some r =>
          rw [h2] at h
          cases h
          exact .cons (o.store h1) (XOk.slots o h2)
    | _ => simp [Iv.slots] at h
theorem XOk.tg (o : XOk X T A sg cf k g N bk) {e : Expr} {is : List Nat} {one : Bool} (h : tgOf N bk e = some (is, one)) : TgOk X e is one := by
  unfold tgOf at h
  split at h
  · obtain ⟨i, h1, h2⟩ := Option.map_eq_some_iff.mp h
    cases h2
    exact .one (o.store h1)
  · obtain ⟨i, h1, h2⟩ := Option.map_eq_some_iff.mp h
    cases h2
    exact .tup (o.slots h1)
  · cases h
theorem keyFn_ok {ks : List FK} {x : Str} {s : String} (h : keyFn ks x = some s) : FK.fn s ∈ ks ∧ Str.ofString s = x := by
  unfold keyFn at h
  obtain ⟨a, h1, h2⟩ := List.exists_of_findSome?_eq_some h
  cases a with
  | fn t =>
    simp only at h2
    split at h2
    · rename_i e; cases h2; exact ⟨h1, e⟩
    · cases h2
  | mt c m => cases h2
  | lm => cases h2
theorem keyCls_ok {ks : List FK} {x : Str} {s : String} (h : keyCls ks x = some s) : FK.mt s "__init__" ∈ ks ∧ Str.ofString s = x := by
  unfold keyCls at h
  obtain ⟨a, h1, h2⟩ := List.exists_of_findSome?_eq_some h
  cases a with
  | fn t => cases h2
  | mt c m =>
    simp only at h2
    split at h2
    · rename_i e; cases h2; obtain ⟨rfl, e⟩ := e; exact ⟨h1, e⟩
    · cases h2
  | lm => cases h2
theorem keyMt_ok {ks : List FK} {x : Str} {s : String} (h : keyMt ks x = some s) : Str.ofString s = x := by
  unfold keyMt at h
  obtain ⟨a, h1, h2⟩ := List.exists_of_findSome?_eq_some h
  cases a with
  | fn t => cases h2
  | mt c m =>
    simp only at h2
    split at h2
    · rename_i e; cases h2; exact e
    · cases h2
  | lm => cases h2
variable {f : Bk → Expr → Ex}
/-- the parts are right -/
def Parts (sg : Sig) (cf : CallFn) (k : Nat) (T : Flds) (g : Gm) (N : List Str) (f : Bk → Expr → Ex) : Prop := ∀ (X : Cx) (A : Ask) (bk : Bk) (e : Expr), XOk X T A sg cf k g N bk → SE (X.mo T) A sg cf X e (f bk e)
theorem Parts.all (h : Parts sg cf k T g N f) (o : XOk X T A sg cf k g N bk) : ∀ es : List Expr, SEs (X.mo T) A sg cf X es (es.map (f bk))
  | [] => .nil
  | e :: es => .cons (h X A bk e o) (Parts.all h o es)
theorem XOk.units (o : XOk X T A sg cf k g N bk) : X.A.units + 64 < cLine := by have := o.ctx.room.un; omega
theorem bad_ok {e : Expr} : SE (X.mo T) A sg cf X e .bad := SE.bad (fun ρ => by rw [eval]) rfl
theorem se_name (o : XOk X T A sg cf k g N bk) {x : Str} {p : Pos} : SE (X.mo T) A sg cf X (.Name x p) (cName g N bk x) := by
  unfold cName
  cases h : slotV N bk x with
  | some i => exact se_var rfl (o.var h)
  | none =>
    simp only
    split
    · rename_i hg
      obtain ⟨h1, h2⟩ := o.gl hg
      cases hc : g.cst x with
      | none => exact bad_ok
      | some d =>
        obtain ⟨u, v, e1, e2, e3⟩ := o.cst x d hc
        exact se_cst rfl (pe_glob h1 e1 e2 h2) e3
    · exact bad_ok
theorem path_ok (o : XOk X T A sg cf k g N bk) {e : Expr} {i : Nat} {p : Option Nat} (h : pathOf g N bk e = some (i, p)) : SE (X.mo T) A sg cf X e (pathE i p) := by
  unfold pathOf at h
  split at h
  · obtain ⟨j, h1, h2⟩ := Option.map_eq_some_iff.mp h
    cases h2
    exact se_var rfl (o.var h1)
  · rename_i x _ y _
    cases h1 : slotV N bk x with
    | none => rw [h1] at h; cases h
    | some j =>
      rw [h1] at h
      obtain ⟨q, h3, h4⟩ := Option.map_eq_some_iff.mp (show (g.fl.idxOf? y).map (fun f => (j, some f)) = some (i, p) from h)
      cases h4
      exact se_fld (o.var h1) (by rw [← o.fl]; exact idx_ok h3) rfl
  · cases h
theorem set_fold {it : Expr} {env : Env} (h : notSet it = true) (x : Value) : foldedSetIterable it env x = pure x := by
  unfold foldedSetIterable
  cases it <;> first | rfl | simp [notSet] at h
theorem iter_ok (h : Parts sg cf k T g N f) (o : XOk X T A sg cf k g N bk) {tg e : Expr} : PI X tg e (tIt (X.mo T) A sg cf (cIter f bk tg e)) := by
  unfold cIter
  split
  · split
    · rename_i c
      obtain ⟨rfl, c2, c3⟩ := c
      exact pi_rng (o.gl c2).1 (o.blt _ (by decide)) (h X A bk _ o) c3
    · split
      · rename_i c
        obtain ⟨rfl, c1, c2, c3⟩ := c
        cases tg <;> first | (simp [isTupT] at c1; done) | exact pi_enm (o.gl c2).1 (o.blt _ (by decide)) (h X A bk _ o) c3
      · exact pi_val (h X A bk _ o)
  · split
    · rename_i c
      obtain ⟨rfl, c2, c3, c4⟩ := c
      exact pi_rng2 (o.gl c2).1 (o.blt _ (by decide)) (h X A bk _ o) (h X A bk _ o) c3 c4
    · split
      · rename_i c
        obtain ⟨rfl, c1, c2, c3, c4⟩ := c
        cases tg <;> first | (simp [isTupT] at c1; done) | exact pi_zp (o.gl c2).1 (o.blt _ (by decide)) (h X A bk _ o) (h X A bk _ o) c3 c4
      · exact pi_val (h X A bk _ o)
  · exact pi_val (h X A bk _ o)
theorem lc_ok (h : Parts sg cf k T g N f) (o : XOk X T A sg cf k g N bk) {elt tg it : Expr} {ifs : List Expr} {scope : Scope} {is : List Nat} {one : Bool} (ht : tgOf N ⟨relS scope bk.sc, fun x => scope.names.lookup x == some .cell, none, false⟩ tg = some (is, one))
    (hc : blkC N bk.sc scope (ownOf N is) = true ∧ (ownOf N is).map (·.2) = is ∧ notSet it = true ∧ ifs.length ≤ 1) : LcOk X T A sg cf elt tg it ifs scope (f ⟨relS scope bk.sc, fun x => scope.names.lookup x == some .cell, none, false⟩ elt) is one (cIter f bk tg it) (ifs.map (f ⟨relS scope bk.sc, fun x => scope.names.lookup x == some .cell, none, false⟩)) where
  itOk := iter_ok h o
  blk := ⟨ownOf N is, by rw [o.hN, o.sc]; exact blkOk_by hc.1, hc.2.1⟩
  tgOk := fun s H C cl fp => (o.blk s H scope C cl fp).tg ht
  ifsOk := fun s H C cl fp => h.all (o.blk s H scope C cl fp) ifs
  eltOk := fun s H C cl fp => h _ _ _ _ (o.blk s H scope C cl fp)
  hs := set_fold hc.2.2.1
  le := hc.2.2.2
theorem comp_ok (h : Parts sg cf k T g N f) (o : XOk X T A sg cf k g N bk) {elt tg it : Expr} {ifs : List Expr} {scope : Scope} {pos : Pos} : SE (X.mo T) A sg cf X (.ListComp elt [⟨tg, it, ifs, 0⟩] scope pos) (cComp N f bk elt tg it ifs scope) := by
  unfold cComp
  simp only
  split
  · exact bad_ok
  · rename_i is one ht
    split
    · rename_i hc
      exact se_lcp o.ctx.calm o.ctx.nd (lc_ok h o ht hc)
    · exact bad_ok
theorem callN_ok (h : Parts sg cf k T g N f) (o : XOk X T A sg cf k g N bk) {x : Str} {es : List Expr} {p pos : Pos} : SE (X.mo T) A sg cf X (.Call (.Name x p) es [] pos) (cCallN g f bk x es) := by
  unfold cCallN
  split
  · rename_i c
    obtain ⟨c1, c2⟩ := c
    obtain ⟨h1, h2⟩ := o.gl c1
    split
    · rename_i s hs
      obtain ⟨k1, rfl⟩ := keyFn_ok hs
      exact se_cal o.ctx (o.keys ▸ k1) h1 h2 (h.all o es) c2
    · split
      · rename_i s hs
        obtain ⟨k1, rfl⟩ := keyCls_ok hs
        exact se_new o.ctx (o.keys ▸ k1) h1 h2 (h.all o es) c2
      · split
        · exact bad_ok
        · rename_i hne
          split
          · rename_i p hp
            unfold prmB at hp
            split at hp
            · rename_i e; subst e; cases hp
              exact se_prmB cs_len h1 (o.blt _ (by decide)) (by rfl) (by decide) h2 (h.all o es) c2 hne
            · split at hp
              · rename_i e; subst e; cases hp
                exact se_prmB (cs_all o.ctx.calm) h1 (o.blt _ (by decide)) (by rfl) (by decide) h2 (h.all o es) c2 hne
              · split at hp
                · rename_i e; subst e; cases hp
                  exact se_prmB (cs_any o.ctx.calm) h1 (o.blt _ (by decide)) (by rfl) (by decide) h2 (h.all o es) c2 hne
                · split at hp
                  · rename_i e; subst e; cases hp
                    exact se_prmB (cs_repr o.ctx.gd o.units) h1 (o.blt _ (by decide)) (by rfl) (by decide) h2 (h.all o es) c2 hne
                  · split at hp
                    · rename_i e; subst e; cases hp
                      exact se_prmB (cs_sorted o.ctx.calm o.units) h1 (o.blt _ (by decide)) (by rfl) (by decide) h2 (h.all o es) c2 hne
                    · split at hp
                      · rename_i e; subst e; cases hp
                        exact se_prmB (cs_max o.ctx.calm) h1 (o.blt _ (by decide)) (by rfl) (by decide) h2 (h.all o es) c2 hne
                      · split at hp
                        · rename_i e; subst e; cases hp
                          exact se_prmB (cs_min o.ctx.calm) h1 (o.blt _ (by decide)) (by rfl) (by decide) h2 (h.all o es) c2 hne
                        · split at hp
                          · rename_i e; subst e; cases hp
                            exact se_prmB cs_abs h1 (o.blt _ (by decide)) (by rfl) (by decide) h2 (h.all o es) c2 hne
                          · cases hp
          · split
            · rename_i p hp
              unfold prmT at hp
              split at hp
              · rename_i e; subst e; cases hp
                exact se_prmT cs_tuple h1 (o.blt _ (by decide)) (by rfl) (by decide) h2 (h.all o es) c2 hne
              · split at hp
                · rename_i e; subst e; cases hp
                  exact se_prmT cs_list h1 (o.blt _ (by decide)) (by rfl) (by decide) h2 (h.all o es) c2 hne
                · split at hp
                  · rename_i e; subst e; cases hp
                    exact se_prmT (cs_dict o.ctx.calm) h1 (o.blt _ (by decide)) (by rfl) (by decide) h2 (h.all o es) c2 hne
                  · cases hp
            · exact bad_ok
  · exact bad_ok
end
end Iv
set_option linter.all false
set_option maxRecDepth 100000
set_option maxHeartbeats 4000000
/-! Iv21: the compiled expressions are right (all). -/
namespace Iv
open PySem PySem.Spec PyProof.Rows L2
section
variable {X : Cx} {T : Flds} {A : Ask} {sg : Sig} {cf : CallFn} {k : Nat} {g : Gm} {N : List Str} {bk : Bk} {f : Bk → Expr → Ex}
theorem isi_ok (h : Parts sg cf k T g N f) (o : XOk X T A sg cf k g N bk) {x y : Str} {a : Expr} {c : Ex} {p p1 pos : Pos} (e : cIsi f bk x a y = some c) : SE (X.mo T) A sg cf X (.Call (.Name x p) [a, .Name y p1] [] pos) c := by
  unfold cIsi at e
  split at e
  · rename_i q
    obtain ⟨rfl, q1, q2, q3⟩ := q
    obtain ⟨t, ht, rfl⟩ := Option.map_eq_some_iff.mp e
    have key : ∀ (z : Str) (t : String), z ∈ blts → bootBuiltins z = some (.type t) → z ≠ "__name__" → y = z → SE (X.mo T) A sg cf X (.Call (.Name "isinstance" p) [a, .Name y p1] [] pos) (.prm (.isi t) [f bk a]) := by
      intro z t hz hb hn hy
      subst hy
      exact se_isi (o.gl q1).1 (o.blt _ (by decide)) (o.gl q2).1 (o.blt _ hz) hb hn (o.gl q2).2 (h X A bk a o) q3
    unfold isiOf at ht
    split at ht
    · rename_i e2; cases ht; exact key "int" _ (by decide) (by rfl) (by decide) e2
    · split at ht
      · rename_i e2; cases ht; exact key "bool" _ (by decide) (by rfl) (by decide) e2
      · split at ht
        · rename_i e2; cases ht; exact key "str" _ (by decide) (by rfl) (by decide) e2
        · split at ht
          · rename_i e2; cases ht; exact key "tuple" _ (by decide) (by rfl) (by decide) e2
          · split at ht
            · rename_i e2; cases ht; exact key "list" _ (by decide) (by rfl) (by decide) e2
            · split at ht
              · rename_i e2; cases ht; exact key "dict" _ (by decide) (by rfl) (by decide) e2
              · cases ht
  · cases e
theorem find_x {l : List String} {y : Str} {n : String} (h : l.find? (fun n => decide (Str.ofString n = y)) = some n) : n ∈ l ∧ Str.ofString n = y := ⟨List.mem_of_find?_eq_some h, by simpa using List.find?_some h⟩
theorem isx_ok (h : Parts sg cf k T g N f) (o : XOk X T A sg cf k g N bk) {x y : Str} {a : Expr} {c : Ex} {p p1 pos : Pos} (e : cIsx g f bk x a y = some c) : SE (X.mo T) A sg cf X (.Call (.Name x p) [a, .Name y p1] [] pos) c := by
  unfold cIsx at e
  split at e
  rotate_left
  · cases e
  rename_i q
  obtain ⟨rfl, q1, q2, q3⟩ := q
  obtain ⟨n, hn, rfl⟩ := Option.map_eq_some_iff.mp e
  have hx : ∀ c ∈ T.xs, ExcC X.K (He.ga X.K (Str.ofString c)) := by rw [← o.xs]; exact o.xf.ec
  unfold xName at hn
  split at hn
  · rename_i ey
    cases hn
    subst ey
    exact se_isx1 (n := "ValueError") (v := .ty "ValueError") (cv := .type "ValueError") (o.gl q1).1 (o.blt _ (by decide)) (pe_bltn (o.gl q2).1 (o.blt _ (by decide)) PyProof.Rows.Boot.«ValueError» rfl (by decide) (o.gl q2).2) (fun u r => r) (by rw [← o.xs]; exact o.xf.ve) hx (h X A bk a o) q3
  · obtain ⟨hm, rfl⟩ := find_x hn
    have at1 := o.xf.at_ n hm
    refine se_isx1 (n := n) (v := .ref (He.ga X.K (Str.ofString n))) (cv := .ref (He.ga X.K (Str.ofString n))) (o.gl q1).1 (o.blt _ (by decide)) (pe_glob (u := .ref (He.ga X.K (Str.ofString n))) (o.gl q2).1 at1 (show RelV (.ref _) (.ref _) from rfl) (o.gl q2).2) (fun u r => r) ?_ hx (h X A bk a o) q3
    rw [← o.xs]
    exact fun a ha => o.xf.kit a ha n hm
theorem xnames_ok (o : XOk X T A sg cf k g N bk) : ∀ {es : List Expr} {ns : List String}, xNames g es = some ns → namesGl bk es = true → ClNs X es ns ∧ ∀ n ∈ ns, n ∈ g.xh
  | [], ns, e, _ => by
    simp only [xNames, Option.some.injEq] at e
    subst e
    exact ⟨.nil, fun _ h => nomatch h⟩
  | e :: es, ns, h, hg => by
    cases e with
    | Name y p =>
      simp only [xNames] at h
      cases hf : g.xh.find? fun n => decide (Str.ofString n = y) with
      | none => rw [hf] at h; cases h
      | some n =>
        rw [hf] at h
        simp only [Option.bind_some] at h
        obtain ⟨ms, hm, rfl⟩ := Option.map_eq_some_iff.mp h
        simp only [namesGl, Bool.and_eq_true] at hg
        obtain ⟨hn, rfl⟩ := find_x hf
        obtain ⟨r1, r2⟩ := xnames_ok o hm hg.2
        refine ⟨.cons (o.gl hg.1).1 (o.xf.at_ n hn) (o.gl hg.1).2 r1, fun m hm => ?_⟩
        rcases List.mem_cons.mp hm with rfl | hm
        · exact hn
        · exact r2 m hm
    | _ => simp [xNames] at h
theorem xnames_len : ∀ {es : List Expr} {ns : List String}, xNames g es = some ns → ns.length = es.length
  | [], ns, e => by
    simp only [xNames, Option.some.injEq] at e
    subst e
    rfl
  | e :: es, ns, h => by
    cases e with
    | Name y p =>
      simp only [xNames] at h
      cases hf : g.xh.find? fun n => decide (Str.ofString n = y) with
      | none => rw [hf] at h; cases h
      | some n =>
        rw [hf] at h
        simp only [Option.bind_some] at h
        obtain ⟨ms, hm, rfl⟩ := Option.map_eq_some_iff.mp h
        simp [xnames_len hm]
    | _ => simp [xNames] at h
theorem isxT_ok (h : Parts sg cf k T g N f) (o : XOk X T A sg cf k g N bk) {x : Str} {a : Expr} {es : List Expr} {c : Ex} {j : Nat} {p p1 pos : Pos} (e : cIsxT g f bk x a es = some c) : SE (X.mo T) A sg cf X (.Call (.Name x p) [a, .Tuple es j p1] [] pos) c := by
  unfold cIsxT at e
  split at e
  rotate_left
  · cases e
  rename_i q
  obtain ⟨rfl, q1, q2, q3, q4⟩ := q
  obtain ⟨ns, hn, rfl⟩ := Option.map_eq_some_iff.mp e
  obtain ⟨r1, r2⟩ := xnames_ok o hn q2
  have hx : ∀ c ∈ T.xs, ExcC X.K (He.ga X.K (Str.ofString c)) := by rw [← o.xs]; exact o.xf.ec
  refine se_isxT (o.gl q1).1 (o.blt _ (by decide)) r1 (by rw [xnames_len hn]; exact q4) ?_ hx (h X A bk a o) q3
  rw [← o.xs]
  exact fun a ha n hn' => o.xf.kit a ha n (r2 n hn')
theorem isn_ok (h : Parts sg cf k T g N f) (o : XOk X T A sg cf k g N bk) {l r : Expr} {op : CmpOp} {c : Ex} {pos : Pos} (e : cIsn f bk l op r = some c) : SE (X.mo T) A sg cf X (.Compare l [op] [r] pos) c := by
  have key : ∀ neg, isNoneE r = true → behindInMarks (isnOp neg) r = false → SE (X.mo T) A sg cf X (.Compare l [isnOp neg] [r] pos) (.isn neg (f bk l)) := fun neg h1 h2 => by
    cases r with
    | Constant c0 j p0 =>
      cases c0 with
      | none => exact se_isn pe_non h2 (h X A bk l o)
      | _ => cases h1
    | _ => cases h1
  unfold cIsn at e
  split at e
  · split at e
    · rename_i q; cases e; exact key false q.1 q.2
    · cases e
  · split at e
    · rename_i q; cases e; exact key true q.1 q.2
    · cases e
  · cases e
theorem noPar_ok {params : Arguments} (h : noPar params = true) : params = ⟨[], [], none, [], [], none, []⟩ := by
  unfold noPar at h
  split at h
  · rfl
  · cases h
theorem lam_ok (hf : Parts0 (fun X T A sg cf k bk => bk.lam = false ∧ XOk0 X T A sg cf k g N bk) f) (o : XOk X T A sg cf k g N bk) {x : Str} {params : Arguments} {body : Expr} {scope : Scope} {p lpos pos : Pos} : SE (X.mo T) A sg cf X (.Call (.Name x p) [.Lambda params body scope lpos] [] pos) (cLam g N f bk x params body scope) := by
  unfold cLam
  split
  rotate_left
  · exact bad_ok
  rename_i q
  obtain ⟨q1, q2, q3, q4⟩ := q
  split
  rotate_left
  · exact bad_ok
  rename_i w hw
  obtain ⟨hm, rfl⟩ := find_x hw
  have L : LamX.LamS X.env.scope scope := LamX.lamS_by (by rw [o.sc]; exact q4)
  obtain ⟨tb, hl⟩ := o.lam q1
  obtain ⟨gd, P⟩ := hl w hm params body scope _ f hf q3 L
  have ep := noPar_ok q3
  refine se_lam P tb (o.gl q2).1 (o.gl q2).2 L ?_
  rw [ep]
  rfl
theorem thc_ok (o : XOk X T A sg cf k g N bk) {a : Str} {i : Nat} {p pos : Pos} (h : bk.th = some (a, i)) : SE (X.mo T) A sg cf X (.Call (.Name a p) [] [] pos) (.thc i) := by
  obtain ⟨t, σ0, cf2, K⟩ := o.th a i h
  exact se_thc K o.ctx.tk
theorem callM_ok (h : Parts sg cf k T g N f) (o : XOk X T A sg cf k g N bk) {r : Expr} {m : Str} {es : List Expr} {apos pos : Pos} : SE (X.mo T) A sg cf X (.Call (.Attribute r m apos) es [] pos) (cCallM g N f bk r m es apos pos) := by
  unfold cCallM
  split
  · rename_i c
    obtain ⟨c1, c2, c3, c4⟩ := c
    split
    · rename_i s hs
      have e := keyMt_ok hs
      subst e
      split
      · exact bad_ok
      · rename_i hf
        exact se_mth o.ctx (by rw [← o.fl]; exact hf) (h X A bk r o) (h.all o es) c3 c2 c4 c1
    · split
      · rename_i p hp
        unfold bmtOf at hp
        split at hp
        · rename_i e; cases hp; obtain ⟨rfl, e⟩ := e
          exact se_bmt PySem.F.plainAttrs_dict PySem.F.slot_dict_get PySem.F.type_dict_get cs_dget (h X A bk r o) (h.all o es) (by intro z; subst z; simp at e) c2 c3 c4 c1
        · split at hp
          · rename_i e; cases hp; obtain ⟨rfl, e⟩ := e
            exact se_bmt PySem.F.plainAttrs_str PySem.F.slot_str_index PySem.F.type_str_index cs_sindex (h X A bk r o) (h.all o es) (by intro z; subst z; simp at e) c2 c3 c4 c1
          · split at hp
            · rename_i e; cases hp; obtain ⟨rfl, e⟩ := e
              exact se_bmt PySem.F.plainAttrs_str PySem.F.slot_str_join PySem.F.type_str_join cs_join (h X A bk r o) (h.all o es) (by intro z; subst z; simp at e) c2 c3 c4 c1
            · cases hp
      · split
        · rename_i i p hp
          split
          · rename_i e
            obtain ⟨rfl, e⟩ := e
            exact se_append (path_ok o hp) c2 (h.all o es) c3 e c4 c1
          · split
            · rename_i e
              obtain ⟨rfl, rfl⟩ := e
              exact se_clear (path_ok o hp) c2 c1
            · split
              · rename_i e
                obtain ⟨rfl, e⟩ := e
                exact se_extend (path_ok o hp) c2 (h.all o es) c3 e c4 c1
              · split
                · rename_i e
                  obtain ⟨rfl, rfl⟩ := e
                  exact se_pop (path_ok o hp) c2 c1
                · exact bad_ok
        · exact bad_ok
  · exact bad_ok
theorem opt_ok (h : Parts sg cf k T g N f) (o : XOk X T A sg cf k g N bk) : ∀ lo : Option Expr, cOpt f bk lo ≠ .bad → (lo = none ∧ cOpt f bk lo = .cst .none) ∨ ∃ e, lo = some e ∧ SE (X.mo T) A sg cf X e (cOpt f bk lo) ∧ isNo (cOpt f bk lo) = false
  | none, _ => .inl ⟨rfl, rfl⟩
  | some e, hb => by
    refine .inr ⟨e, rfl, ?_⟩
    unfold cOpt at hb ⊢
    simp only at hb ⊢
    split at hb
    · exact absurd rfl hb
    · rename_i hn
      rw [if_neg hn]
      exact ⟨h X A bk e o, by simpa using hn⟩
theorem somes_ok (h : Parts sg cf k T g N f) (o : XOk X T A sg cf k g N bk) : ∀ {ks : List (Option Expr)} {es vs : List Expr}, somes ks = some es → ks.length = vs.length → SEp (X.mo T) A sg cf X ks vs (weave (es.map (f bk)) (vs.map (f bk)))
  | [], es, vs, e, hl => by
    cases e
    cases vs with
    | nil => exact .nil
    | cons _ _ => simp at hl
  | none :: ks, es, vs, e, hl => by cases e
  | some a :: ks, es, vs, e, hl => by
    simp only [somes] at e
    obtain ⟨r, h1, rfl⟩ := Option.map_eq_some_iff.mp e
    cases vs with
    | nil => simp at hl
    | cons v vs => exact .cons (h X A bk a o) (h X A bk v o) (somes_ok h o h1 (by simpa using hl))
theorem notBad {c : Ex} (h : isBad c = false) : c ≠ .bad := fun e => by subst e; cases h
theorem path_var (o : XOk X T A sg cf k g N bk) {e : Expr} {i : Nat} (h : pathOf g N bk e = some (i, none)) : PE X e (tVar i) := by
  unfold pathOf at h
  split at h
  · obtain ⟨j, h1, h2⟩ := Option.map_eq_some_iff.mp h
    cases h2
    exact o.var h1
  · rename_i x _ y _
    cases h1 : slotV N bk x with
    | none => rw [h1] at h; cases h
    | some j =>
      rw [h1] at h
      obtain ⟨q, h3, h4⟩ := Option.map_eq_some_iff.mp (show (g.fl.idxOf? y).map (fun f => (j, some f)) = some (i, none) from h)
      cases h4
  · cases h
theorem step_ok (hf : Parts0 (fun X T A sg cf k bk => bk.lam = false ∧ XOk0 X T A sg cf k g N bk) f) (h : Parts sg cf k T g N f) : Parts sg cf k T g N (stepE g N f) := by
  intro X A bk e o
  unfold stepE
  split
  · -- constants
    split
    · exact se_cst rfl pe_non fun _ _ => .non
    · exact se_cst rfl pe_bl fun _ _ => .bl _
    · exact se_cst rfl pe_int fun _ _ => .int _
    · exact se_cst rfl pe_str fun _ _ => .str _
    · exact bad_ok
  · exact se_name o
  · split
    · rename_i c; exact se_tup (h.all o _) c.1 (by rw [List.length_map]; exact c.2)
    · exact bad_ok
  · split
    · rename_i c; exact se_lst (h.all o _) c.1 (by rw [List.length_map]; exact c.2)
    · exact bad_ok
  · split
    · rename_i op _ _ ob hb
      rw [bopOf_ok hb]
      exact se_bin (h X A bk _ o) (h X A bk _ o)
    · exact bad_ok
  · split
    · exact se_not (h X A bk _ o)
    · exact se_neg (h X A bk _ o)
    · exact bad_ok
  · split
    · rename_i hl
      split
      · exact se_and (h.all o _) hl
      · exact se_or (h.all o _) hl
    · exact bad_ok
  · exact se_ite (h X A bk _ o) (h X A bk _ o) (h X A bk _ o)
  · split
    · split
      · rename_i c hc
        exact isn_ok h o hc
      · split
        · rename_i oc hc
          split
          · exact bad_ok
          · rename_i hm
            have e1 := cmpOf_ok hc
            subst e1
            exact se_cmp o.units (by simpa using hm) (h X A bk _ o) (h X A bk _ o)
        · exact bad_ok
    · split
      · rename_i o1 o2 hc1 hc2
        split
        · exact bad_ok
        · rename_i hm
          have e1 := cmpOf_ok hc1
          have e2 := cmpOf_ok hc2
          subst e1 e2
          exact se_chn o.units (by simpa using hm) (h X A bk _ o) (h X A bk _ o) (h X A bk _ o)
      · exact bad_ok
    · exact bad_ok
  · split
    · rename_i lo hi _
      split
      · exact bad_ok
      · rename_i hb
        simp only [Bool.or_eq_true, not_or, Bool.not_eq_true] at hb
        exact se_slc (h X A bk _ o) (opt_ok h o lo (notBad hb.1)) (opt_ok h o hi (notBad hb.2))
    · split
      · exact bad_ok
      · rename_i hs
        exact se_sub (by simpa using hs) (h X A bk _ o) (h X A bk _ o)
  · split
    · rename_i es he
      split
      · rename_i c
        exact se_dct (somes_ok h o he c.2) c.1
      · exact bad_ok
    · exact bad_ok
  · split
    · rename_i hb
      split
      · rename_i q hq
        split
        · rename_i i hp
          exact se_fld (path_var o hp) (by rw [← o.fl]; exact idx_ok hq) hb
        · exact se_tfl (h X A bk _ o) (by rw [← o.fl]; exact idx_ok hq) hb
      · exact bad_ok
    · exact bad_ok
  · split
    · split
      · split
        · split
          · rename_i c
            obtain ⟨rfl, rfl, c1, c2, c3⟩ := c
            exact se_lenset o.ctx.calm (o.gl c1).1 (o.blt _ (by decide)) (o.gl c2).1 (o.blt _ (by decide)) (h X A bk _ o) c3
          · exact callN_ok h o
        · split
          · rename_i c
            obtain ⟨rfl, rfl, c1, c2, c3, c4⟩ := c
            exact se_tupzip o.ctx.calm (o.gl c1).1 (o.blt _ (by decide)) (o.gl c2).1 (o.blt _ (by decide)) (h X A bk _ o) (h X A bk _ o) c3 c4
          · exact callN_ok h o
        · split
          · rename_i c
            obtain ⟨rfl, rfl, c1, c2, c3⟩ := c
            exact se_sitems o.ctx.calm o.units (o.gl c1).1 (o.blt _ (by decide)) (h X A bk _ o) c3 c2
          · exact callN_ok h o
        · split
          · rename_i c hc
            exact isi_ok h o hc
          · split
            · rename_i c hc
              exact isx_ok h o hc
            · exact callN_ok h o
        · split
          · rename_i c hc
            exact isxT_ok h o hc
          · exact callN_ok h o
        · exact lam_ok hf o
        · split
          · rename_i a i hth
            split
            · rename_i e; subst e; exact thc_ok o hth
            · exact callN_ok h o
          · exact callN_ok h o
        · exact callN_ok h o
      · exact callM_ok h o
      · exact bad_ok
    · exact bad_ok
  · split
    · split
      · rename_i e; subst e; exact comp_ok h o
      · exact bad_ok
    · exact bad_ok
  · exact bad_ok
theorem compE_ok : ∀ n {sg : Sig} {cf : CallFn} {k : Nat} {T : Flds}, Parts sg cf k T g N (compE g N n)
  | 0, _, _, _, _ => fun X A bk e o => bad_ok
  | n + 1, _, _, _, _ => step_ok (fun X T A sg cf k bk e o => compE_ok n X A bk e ⟨o.2, fun hl => by rw [o.1] at hl; cases hl⟩) (compE_ok n)
end
end Iv
set_option linter.all false
set_option maxRecDepth 100000
set_option maxHeartbeats 4000000
/-! Iv22: statements compiled, and that this is right. -/
namespace Iv
open PySem PySem.Spec PyProof.Rows L2
/-- a, b = x, y with plain local names, stored from the right -/
def swapC (sc : Scope) (x y : Str) (px py : Pos) (a b : Expr) : Bool :=
  (match sc.kind with | .function => true | _ => false) && decide (sc.names.lookup x = some .local) && decide (sc.names.lookup y = some .local) && (py.line == px.line) && decide (x ≠ y) &&
    notStar a && notStar b && !([a, b].all (foldedForSure 8)) && !([a, b].all (constantsAlone 8))
def swap3C (sc : Scope) (x y z : Str) (px py pz : Pos) (a b c : Expr) : Bool :=
  (match sc.kind with | .function => true | _ => false) && (decide (sc.names.lookup x = some .local) && (decide (sc.names.lookup y = some .local) && (decide (sc.names.lookup z = some .local) && ((py.line == px.line) && ((pz.line == px.line) && (decide (x ≠ y) && (decide (x ≠ z) && (decide (y ≠ z) &&
    (notStar a && (notStar b && (notStar c && (!([a, b, c].all (foldedForSure 8)) && !([a, b, c].all (constantsAlone 8))))))))))))))
section
variable (g : Gm) (N : List Str) (f : Bk → Expr → Ex) (h : Bk → Stmt → Sm)
def cAsg (bk : Bk) (t v : Expr) : Sm := match t with
  | .Name x _ => (match slotS N bk x with
    | some i => (match v with
      | .ListComp elt [⟨tg, it, ifs, as⟩] scope _ => if as = 0 then .asg i (cComp N f bk elt tg it ifs scope) else .bad
      | .Name y p => if g.mov x y then (match slotV N bk y with
        | some j => .mov i j
        | none => .bad) else .asg i (f bk (.Name y p))
      | v => if noComp v then .asg i (f bk v) else .bad)
    | none => .bad)
  | .Tuple es _ _ => if noTup v then (match slots N bk es with
      | some is => .unp is (f bk v)
      | none => .bad)
    else (match es, v with
      | [.Name x px, .Name y py], .Tuple [a, b] _ _ => (match N.idxOf? x, N.idxOf? y with
        | some i, some j => if swapC bk.sc x y px py a b = true ∧ i ≠ j then .par i j (f bk a) (f bk b) else .bad
        | _, _ => .bad)
      | [.Name x px, .Name y py, .Name z pz], .Tuple [a, b, c] _ _ => (match N.idxOf? x, N.idxOf? y, N.idxOf? z with
        | some i, some j, some l => if swap3C bk.sc x y z px py pz a b c = true ∧ i ≠ j ∧ i ≠ l ∧ j ≠ l then .par3 i j l (f bk a) (f bk b) (f bk c) else .bad
        | _, _, _ => .bad)
      | _, _ => .bad)
  | .Subscript o k _ => if isSlice k then .bad else (match pathOf g N bk o with
    | some (i, p) => .sub i p (f bk k) (f bk v)
    | none => .bad)
  | .Attribute o y _ => (match pathOf g N bk o, g.fl.idxOf? y with
    | some (i, none), some q => .fld i q (f bk v)
    | _, _ => .bad)
  | _ => .bad
def cstE : Expr → Option D
  | .Constant c _ _ => (match c with
    | .none => some .none
    | .bool b => some (.bool b)
    | .int i => some (.int i)
    | .str x => some (.str x)
    | _ => none)
  | _ => none
def cRaise (bk : Bk) (x : Str) (a : Expr) : Sm :=
  if glC bk.sc x = true ∧ notStar a = true then
    match g.xs.find? fun n => decide (Str.ofString n = x) with
    | some c => if c ∈ g.xin then .rse c true (f bk a) else (match a with
      | .Constant (.str m) _ _ => .rse c false (.cst (.str m))
      | _ => .bad)
    | none => .bad
  else .bad
def cTry (bk : Bk) (body : List Stmt) (x : Str) (nm : Option Str) (su : List Stmt) : Sm :=
  if glC bk.sc x = true then
    match g.xh.find? fun n => decide (Str.ofString n = x) with
    | none => .bad
    | some c => (match nm, su with
      | some n, [.Assign [.Name y _] (.Name n2 _) _] => (match N.idxOf? n, slotS N bk y with
        | some i, some j => if n2 = n ∧ bk.sc.names.lookup n = some .local ∧ okName n = true then .tr (body.map (h { bk with lam := false })) c (some i) (.keep j) else .bad
        | _, _ => .bad)
      | none, [.Assign [.Name y _] e _] => (match slotS N bk y, cstE e with
        | some j, some d => .tr (body.map (h { bk with lam := false })) c none (.set j d)
        | _, _ => .bad)
      | none, [.Return (some e) _] => (match cstE e with
        | some d => .tr (body.map (h { bk with lam := false })) c none (.ret d)
        | none => .bad)
      | _, _ => .bad)
  else .bad
def stepS (bk : Bk) (st : Stmt) : Sm := match st with
  | .Raise (some (.Call (.Name x _) [a] [] _)) none _ => cRaise g f bk x a
  | .Try body [.ExceptHandler (some (.Name x _)) nm su _] [] [] _ => cTry g N h bk body x nm su
  | .Assign ts v _ => (match ts with
    | [t] => cAsg g N f bk t v
    | _ => .bad)
  | .AugAssign t op v _ => (match t with
    | .Name x _ => (match slotS N bk x, bopOf op with
      | some i, some .add => .aug i .add (f bk v)
      | some i, some .sub => .aug i .sub (f bk v)
      | _, _ => .bad)
    | _ => .bad)
  | .Expr e _ => if noComp e then .exp (f bk e) else .bad
  | .Return e _ => (match e with
    | none => .ret (.cst .none)
    | some (.Name x _) => (match slotV N bk x with
      | some i => .ret (.var i)
      | none => .ret (match g.cst x with
        | some d => if glC bk.sc x then .cst d else .bad
        | none => .bad))
    | some e => if isVar (f bk e) then .bad else .ret (f bk e))
  | .If c a b _ => .ite (f bk c) (a.map (h bk)) (b.map (h bk))
  | .For tg it b els _ => (match els with
    | [] => (match tgOf N bk tg with
      | some (is, one) => if notSet it then .fo is one (cIter f bk tg it) (b.map (h bk)) else .bad
      | none => .bad)
    | _ => .bad)
  | .While c b els _ => (match els with
    | [] => .whl (f bk c) (b.map (h bk))
    | _ => .bad)
  | .Pass _ => .pas
  | .Break _ => .brk
  | .Continue _ => .cnt
  | _ => .bad
end
def compS (g : Gm) (N : List Str) : Nat → Bk → Stmt → Sm
  | 0, _, _ => .bad
  | n + 1, bk, st => stepS g N (compE g N n) (compS g N n) bk st
section
variable {X : Cx} {T : Flds} {A : Ask} {sg : Sig} {cf : CallFn} {k : Nat} {g : Gm} {N : List Str} {bk : Bk} {f : Bk → Expr → Ex} {h : Bk → Stmt → Sm} {pr : List Nat} {fu : Nat}
/-- a def's own frame -/
structure FrOk (X : Cx) : Prop where
  po : PassesOwn (model X.prog X.w) X.A X.env X.xe
  st : X.stack = X.env :: X.outer
  ex : X.ex = []
  fr : X.env.frame = some X.env.locals
def PartsS (sg : Sig) (cf : CallFn) (k : Nat) (T : Flds) (g : Gm) (N : List Str) (pr : List Nat) (fu : Nat) (h : Bk → Stmt → Sm) : Prop := ∀ (X : Cx) (A : Ask) (bk : Bk) (st : Stmt), XOk X T A sg cf k g N bk → FrOk X → PS X st (tS (X.mo T) A pr sg cf fu (h bk st))
theorem PartsS.all (hS : PartsS sg cf k T g N pr fu h) (o : XOk X T A sg cf k g N bk) (po : FrOk X) : ∀ b : List Stmt, PSs X b (tSs (X.mo T) A pr sg cf fu (b.map (h bk)))
  | [] => ss_nil
  | st :: b => ss_cons (hS X A bk st o po) (PartsS.all hS o po b)
theorem sbad {st : Stmt} : PS X st (tS (X.mo T) A pr sg cf fu .bad) := ss_bad fun ρ => by rw [exec]
theorem swap_ok' {x y : Str} {px py pt pt2 : Pos} {a b : Expr} {kt k2 : Nat} {env : Env} (hb : env.blockKind = .function) (kx : env.kindOf x = some .local) (ky : env.kindOf y = some .local) (h4 : (py.line == px.line) = true) (h5 : x ≠ y) (h6 : notStar a = true) (h7 : notStar b = true) (h8 : [a, b].all (foldedForSure 8) = false) (h9 : [a, b].all (constantsAlone 8) = false) : swappedStores [.Tuple [.Name x px, .Name y py] kt pt] (.Tuple [a, b] k2 pt2) env = pure (some [x, y]) := by
  unfold swappedStores
  simp only [hb]
  have h4' : py.line = px.line := by simpa using h4
  have hne : ([x, y].eraseDups).length = 2 := by
    have : (y == x) = false := by simpa using Ne.symm h5
    simp [List.eraseDups_cons, this]
  refine (if_neg (fun z => Bool.false_ne_true z)).trans ?_
  refine (if_neg (by
    intro hh
    simp only [List.any_cons, List.any_nil, Bool.or_false, Bool.or_eq_true] at hh
    rcases hh with hh | hh
    · cases a <;> first | (simp [notStar] at h6; done) | cases hh
    · cases b <;> first | (simp [notStar] at h7; done) | cases hh)).trans ?_
  have hn : ∀ z : Option Nat, z = some px.line → ([Expr.Name x px, Expr.Name y py].filterMap fun
    | .Name id pos => if env.kindOf id == some .local && pos.line == z.getD 0 then some id else none
    | _ => none) = [x, y] := fun z hz => by
    subst hz
    rw [List.filterMap_cons]
    simp only [kx, Option.getD_some, beq_self_eq_true, Bool.and_self, if_true]
    rw [List.filterMap_cons]
    simp only [ky, Option.getD_some, beq_self_eq_true, h4', Bool.and_self, if_true]
    rfl
  have h10 := hn (Option.map (fun x => x.pos.line) [Expr.Name x px, Expr.Name y py].head?) rfl
  refine (if_neg (fun hh => ?_)).trans ?_
  rotate_left
  · rw [h8, h9]
    simp only [Bool.false_eq_true, if_false]
    exact congrArg (fun l => pure (some l)) h10
  · have h11 : (([x, y] : List Str).length != 2 || ([x, y].eraseDups).length != ([x, y] : List Str).length) = true := by
      rw [← h10]; exact hh
    rw [hne] at h11
    cases h11
theorem swap_ok {x y : Str} {px py pt pt2 : Pos} {a b : Expr} {kt k2 : Nat} {env : Env} (hc : swapC env.scope x y px py a b = true) : swappedStores [.Tuple [.Name x px, .Name y py] kt pt] (.Tuple [a, b] k2 pt2) env = pure (some [x, y]) := by
  unfold swapC at hc
  simp only [Bool.and_eq_true, decide_eq_true_eq, Bool.not_eq_true'] at hc
  obtain ⟨⟨⟨⟨⟨⟨⟨⟨h1, h2⟩, h3⟩, h4⟩, h5⟩, h6⟩, h7⟩, h8⟩, h9⟩ := hc
  have hk : env.scope.kind = .function := by
    split at h1
    · assumption
    · cases h1
  have hb : env.blockKind = .function := by unfold Env.blockKind; rw [hk]; rfl
  have kx : env.kindOf x = some .local := h2
  have ky : env.kindOf y = some .local := h3
  exact swap_ok' hb kx ky h4 h5 h6 h7 h8 h9
theorem swap3_ok {x y z : Str} {px py pz pt pt2 : Pos} {a b c : Expr} {kt k2 : Nat} {env : Env} (hc : swap3C env.scope x y z px py pz a b c = true) : swappedStores [.Tuple [.Name x px, .Name y py, .Name z pz] kt pt] (.Tuple [a, b, c] k2 pt2) env = pure (some [x, y, z]) := by
  unfold swap3C at hc
  simp only [Bool.and_eq_true, decide_eq_true_eq, Bool.not_eq_true'] at hc
  obtain ⟨h1, h2, h3, h3', h4, h4', h5, h5', h5'', h6, h7, h7', h8, h9⟩ := hc
  have hk : env.scope.kind = .function := by
    split at h1
    · assumption
    · cases h1
  have hb : env.blockKind = .function := by unfold Env.blockKind; rw [hk]; rfl
  have kx : env.kindOf x = some .local := h2
  have ky : env.kindOf y = some .local := h3
  have kz : env.kindOf z = some .local := h3'
  have l1 : py.line = px.line := by simpa using h4
  have l2 : pz.line = px.line := by simpa using h4'
  unfold swappedStores
  simp only [hb]
  have hne : ([x, y, z].eraseDups).length = 3 := by
    have e1 : (y == x) = false := by simpa using Ne.symm h5
    have e2 : (z == x) = false := by simpa using Ne.symm h5'
    have e3 : (z == y) = false := by simpa using Ne.symm h5''
    simp [List.eraseDups_cons, e1, e2, e3]
  refine (if_neg (fun z => Bool.false_ne_true z)).trans ?_
  refine (if_neg (by
    intro hh
    simp only [List.any_cons, List.any_nil, Bool.or_false, Bool.or_eq_true] at hh
    rcases hh with hh | hh | hh
    · cases a <;> first | (simp [notStar] at h6; done) | cases hh
    · cases b <;> first | (simp [notStar] at h7; done) | cases hh
    · cases c <;> first | (simp [notStar] at h7'; done) | cases hh)).trans ?_
  have hn : ∀ q : Option Nat, q = some px.line → ([Expr.Name x px, Expr.Name y py, Expr.Name z pz].filterMap fun
    | .Name id pos => if env.kindOf id == some .local && pos.line == q.getD 0 then some id else none
    | _ => none) = [x, y, z] := fun q hq => by
    subst hq
    rw [List.filterMap_cons]
    simp only [kx, Option.getD_some, beq_self_eq_true, Bool.and_self, if_true]
    rw [List.filterMap_cons]
    simp only [ky, Option.getD_some, beq_self_eq_true, l1, Bool.and_self, if_true]
    rw [List.filterMap_cons]
    simp only [kz, Option.getD_some, beq_self_eq_true, l2, Bool.and_self, if_true]
    rfl
  have h10 := hn (Option.map (fun x => x.pos.line) [Expr.Name x px, Expr.Name y py, Expr.Name z pz].head?) rfl
  refine (if_neg (fun hh => ?_)).trans ?_
  rotate_left
  · rw [h8, h9]
    simp only [Bool.false_eq_true, if_false]
    exact congrArg (fun l => pure (some l)) h10
  · have h11 : (([x, y, z] : List Str).length != 3 || ([x, y, z].eraseDups).length != ([x, y, z] : List Str).length) = true := by
      rw [← h10]; exact hh
    rw [hne] at h11
    cases h11
theorem XOk.tr {pn : List (Addr × Obj)} {xe : Value → Shared → Prop} {W : WX} (o : XOk X T A sg cf k g N bk) (tk : Takes (X.tr pn xe) W) : XOk (X.tr pn xe) T ⟨A.R, W⟩ sg cf k g N { bk with lam := false } where
  ctx := ⟨o.ctx.room, o.ctx.gd, tk, o.ctx.calm, o.ctx.nd, o.ctx.has, o.ctx.makes⟩
  hN := o.hN
  sc := o.sc
  fn := o.fn
  keys := o.keys
  fl := o.fl
  cst := o.cst
  blt := o.blt
  xs := o.xs
  rx := o.rx
  xf := o.xf
  k2 := o.k2
  th := fun a i h => by
    obtain ⟨t, σ0, cf2, K⟩ := o.th a i h
    exact ⟨t, σ0, cf2, K.th, K.caps, K.len, K.run, K.act⟩
  lam := fun h => nomatch h
theorem cst_ok {e : Expr} {d : D} (h : cstE e = some d) : ∃ v, (∀ Y : Cx, PE Y e (tC v)) ∧ (∀ B Z H, RD B Z H d v) ∧ noComp e = true := by
  unfold cstE at h
  split at h
  · split at h
    · cases h; exact ⟨.non, fun _ => pe_non, fun _ _ _ => .non, rfl⟩
    · cases h; exact ⟨.bl _, fun _ => pe_bl, fun _ _ _ => .bl _, rfl⟩
    · cases h; exact ⟨.int _, fun _ => pe_int, fun _ _ _ => .int _, rfl⟩
    · cases h; exact ⟨.str _, fun _ => pe_str, fun _ _ _ => .str _, rfl⟩
    · cases h
  · cases h
theorem raise_ok (hE : Parts sg cf k T g N f) (o : XOk X T A sg cf k g N bk) {x : Str} {a : Expr} {p p2 pos : Pos} : PS X (.Raise (some (.Call (.Name x p) [a] [] p2)) none pos) (tS (X.mo T) A pr sg cf fu (cRaise g f bk x a)) := by
  unfold cRaise
  split
  rotate_left
  · exact sbad
  rename_i q
  split
  rotate_left
  · exact sbad
  rename_i c hc
  obtain ⟨hm, rfl⟩ := find_x hc
  have hx : c ∈ T.xs := by rw [← o.xs]; exact hm
  split
  · rename_i hi
    obtain ⟨fl, P⟩ := o.xf.ini c hm hi
    exact ss_raiseI o.ctx.calm o.ctx.tk o.rx hx P (o.ctx.room.mono (by have := o.k2; omega)) (o.gl q.1).1 (o.gl q.1).2 (hE X A bk a o) q.2
  · rename_i hi
    split
    · exact ss_raiseP o.ctx.calm o.ctx.tk o.rx hx (o.xf.pl c hm hi) (o.gl q.1).1 (o.gl q.1).2
    · exact sbad
theorem try_ok (hS : PartsS sg cf k T g N pr fu h) (o : XOk X T A sg cf k g N bk) (po : FrOk X) {x : Str} {nm : Option Str} {body su : List Stmt} {p p2 pos : Pos} : PS X (.Try body [.ExceptHandler (some (.Name x p)) nm su p2] [] [] pos) (tS (X.mo T) A pr sg cf fu (cTry g N h bk body x nm su)) := by
  unfold cTry
  split
  rotate_left
  · exact sbad
  rename_i hg
  split
  · exact sbad
  rename_i c hc
  obtain ⟨hm, rfl⟩ := find_x hc
  have hN := o.ctx.nd
  have nms : Names X (Str.ofString c) (.ref (He.ga X.K (Str.ofString c))) := ⟨(o.gl hg).1, (o.gl hg).2, .inl (o.xf.at_ c hm)⟩
  have hmm : ∀ a ∈ T.xs, PySem.W.exmOne X.K (.ref (He.ga X.K (Str.ofString a))) (.ref (He.ga X.K (Str.ofString c))) = some (subX a c) := by
    rw [← o.xs]
    exact fun a ha => o.xf.em a ha c hm
  have hb : ∀ (W : WX) (pn : List (Addr × Obj)) (xe : Value → Shared → Prop), Takes (X.tr pn xe) W → PassesOwn (model X.prog X.w) X.A X.env xe → PSs (X.tr pn xe) body (tSs (X.mo T) ⟨A.R, W⟩ pr sg cf fu (body.map (h { bk with lam := false }))) :=
    fun W pn xe tk pe => hS.all (o.tr tk) ⟨pe, po.st, po.ex, po.fr⟩ body
  split
  · split
    · rename_i i j hi hj
      split
      · rename_i q
        obtain ⟨rfl, q1, q2⟩ := q
        have n := o.store hj
        unfold okName at q2
        simp only [Bool.and_eq_true, Bool.not_eq_true'] at q2
        rw [← o.sc] at q1
        exact ss_try_keep po.st po.ex po.fr hN (by rw [o.hN]; exact idx_ok hi) q1 (.inl q1) q2.1 q2.2 n.ix n.loc n.hf nms o.ctx.tk o.rx hmm hb
      · exact sbad
    · exact sbad
  · split
    · rename_i j d hj hd
      have n := o.store hj
      obtain ⟨v, h1, h2, h3⟩ := cst_ok hd
      exact ss_try_set po.st po.fr hN n.ix n.loc n.hf nms o.ctx.tk o.rx hmm hb h3 h1 (h2 _)
    · exact sbad
  · split
    · rename_i d hd
      obtain ⟨v, h1, h2, h3⟩ := cst_ok hd
      exact ss_try_ret po.st po.fr nms o.ctx.tk o.rx hmm hb h1 (h2 _)
    · exact sbad
  · exact sbad
theorem stepS_ok (hE : Parts sg cf k T g N f) (hS : PartsS sg cf k T g N pr fu h) : PartsS sg cf k T g N pr fu (stepS g N f h) := by
  intro X A bk st o po
  have hN := o.ctx.nd
  have hc := o.ctx.calm
  unfold stepS
  split
  · exact raise_ok hE o
  · exact try_ok hS o po
  · split
    · unfold cAsg
      split
      · split
        · rename_i i hi
          split
          · split
            · rename_i e
              subst e
              unfold cComp
              simp only
              split
              · exact ss_bad fun ρ => by rw [exec]; simp [eval]
              · rename_i is one ht
                split
                · rename_i hcc
                  exact ss_asgLc hc hN (o.store hi) (lc_ok hE o ht hcc)
                · exact ss_bad fun ρ => by rw [exec]; simp [eval]
            · exact sbad
          · split
            · split
              · rename_i j hj
                have n := o.store hi
                exact ss_mov hN n.ix n.loc n.hf rfl (o.var hj)
              · exact sbad
            · have n := o.store hi
              exact ss_asg hN n.ix n.loc n.hf rfl (hE X A bk _ o)
          · split
            · rename_i hn
              have n := o.store hi
              exact ss_asg hN n.ix n.loc n.hf hn (hE X A bk _ o)
            · exact sbad
        · exact sbad
      · split
        · rename_i ht
          split
          · rename_i is hi
            exact ss_unp hc hN (o.slots hi) ht (hE X A bk _ o)
          · exact sbad
        · split
          · split
            · rename_i i j hi hj
              split
              · rename_i c
                obtain ⟨c1, c2⟩ := c
                have c1' := c1
                unfold swapC at c1'
                simp only [Bool.and_eq_true, decide_eq_true_eq, Bool.not_eq_true'] at c1'
                obtain ⟨⟨⟨⟨⟨⟨⟨⟨h1, h2⟩, h3⟩, h4⟩, h5⟩, h6⟩, h7⟩, h8⟩, h9⟩ := c1'
                rw [← o.sc] at c1 h2 h3
                exact ss_par hc hN (by rw [o.hN]; exact idx_ok hi) (by rw [o.hN]; exact idx_ok hj) c2 h2 h3 (swap_ok c1) (hE X A bk _ o) (hE X A bk _ o) (by simp [h6, h7])
              · exact sbad
            · exact sbad
          · split
            · rename_i i j l hi hj hl
              split
              · rename_i c
                obtain ⟨c1, c2, c3, c4⟩ := c
                have c1' := c1
                unfold swap3C at c1'
                simp only [Bool.and_eq_true, decide_eq_true_eq, Bool.not_eq_true'] at c1'
                obtain ⟨h1, h2, h3, h3', h4, h4', h5, h5', h5'', h6, h7, h7', h8, h9⟩ := c1'
                rw [← o.sc] at c1 h2 h3 h3'
                exact ss_par3 hc hN (by rw [o.hN]; exact idx_ok hi) (by rw [o.hN]; exact idx_ok hj) (by rw [o.hN]; exact idx_ok hl) c2 c3 c4 h2 h3 h3' (swap3_ok c1) (hE X A bk _ o) (hE X A bk _ o) (hE X A bk _ o) (by simp [h6, h7, h7'])
              · exact sbad
            · exact sbad
          · exact sbad
      · split
        · exact sbad
        · split
          · rename_i i p hp
            exact ss_sub (by have := o.units; omega) (path_ok o hp) (hE X A bk _ o) (hE X A bk _ o)
          · exact sbad
      · split
        · rename_i i q hp hq
          exact ss_fld (by rw [← o.fl]; exact idx_ok hq) (path_ok o hp) (hE X A bk _ o)
        · exact sbad
      · exact sbad
    · exact sbad
  · split
    · split
      · rename_i i hi ho
        rw [bopOf_ok ho]
        exact ss_aug hN (o.store hi) (hE X A bk _ o) (.inl rfl)
      · rename_i i hi ho
        rw [bopOf_ok ho]
        exact ss_aug hN (o.store hi) (hE X A bk _ o) (.inr rfl)
      · exact sbad
    · exact sbad
  · split
    · rename_i hn
      exact ss_exp hn (hE X A bk _ o)
    · exact sbad
  · split
    · exact ss_retN
    · split
      · rename_i i hi
        exact ss_retV (o.var hi)
      · rename_i x p _ hx
        have e := se_name (g := g) (N := N) (bk := bk) (p := p) o (x := x)
        unfold cName at e
        rw [hx] at e
        simp only at e
        split
        · rename_i d hd
          split
          · rename_i hgl
            rw [if_pos hgl, hd] at e
            exact ss_ret rfl e
          · rename_i hgl
            rw [if_neg hgl] at e
            exact ss_ret rfl e
        · rename_i hd
          split at e
          · rw [hd] at e
            exact ss_ret rfl e
          · exact ss_ret rfl e
    · split
      · exact sbad
      · rename_i hv
        exact ss_ret (by simpa using hv) (hE X A bk _ o)
  · exact ss_if (hE X A bk _ o) (hS.all o po _) (hS.all o po _)
  · split
    · split
      · rename_i is one ht
        split
        · rename_i hs
          exact ss_for po.po hc hN (o.tg ht) (iter_ok hE o) (hS.all o po _) (set_fold hs)
        · exact sbad
      · exact sbad
    · exact sbad
  · split
    · exact ss_while po.po (hE X A bk _ o) (hS.all o po _)
    · exact sbad
  · exact ss_pas
  · exact ss_brk
  · exact ss_cnt
  · exact sbad
theorem compS_ok : ∀ n, PartsS sg cf k T g N pr fu (compS g N n)
  | 0 => fun X A bk st o po => sbad
  | n + 1 => stepS_ok (compE_ok n) (compS_ok n)
end
end Iv
set_option linter.all false
set_option maxRecDepth 100000
set_option maxHeartbeats 4000000
/-! Iv23: defs: from the bodies to what they promise, at every depth. -/
namespace Iv
open PySem PySem.Spec PyProof.Rows L2
section
variable {B : Mo} {A : Ask} {σ : L2.St} {fr : List (M × V)} {H : Hp} {ρ : Rho}
/-- the parameters handed in place, as they stand -/
theorem keep_env : ∀ {ρ : Rho} {σ : L2.St} {l : List (M × V)}, EnvR ρ σ l → ∀ (p : Nat → Bool) (vs : List V), (∀ j v, p j = true → vs[j]? = some v → σ[j]? = some (some v)) → ∃ rest, l.Perm (zipO ((List.range vs.length).map fun j => if p j then getS ρ j else none) vs ++ rest)
  | _, _, _, .nil, p, vs, h => ⟨[], by
      have : zipO ((List.range vs.length).map fun j => if p j then getS ([] : Rho) j else none) vs = [] := by
        have gen : ∀ (is : List Nat) (vs : List V), zipO (is.map fun j => if p j then getS ([] : Rho) j else none) vs = [] := by
          intro is
          induction is with
          | nil => intro vs; cases vs <;> rfl
          | cons i is ih =>
            intro vs
            cases vs with
            | nil => simp only [List.map_cons]; split <;> rfl
            | cons v vs =>
              have : (if p i then getS ([] : Rho) i else none) = none := by split <;> simp [getS]
              simp only [List.map_cons, this]
              exact ih vs
        exact gen _ _
      rw [this]; exact .refl _⟩
  | _, _, _, @EnvR.none ρ x σ l r, p, vs, h => by
    cases vs with
    | nil => exact ⟨l, .refl _⟩
    | cons v vs =>
      obtain ⟨rest, hp⟩ := keep_env r (fun j => p (j + 1)) vs fun j w h1 h2 => by simpa using h (j + 1) w h1 (by simpa using h2)
      refine ⟨rest, ?_⟩
      rw [List.length_cons, List.range_succ_eq_map, List.map_cons, List.map_map]
      have e0 : (if p 0 then getS (Option.none :: ρ) 0 else Option.none) = (Option.none : Option M) := by split <;> rfl
      rw [e0]
      exact hp
  | _, _, _, @EnvR.some m v0 ρ σ l r, p, vs, h => by
    cases vs with
    | nil => exact ⟨_, .refl _⟩
    | cons v vs =>
      obtain ⟨rest, hp⟩ := keep_env r (fun j => p (j + 1)) vs fun j w h1 h2 => by simpa using h (j + 1) w h1 (by simpa using h2)
      rw [List.length_cons, List.range_succ_eq_map, List.map_cons, List.map_map]
      by_cases h0 : p 0 = true
      · have e0 : (if p 0 then getS (Option.some m :: ρ) 0 else Option.none) = Option.some m := by rw [if_pos h0]; rfl
        rw [e0]
        have hv := h 0 v h0 rfl
        simp at hv
        subst hv
        exact ⟨rest, hp.cons _⟩
      · have e0 : (if p 0 then getS (Option.some m :: ρ) 0 else Option.none) = (Option.none : Option M) := by rw [if_neg h0]
        rw [e0]
        exact ⟨(m, v0) :: rest, (hp.cons _).trans List.perm_middle.symm⟩
theorem keep_ok {rs : List Nat} {vs : List V} {x : List (M × V)} (s : Sta B ρ σ H (x ++ fr)) (h : ∀ j v, rs.contains j = true → vs[j]? = some v → σ[j]? = some (some v)) : Live B H (x ++ (zipO (keepP rs ρ vs.length) vs ++ fr)) := by
  obtain ⟨l, env, lv⟩ := s
  obtain ⟨rest, hp⟩ := keep_env env (fun j => rs.contains j) vs h
  have : Live B H (rest ++ (x ++ (zipO (keepP rs ρ vs.length) vs ++ fr))) := lv.perm (by
    refine (hp.append_right _).trans ?_
    refine perm_cnt fun a => ?_
    simp only [List.count_append, keepP]
    omega)
  exact this.drops
theorem start_env {N : List Str} : ∀ {ms : List M} {vs : List V}, ms.length = vs.length → vs.length ≤ N.length → EnvR (ms.map some ++ List.replicate (N.length - vs.length) none) (start N vs) (zipM ms vs) := by
  intro ms vs hl hn
  unfold L2.start
  generalize N.length - vs.length = n
  clear hn
  induction ms generalizing vs with
  | nil =>
    cases vs with
    | nil =>
      clear hl
      induction n with
      | zero => exact .nil
      | succ n ih => exact .none ih
    | cons _ _ => simp at hl
  | cons m ms ih =>
    cases vs with
    | nil => simp at hl
    | cons v vs => exact .some (ih (by simpa using hl))
end
/-- what is known of a def: its place, its text -/
structure DfD where
  f : Addr
  name : Str
  qual : Str
  params : Arguments
  body : List Stmt
  scope : Scope
  N : List Str
  ps : List Str
  th : Option (Str × Nat)
  lam : Bool
structure DfOk (B : Mo) (mg : Str → Option Value) (g : Gm) (fc : Nat) (tab : FK → Option Fn) (key : FK) (d : DfD) : Prop where
  fun_ : ∃ fd, FunD B.K d.name d.qual d.params d.body d.scope [] [] d.f fd ∧ Binds B.K fd d.ps []
  sc : FnScope d.N d.ps d.scope
  at_ : KeyAt B mg d.f key
  tab : tab key = some ⟨d.N.length, d.ps.length, d.body.map (compS g d.N fc ⟨d.scope, fun _ => true, d.th, d.lam⟩)⟩
structure ClOk (B : Mo) (mg : Str → Option Value) (c : String) (f : Addr) : Prop where
  mg : mg (Str.ofString c) = some (.ref (He.ga B.K (Str.ofString c)))
  made : Mk B.K (He.ga B.K (Str.ofString c)) f
  cls : Cls B.K (He.ga B.K (Str.ofString c))
  no : ∀ x ∈ B.T.fl, NoAttr B.K (He.ga B.K (Str.ofString c)) x
/-- a def that is handed a lambda by its one parameter -/
structure ThD (d : DfD) : Prop where
  ex : ∃ a, d.th = some (a, 0) ∧ d.ps = [a] ∧ d.lam = false ∧ Vis d.scope a ∧ (a == ("__debug__" : Str)) = false ∧ (a == ("__classdict__" : Str)) = false
/-- the module, as it is known -/
structure ModOk (B : Mo) (mg : Str → Option Value) (g : Gm) (sg : Sig) (fc : Nat) (tab : FK → Option Fn) (df : FK → DfD) : Prop where
  keys : g.keys = sg.keys
  fl : g.fl = B.T.fl
  cst : ∀ x d, g.cst x = some d → ∃ u v, mg x = some u ∧ RelV v u ∧ ∀ Z H, RD B Z H d v
  blt : ∀ x ∈ blts, mg x = none
  dfs : ∀ key ∈ sg.keys, DfOk B mg g fc tab key (df key)
  pl : ∀ key ∈ sg.keys, (df key).th = none ∧ (df key).lam = false
  cl : ∀ c, FK.mt c "__init__" ∈ sg.keys → ClOk B mg c (df (.mt c "__init__")).f
  xs : g.xs = B.T.xs
  xf : ∀ base, XFacts B.P B.w B.K mg base g.xs g.xin g.xh
  ldf : ∀ w ∈ g.lkeys, DfOk B mg g fc tab (.fn w) (df (.fn w)) ∧ ThD (df (.fn w))
section
variable {B : Mo} {mg : Str → Option Value} {base : Heap} {g : Gm} {sg : Sig} {fc fu : Nat} {tab : FK → Option Fn} {df : FK → DfD}
theorem ModOk.up (mo : ModOk B mg g sg fc tab df) (t : Option Th) : ModOk (B.wth t) mg g sg fc tab df where
  keys := mo.keys
  fl := mo.fl
  cst := fun x d h => by
    obtain ⟨u, v, h1, h2, h3⟩ := mo.cst x d h
    exact ⟨u, v, h1, h2, fun Z H => (h3 Z H).up⟩
  blt := mo.blt
  dfs := fun key hk => by
    have D := mo.dfs key hk
    exact ⟨D.fun_, D.sc, by have := D.at_; cases key <;> exact this, D.tab⟩
  pl := mo.pl
  cl := fun c hc => by
    have C := mo.cl c hc
    exact ⟨C.mg, C.made, C.cls, C.no⟩
  xs := mo.xs
  xf := mo.xf
  ldf := fun w hw => by
    have D := (mo.ldf w hw).1
    exact ⟨⟨D.fun_, D.sc, D.at_, D.tab⟩, (mo.ldf w hw).2⟩
/-- all defs at a level -/
def HasAll (B : Mo) (mg : Str → Option Value) (base : Heap) (sg : Sig) (k : Nat) (cf : CallFn) (df : FK → DfD) : Prop := ∀ key ∈ sg.keys, ∃ fd, FunD B.K (df key).name (df key).qual (df key).params (df key).body (df key).scope [] [] (df key).f fd ∧ Has B (RX B) mg base k cf key (df key).f fd (df key).ps
theorem HasAll.known (mo : ModOk B mg g sg fc tab df) {k : Nat} {cf : CallFn} (h : HasAll B mg base sg k cf df) : (∀ key ∈ sg.keys, Known B (RX B) mg base k cf key) ∧ ∀ cl, FK.mt cl "__init__" ∈ sg.keys → ∃ f fd ps, MkOk B (RX B) mg base k cf cl f fd ps := by
  refine ⟨fun key hk => ?_, fun cl hk => ?_⟩
  · obtain ⟨fd', _, h'⟩ := h key hk
    exact ⟨_, fd', _, h', (mo.dfs key hk).at_⟩
  · obtain ⟨fd', _, h'⟩ := h _ hk
    have c := mo.cl cl hk
    exact ⟨_, fd', _, h', c.mg, c.made, c.cls, c.no⟩
/-- a def's body runs as the small language's def tells -/
theorem callF_tSs {A : Ask} {cf : CallFn} {pr : List Nat} {N : List Str} {pl : Nat} {cs : List Sm} {vs : List V} {ms : List M} {fr : List (M × V)} {H : Hp} {Q : VK} {E : XK} {R : XV → Value → Option Addr → Hp → Prop} (h1 : ms.length = vs.length) (lv : Live B H (zipM ms vs ++ fr)) (q : AfterC B R vs fr H Q E (callF sg cf fu pr ⟨N.length, pl, cs⟩ ms)) :
    tSs B ⟨R, fun cls e _ H => E cls e H⟩ pr sg cf fu cs { nx := fun _ H' => Q .non H', rt := Q } (start N vs) H := by
  unfold callF at q
  split at q
  rotate_left
  · exact q.elim
  rename_i c
  obtain ⟨c1, c2⟩ := c
  have c1 : ms.length = pl := c1
  have c2 : pl ≤ N.length := c2
  have hvl : vs.length = pl := h1.symm.trans c1
  have env := start_env (N := N) h1 (by rw [hvl]; exact c2)
  rw [show N.length - vs.length = N.length - pl by rw [hvl]] at env
  refine ⟨_, fr, ⟨_, env, lv⟩, ?_⟩
  have keep : ∀ {σ' : L2.St}, Same pr (start N vs) σ' → ∀ j v, pr.contains j = true → vs[j]? = some v → σ'[j]? = some (some v) := fun {σ'} sm j v hj hv => by
    rw [sm j (by simpa using hj)]
    unfold L2.start
    rw [List.getElem?_append_left (by simp; exact (List.getElem?_eq_some_iff.mp hv).1), List.getElem?_map, hv]; rfl
  cases he : execs sg cf pr fu cs (ms.map some ++ List.replicate (N.length - pl) none) with
  | none => rw [he] at q; exact q.elim
  | some out =>
    rw [he] at q
    cases out with
    | nx ρ' =>
      refine fun σ' H' sm mn st => q .non H' mn ?_
      have st2 : Sta B ρ' σ' H' ([(.imm .none, .non)] ++ fr) := sta_imm st fun Z => .non
      have := keep_ok (rs := pr) (vs := vs) st2 (keep sm)
      rw [hvl] at this
      exact this
    | rt m ρ' =>
      refine fun v σ' H' sm mn st => q v H' mn ?_
      have := keep_ok (rs := pr) (vs := vs) (x := [(m, v)]) st (keep sm)
      rw [hvl] at this
      exact this
    | ex xv ρ' =>
      refine fun σ' cls e H' sm rr mn st => q cls e H' rr mn ?_
      have := keep_ok (rs := pr) (vs := vs) (x := []) st (keep sm)
      rw [hvl] at this
      exact this
    | br ρ' => exact q.elim
    | ct ρ' => exact q.elim
/-- what is asked where lambdas are made -/
def LamA (X : Cx) (T : Flds) (cf : CallFn) (g : Gm) (N : List Str) : Prop := TabOk X T ∧ ∀ w ∈ g.lkeys, ∀ (params : Arguments) (body : Expr) (scope : Scope) (caps : List Nat) (f : Bk → Expr → Ex), Parts0 (fun X T A sg cf k bk => bk.lam = false ∧ XOk0 X T A sg cf k g N bk) f → noPar params = true → LamX.LamS X.env.scope scope → ∃ gd, LamP X T cf w params body scope N.length caps (f ⟨scope, fun _ => false, none, false⟩ body) gd
theorem callN_key {n : Nat} {key : FK} (h : key ≠ .lm) {d : Fn} (ht : tab key = some d) (ms : List M) : callN sg tab fu (n + 1) key ms = callF sg (callN sg tab fu n) fu (sg.inpl key) d ms := by
  cases key with
  | lm => exact absurd rfl h
  | fn x => simp only [callN, ht]
  | mt c m => simp only [callN, ht]
/-- one def, where all defs are known a level below; lm: what is asked where it makes lambdas -/
theorem def_ok (mo : ModOk B mg g sg fc tab df) {n k : Nat} (k2 : 2 ≤ k) (has : HasAll B mg base sg k (callN sg tab fu n) df) {key : FK} (D : DfOk B mg g fc tab key (df key)) (hth : (df key).th = none) (hlm : key ≠ .lm)
    (lm : (df key).lam = true → ∀ (fd : FuncData) (A : Around) (outer : List Env) (s : Shared) (H : Hp) (E : XK), FunD B.K (df key).name (df key).qual (df key).params (df key).body (df key).scope [] [] (df key).f fd → Room (k + 1) (A.deeper (envOfC (df key).qual (df key).scope s.heap.objs.size (df key).f fd.code)) → A.guards = some [] → Mod B.K mg base →
      LamA (cxOf (L2.CX B.P B.w) B.P B.w B.K mg base (df key).N (df key).qual (df key).scope (df key).f fd.code A outer s H E) B.T (callN sg tab fu n) g (df key).N) :
    ∃ fd, FunD B.K (df key).name (df key).qual (df key).params (df key).body (df key).scope [] [] (df key).f fd ∧ Has B (RX B) mg base (k + 2) (callN sg tab fu (n + 1)) key (df key).f fd (df key).ps := by
  obtain ⟨fd, F, hb⟩ := D.fun_
  refine ⟨fd, F, ?_, hb⟩
  generalize hd : df key = d at D F hb hth lm
  have hcall := callN_key (sg := sg) (fu := fu) (n := n) hlm D.tab
  have hlen : ∀ vs H Q E, spI B (RX B) (callN sg tab fu (n + 1)) key vs H Q E → vs.length = d.ps.length := by
    rintro vs H Q E ⟨ms, fr, h1, h2, h3⟩
    rw [hcall] at h3
    unfold callF at h3
    split at h3
    · rename_i c; rw [← h1]; exact c.1
    · exact h3.elim
  refine ⟨hlen, fun A outer s H args us vs Q E hr hgd e0 hbd r hsp => ?_⟩
  have hl := hlen _ _ _ _ hsp
  have F0 := F
  obtain ⟨oc, od, dV, kV, doc, pm, an, cdv, ct, osl, rfl, lk, hcd, _, _⟩ := F.ex
  have S := D.sc
  have KX : B.K.In s.heap := e0.mod.kin.keeps fun b o e => (e0.bs b o e).1
  have lim : s.heap.NoLimit := e0.mod.nolimit.keeps fun b o e => (e0.bs b o e).1
  have hkind : ∀ y ∈ d.ps.zip us, d.scope.names.lookup y.1 = some .local ∨ (d.scope.names.lookup y.1 = some .cell ∧ ((cellsFrom (s.heap.objs.size + 1) d.scope.names []).lookup y.1).isSome = true) := fun ⟨n, v⟩ hy => by
    rcases S.par n (List.of_mem_zip hy).1 with q | q
    · exact .inl q
    · exact .inr ⟨q, PySem.W.cellsFrom_some _ _ _ (.inl q)⟩
  refine codeAny_call_function hr.depth (KX _ _ lk) rfl S.co S.gen rfl (PySem.W.codeRec_of KX hcd) (hbd _ _ _ _ ?_)
  refine wpAny_newFunctionEnv_cells S.kind hkind fun env he s1 x => ?_
  subst he
  refine ⟨lim.keeps x.toInCall.keep, codeAny_func ?_⟩
  let X : Cx := cxOf (L2.CX B.P B.w) B.P B.w B.K mg base d.N d.qual d.scope d.f cdv A outer s H E
  have tk : Takes X (fun cls e _ H => E cls e H) := takes_of rfl rfl rfl rfl
  have po : FrOk X := ⟨passes_of rfl, rfl, rfl, rfl⟩
  have o : XOk X B.T ⟨RX B, fun cls e _ H => E cls e H⟩ sg (callN sg tab fu n) k g d.N ⟨d.scope, fun _ => true, d.th, d.lam⟩ := by
    obtain ⟨hk1, hk2⟩ := has.known mo
    refine ⟨⟨⟨hr.deeper _, ?_, tk, rfl, S.nd, hk1, hk2⟩, rfl, rfl, rfl, mo.keys, mo.fl, mo.cst, mo.blt, mo.xs, rfl, mo.xf base, k2, fun a i h => ?_⟩, fun h => lm h _ A outer s H E F0 (hr.deeper _) hgd e0.mod⟩
    · exact hgd
    · have h : d.th = some (a, i) := h
      rw [hth] at h
      cases h
  have ht := (compS_ok (k := k) (T := B.T) (g := g) (N := d.N) (sg := sg) (cf := callN sg tab fu n) (pr := sg.inpl key) (fu := fu) fc).all o po d.body
  have I : Inv X [] (start d.N vs) H s1 := inv_start S hr.hd e0 hl r x
  obtain ⟨ms, fr, h1, lv, q⟩ := hsp
  rw [hcall] at q
  have hq : tSs (X.mo B.T) ⟨RX B, fun cls e _ H => E cls e H⟩ (sg.inpl key) sg (callN sg tab fu n) fu (d.body.map (compS g d.N fc ⟨d.scope, fun _ => true, d.th, d.lam⟩)) { nx := fun _ H' => Q .non H', rt := Q } (start d.N vs) H := callF_tSs (A := ⟨RX B, fun cls e _ H => E cls e H⟩) h1 lv q
  refine wpAny_mono (ht.run [] s1 (start d.N vs) H _ I hq) (fun fl s' hs => ?_) fun e s' hs => hs
  have fin : ∀ {σ' : L2.St} {H' : Hp} {v : V} {u : Value}, Inv X [] σ' H' s' → RelV v u → Q v H' → CE outer B.P B.w H s Q u s' :=
    fun {σ' H' v u} J rv q => ⟨v, H', J.os, J.bare, J.base, J.hok, rv, q⟩
  cases fl with
  | ret u =>
    obtain ⟨v, σ', H', J, rv, q⟩ := hs
    exact fin J rv q
  | next =>
    obtain ⟨σ', H', J, q⟩ := hs
    exact fin (v := V.non) (u := Value.none) J rfl q
  | brk =>
    obtain ⟨_, _, _, q⟩ := hs
    exact False.elim q
  | cont =>
    obtain ⟨_, _, _, q⟩ := hs
    exact False.elim q
theorem not_lm {key : FK} {d : DfD} (D : DfOk B mg g fc tab key d) : key ≠ .lm := fun e => by
  have := D.at_
  rw [e] at this
  exact this
theorem defs_ok (mo : ModOk B mg g sg fc tab df) : ∀ n, HasAll B mg base sg (2 * n + 2) (callN sg tab fu n) df
  | 0, key, hk => by
    obtain ⟨fd, F, hb⟩ := (mo.dfs key hk).fun_
    exact ⟨fd, F, ⟨fun vs H Q E ⟨_, _, _, _, q⟩ => q.elim, fun A outer s H args us vs Q E hr hgd e0 hbd r ⟨_, _, _, _, q⟩ => q.elim⟩, hb⟩
  | n + 1, key, hk => def_ok mo (by omega) (defs_ok mo n) (mo.dfs key hk) (mo.pl key hk).1 (not_lm (mo.dfs key hk)) fun h => by
    rw [(mo.pl key hk).2] at h
    cases h
end
/-- what stands by copies -/
theorem imms_rds {B : Mo} {Z : Addr → Prop} {H : Hp} : ∀ {ds : List D} {vs : List V} {fr : List (M × V)} {fp : List Addr}, ds.length = vs.length → RMs B Z H (zipM (ds.map M.imm) vs ++ fr) fp → RDs B Z H ds vs ∧ RMs B Z H fr fp
  | [], [], fr, fp, _, h => ⟨.nil, h⟩
  | [], _ :: _, fr, fp, e, h => by simp at e
  | _ :: _, [], fr, fp, e, h => by simp at e
  | d :: ds, v :: vs, fr, fp, e, h => by
    have h' : RMs B Z H ((.imm d, v) :: (zipM (ds.map M.imm) vs ++ fr)) fp := h
    cases h' with
    | cons r rs =>
      cases r with
      | imm r =>
        obtain ⟨q1, q2⟩ := imms_rds (by simpa using e) rs
        exact ⟨.cons r q1, q2⟩
section
variable {X : Cx} {T : Flds} {g : Gm} {sg : Sig} {fc fu : Nat} {tab : FK → Option Fn} {df : FK → DfD}
/-- a def that is handed a lambda, promises -/
theorem lamP_of {m : Nat} {w : String} {N : List Str} (mo : ModOk (X.mo T) X.mg g sg fc tab df) (h0 : T.th = none) (hN : X.N = N) (nd : X.N.Nodup) (hr : Room (2 * m + 7) X.A) (hgd : X.A.guards = some []) (hw : w ∈ g.lkeys) {params : Arguments} {body : Expr} {scope : Scope} {caps : List Nat} {f : Bk → Expr → Ex}
    (hf : Parts0 (fun X T A sg cf k bk => bk.lam = false ∧ XOk0 X T A sg cf k g N bk) f) (hp : noPar params = true) (L : LamX.LamS X.env.scope scope) :
    LamP X T (callN sg tab fu (m + 2)) w params body scope N.length caps (f ⟨scope, fun _ => false, none, false⟩ body) (df (.fn w)).f := by
  obtain ⟨D, TD⟩ := mo.ldf w hw
  generalize df (.fn w) = d at D TD ⊢
  obtain ⟨a, hth, hps, hlam, hvis, hda, hca⟩ := TD.ex
  refine ⟨D.at_.1, D.at_.2, fun pins σ H s fl c1 pm ctv ds vs fr Q mr ps dd I hfl hfn hfr hco cp hn lv hl hcf hv hQ => ?_⟩
  obtain ⟨fd, F, hb⟩ := D.fun_
  obtain ⟨oc, od, dV, kV, doc, pm', an, cdv, ct, osl, rfl, lk, hcd, _, _⟩ := F.ex
  have S := D.sc
  have e0 := I.env0
  let t : Th := ⟨fl, c1, X.env.qual ++ "<lambda>", vs, N.length, caps, f ⟨scope, fun _ => false, none, false⟩ body⟩
  let T1 : Flds := { T with th := some t }
  have mo1 : ModOk (X.mo T1) X.mg g sg fc tab df := mo.up (some t)
  have h1 : HasAll (X.mo T1) X.mg X.base sg (2 * m + 4) (callN sg tab fu (m + 1)) df := defs_ok mo1 (m + 1)
  have h2 : HasAll (X.mo T1) X.mg X.base sg (2 * m + 2) (callN sg tab fu m) df := defs_ok mo1 m
  have hN0 : d.N[0]? = some a := by
    have := S.pre
    rw [hps] at this
    cases hh : d.N with
    | nil => rw [hh] at this; simp at this
    | cons x r => rw [hh] at this; simp at this; rw [this]; rfl
  refine LamX.run_ofS (CX := C8.CX0) (k := 2 * m + 5) (N := d.N) (ps := d.ps) (us := [.ref fl]) (vs := [.ref fl]) lk hcd S (hr.mono (by omega)) e0 (hb s [.ref fl] I.kIn (by rw [hps]; rfl)) (.cons rfl .nil) (by rw [hps]; rfl) fun hr' => ?_
  let Y : Cx := cxOf C8.CX0 X.prog X.w X.K X.mg X.base d.N d.qual d.scope d.f cdv X.A X.stack s H C8.E0
  have po : FrOk Y := ⟨passes_of rfl, rfl, rfl, rfl⟩
  have o : XOk Y T1 ⟨RX (Y.mo T1), fun cls e _ H => C8.E0 cls e H⟩ sg (callN sg tab fu (m + 1)) (2 * m + 4) g d.N ⟨d.scope, fun _ => true, d.th, d.lam⟩ := by
    obtain ⟨hk1, hk2⟩ := h1.known mo1
    refine ⟨⟨⟨hr', hgd, LamX.takes0, rfl, S.nd, hk1, hk2⟩, rfl, rfl, rfl, mo1.keys, mo1.fl, mo1.cst, mo1.blt, mo1.xs, rfl, mo1.xf X.base, by omega, fun a' i' h => ?_⟩, fun h => ?_⟩
    · have h : d.th = some (a', i') := h
      rw [hth] at h
      cases h
      refine ⟨t, σ, callN sg tab fu m, rfl, cp, hn, fun ds' => ?_, fun pn xe W p1 p2 tk => ?_⟩
      · show callN sg tab fu (m + 1) .lm [.thk ds' N.length caps _] = _
        simp only [callN]
        cases eval sg (callN sg tab fu m) t.cb (capR t.n t.caps ds') with
        | none => rfl
        | some r => cases r <;> rfl
      · refine pe_thunk (CXg := C8.CX0) (Eg := C8.E0) (k := 2 * m + 4) (tb := fun E => tI (X.mo T1) ⟨RX (X.mo T1), fun cls d _ H => E cls d H⟩ sg (callN sg tab fu m) t.cb) I L hfl hfn hfr ?_ tk hr' (fun E A outer s1 H1 eA hr2 => ?_) hN0 hvis hda hca
        · rw [noPar_ok hp]
          rfl
        · obtain ⟨hk1, hk2⟩ := h2.known mo1
          have ox : XOk0 (LamX.lamCx X A outer s1 H1 E scope fl c1) T1 ⟨RX (X.mo T1), fun cls d _ H => E cls d H⟩ sg (callN sg tab fu m) (2 * m + 2) g N ⟨scope, fun _ => false, none, false⟩ := by
            refine ⟨⟨hr2.mono (by omega), ?_, takes_of rfl rfl rfl rfl, rfl, nd, hk1, hk2⟩, hN, rfl, rfl, mo1.keys, mo1.fl, mo1.cst, mo1.blt, mo1.xs, rfl, mo1.xf X.base, by omega, fun a' i' h => nomatch h⟩
            rw [eA]
            exact hgd
          exact (hf _ _ _ _ _ _ _ body ⟨rfl, ox⟩).pe
    · have h : d.lam = true := h
      rw [hlam] at h
      cases h
  have ht := (compS_ok (k := 2 * m + 4) (T := T1) (g := g) (N := d.N) (sg := sg) (cf := callN sg tab fu (m + 1)) (pr := sg.inpl (.fn w)) (fu := fu) fc).all o po d.body
  refine ⟨_, ht, ?_⟩
  have lv1 : Live (X.mo T1) H (zipM [.thk ds N.length caps t.cb] [.ref fl] ++ fr) := by
    obtain ⟨Z, fp, l⟩ := lv
    have l := l.up (t := some t) h0
    obtain ⟨q1, q2⟩ := imms_rds hl l.rep
    refine ⟨Z, [] ++ fp, .cons (RM.thk (t := t) rfl q1 hco) q2, l.nd, l.nz, ⟨l.zs.at_, l.zs.tb⟩⟩
  refine callF_tSs (A := ⟨RX (X.mo T1), fun cls e _ H => C8.E0 cls e H⟩) (ms := [.thk ds N.length caps t.cb]) (vs := [.ref fl]) (fr := fr) (pl := d.ps.length) rfl lv1 ?_
  have hc := callN_key (sg := sg) (fu := fu) (n := m + 1) (not_lm D) D.tab [.thk ds N.length caps t.cb]
  rw [← hc]
  have hcf : callN sg tab fu (m + 1 + 1) (.fn w) [.thk ds N.length caps t.cb] = some (.ret mr ps) := hcf
  rw [hcf]
  intro v H' mn lv'
  refine hQ v H' mn ?_
  have lv2 : Live (X.mo T1) H' ((mr, v) :: fr) := by
    refine Live.drops (r := zipO ps [.ref fl]) (lv'.perm ?_)
    exact List.perm_middle.symm
  exact Live.dnV (B := X.mo T) (t := some t) h0 lv2 hv (lv.drops)
/-- all that is asked, where lambdas are made -/
theorem lamA_of {m : Nat} {N : List Str} (mo : ModOk (X.mo T) X.mg g sg fc tab df) (h0 : T.th = none) (hN : X.N = N) (nd : X.N.Nodup) (hr : Room (2 * m + 7) X.A) (hgd : X.A.guards = some []) (tb : TabOk X T) : LamA X T (callN sg tab fu (m + 2)) g N :=
  ⟨tb, fun w hw params body scope caps f hf hp L => ⟨_, lamP_of mo h0 hN nd hr hgd hw hf hp L⟩⟩
end
end Iv
set_option linter.all false
set_option maxRecDepth 100000
set_option maxHeartbeats 4000000
/-! Iv24: a law's end: from the head's facts and the small language's answer to the law. -/
namespace Iv
open PySem PySem.Spec PyProof.Rows L2
theorem rds_ints {B : Mo} {Z : Addr → Prop} {H : Hp} : ∀ ns : List Int, RDs B Z H (ns.map PyData.int) (ns.map V.int)
  | [] => .nil
  | n :: ns => .cons (.int n) (rds_ints ns)
/-- at the start: the tables in ts, empty; the script at a; nothing else -/
structure Begin (ts : List Addr) (a : Addr) (H : Hp) : Prop where
  tb : ∀ b ∈ ts, H b = some (.tbl #[])
  na : a ∉ ts
  at_ : H a = none ∨ ∃ o xs, H a = some (.frz o (.lst xs))
  no : ∀ b, b ∉ ts → b ≠ a → H b = none
theorem Begin.cases {ts : List Addr} {a b : Addr} {H : Hp} (h : Begin ts a H) (n : H b ≠ none) : b ∈ ts ∨ b = a := by
  by_cases h1 : b ∈ ts
  · exact .inl h1
  · by_cases h2 : b = a
    · exact .inr h2
    · exact absurd (h.no b h1 h2) n
theorem live_script {B : Mo} {H : Hp} {a : Addr} {ns : List Int} {ts : List Addr} (hO : Begin ts a H) (hts : ∀ p ∈ B.T.tabs, p.1 ∈ ts) (hS : Rd H a (.lst (ns.map V.int)) ∨ KL B.K a (ns.map V.int)) : Live B H [(.imm (.list (ns.map PyData.int)), .ref a)] := by
  refine ⟨fun b => b = a ∧ H a ≠ none, [] ++ [], .cons (.imm ?_) .nil, by simp, by simp, ⟨?_, fun p hp => .nil (hO.tb _ (hts p hp))⟩⟩
  · rcases hS with h | h
    · refine .lst ⟨rfl, ?_⟩ h (rds_ints ns)
      rcases h with h | ⟨o, h⟩ <;> rw [h] <;> simp
    · exact .klst h (rds_ints ns)
  · rintro b ⟨rfl, z⟩
    rcases hO.at_ with e | ⟨o, xs, e⟩
    · exact absurd e z
    · exact ⟨_, e, fun ps q => by cases q⟩
/-- the law's def is called with the script: its tables stand empty -/
theorem law_callG {B : Mo} {mg mb : Str → Option Value} {k : Nat} {fa a : Addr} {fd : FuncData} {x : Str} {sp : Sp} {s₁ : Shared} {vs : List Value} {ns : List Int} {cs : List (Addr × Addr)}
    (KX : B.K.In s₁.heap) (hns : s₁.heap.Ns mainGlobals mg) (hb : s₁.heap.Ns builtinsNs mb) (hbb : ∀ x : Str, x ≠ "__name__" → mb x = bootBuiltins x) (hlim : s₁.heap.NoLimit) (hg : s₁.gens = #[])
    (ha : s₁.heap.get? a = some { cls := .type "list", data := .seq vs.toArray }) (hi : IntsAre vs ns) (hl : ns.length ≤ sizeLine) (hr : Room k callerA)
    (cT : ∀ p ∈ cs, s₁.heap.get? p.2 = some { cls := .none, data := .fields #[] } ∧ B.K.lookup p.2 = none ∧ PySem.W.CodeHd s₁.heap p.1 p.2)
    (bmod : ∃ (bm : Addr) (ob : Obj), mg "__builtins__" = some (.ref bm) ∧ bm ≠ builtinsNs ∧ s₁.heap.get? bm = some ob ∧ ob.cls = .type "module" ∧ ob.dict = some builtinsNs ∧ ob.data = .plain)
    (hts : ∀ p ∈ B.T.tabs, p.1 ∈ cs.map (·.2))
    (F : ∀ base : Heap, B.K.In base → base.Ns mainGlobals mg → (∀ p ∈ cs, LamX.TabB base mg p.1 p.2) → FnG B.P B.w B.K mg base k fa fd [x] sp) (hbind : ∀ (s : Shared) (u : Value), BindsTo s fd ⟨[u], []⟩ [(x, u)])
    (hsp : ∀ H : Hp, Live B H [(.imm (.list (ns.map PyData.int)), .ref a)] → sp [.ref a] H (fun v _ => v = .bl true) fun _ _ _ => False) :
    codeAny (model B.P B.w) callerA (.call (.ref fa) ⟨[.ref a], []⟩) (fun r s' => r = .ok (.ret (.bool true)) ∧ OldK s₁.heap s'.heap ∧ s'.os = s₁.os ∧ AllBare s'.gens) s₁ := by
  have rv := vals_ints hi
  have lenV := hi.length
  have tabAt : ∀ b ∈ cs.map (·.2), s₁.heap.get? b = some { cls := .none, data := .fields #[] } ∧ B.K.lookup b = none := fun b hb => by
    obtain ⟨p, hp, rfl⟩ := List.mem_map.mp hb
    exact ⟨(cT p hp).1, (cT p hp).2.1⟩
  have naT : a ∉ cs.map (·.2) := fun z => by
    have q := (tabAt a z).1
    rw [ha] at q
    have := congrArg Obj.data (Option.some.inj q)
    exact nomatch (show Data.seq vs.toArray _ = Data.fields #[] from this)
  have core : ∀ H : Hp, Begin (cs.map (·.2)) a H → (Rd H a (.lst (ns.map V.int)) ∨ KL B.K a (ns.map V.int)) → HOk B.P B.w H s₁.heap → (H a ≠ none → B.K.lookup a = none) →
      codeAny (model B.P B.w) callerA (.call (.ref fa) ⟨[.ref a], []⟩) (fun r s' => r = .ok (.ret (.bool true)) ∧ OldK s₁.heap s'.heap ∧ s'.os = s₁.os ∧ AllBare s'.gens) s₁ := by
    intro H hO hS hok hK
    have base_of : ∀ {b : Addr} {o : Obj}, s₁.heap.get? b = some o → H b = none → (hidT s₁.heap H).get? b = some o := fun e n => hidT_get e n
    have plainH : ∀ {b : Addr} {o : Obj}, s₁.heap.get? b = some o → (∀ us n, o.data = .seq us n → False) → (o.data = .fields #[] → False) → H b = none := fun {b o} e d1 d2 => by
      cases q : H b with
      | none => rfl
      | some u =>
        rcases hO.cases (b := b) (by rw [q]; simp) with h | rfl
        · rw [(tabAt b h).1] at e; cases e; exact (d2 rfl).elim
        · rw [ha] at e; cases e; exact (d1 _ _ rfl).elim
    have nsK : ∀ {b : Addr} {m : Str → Option Value}, s₁.heap.Ns b m → (hidT s₁.heap H).Ns b m := fun {b m} ⟨o, es, ep, e, d, r⟩ => ⟨o, es, ep, base_of e (plainH e (fun us n z => by rw [d] at z; cases z) fun z => by rw [d] at z; cases z), d, r⟩
    have hKb : B.K.In (hidT s₁.heap H) := fun b o e => base_of (KX b o e) (by
      cases q : H b with
      | none => rfl
      | some u =>
        rcases hO.cases (b := b) (by rw [q]; simp) with h | rfl
        · rw [(tabAt b h).2] at e; cases e
        · rw [hK (by rw [q]; simp)] at e; cases e)
    have hM : Mod B.K mg (hidT s₁.heap H) := ⟨hKb, nsK hns, ⟨mb, nsK hb, hbb⟩, let ⟨mc, h1, h2⟩ := hlim; ⟨mc, nsK h1, h2⟩⟩
    have tabs : ∀ p ∈ cs, LamX.TabB (hidT s₁.heap H) mg p.1 p.2 := fun p hp => by
      obtain ⟨t1, _, t3⟩ := cT p hp
      refine ⟨?_, ?_, fun z => ?_⟩
      · obtain ⟨o, us, file, tf, flags, tg, inF, text, tt, e1, r1, r2, r3, r4⟩ := t3
        refine ⟨o, us, file, tf, flags, tg, inF, text, tt, base_of e1 (plainH e1 (fun us n z => by rw [r2] at z; cases z) fun z => ?_), r1, r2, r3, r4⟩
        rw [r2] at z
        cases z
        simp at r3
      · obtain ⟨bm, ob, b1, b2, b3, b4, b5, b6⟩ := bmod
        refine ⟨bm, ob, b1, b2, fun q => ?_, fun q => ?_, base_of b3 (plainH b3 (fun us n z => by rw [b6] at z; cases z) fun z => by rw [b6] at z; cases z), b4, b5, b6⟩
        · obtain ⟨o, es, ep, e, hd, _⟩ := hns
          rw [q, e] at b3
          cases b3
          rw [hd] at b6
          cases b6
        · rw [q, t1] at b3
          cases b3
          cases b6
      · obtain ⟨o, es, ep, e, hd, _⟩ := hns
        rw [z, t1] at e
        cases e
        cases hd
    have e0 : Env0 B.P B.w B.K mg (hidT s₁.heap H) callerA [] s₁ H := ⟨rfl, hM, fun b o e => of_hidT e, Nat.le_of_eq (hidT_size _ _), trivial, fun b hb => absurd (show b ∈ ([] : List Addr) from hb) (by simp), hok, .of_eq hg⟩
    refine codeAny_mono ((F _ hKb (nsK hns) tabs).run callerA [] s₁ H ⟨[.ref a], []⟩ [.ref a] [.ref a] _ _ hr rfl e0 (hbind s₁ (.ref a)) (.cons rfl .nil) (hsp H (live_script hO hts hS))) fun r s' h => ?_
    cases r with
    | error e =>
      obtain ⟨_, _, _, _, _, _, _, _, _, _, _, _, z⟩ := h
      exact z.elim
    | ok fl =>
      cases fl with
      | next => exact False.elim h
      | brk => exact False.elim h
      | cont => exact False.elim h
      | ret u =>
        obtain ⟨v, H', os, bare, un, hok', r', q⟩ := h
        have q' : v = .bl true := q
        subst q'
        obtain rfl : u = Value.bool true := r'
        have stays : ∀ b o, b ∉ cs.map (·.2) → s₁.heap.get? b = some o → s'.heap.get? b = some o := fun b o nb e => by
          by_cases hba : b = a
          · subst hba
            rcases hO.at_ with z | ⟨ob, xs, z⟩
            · exact un.keep b o e z (fun z => nomatch (show b ∈ ([] : List Addr) from z)) (by simp)
            · obtain ⟨e1, _⟩ := hok b _ z
              obtain ⟨e2, _⟩ := hok' b _ (un.frzs b ob _ z)
              rw [e] at e1; cases e1
              exact e2
          · exact un.keep b o e (hO.no b nb hba) (fun z => nomatch (show b ∈ ([] : List Addr) from z)) (by simp)
        have more : ∀ b ∈ cs.map (·.2), ∃ us : Array Value, s'.heap.get? b = some { cls := .none, data := .fields us } := fun b hb => by
          obtain ⟨us, z⟩ := un.tbls b #[] (hO.tb b hb)
          exact ⟨_, hok' b _ z⟩
        refine ⟨rfl, ⟨fun b o e => ?_, fun b o e => ?_⟩, os, bare⟩
        · by_cases hb : b ∈ cs.map (·.2)
          · obtain ⟨us, hu⟩ := more b hb
            have eo := (tabAt b hb).1
            obtain ⟨p, hp, rfl⟩ := List.mem_map.mp hb
            have ct := ((cT p hp).2.2.tab (cT p hp).1).isCodeTable
            rw [eo] at e
            cases e
            refine .inr (.inl ⟨ct, rfl, #[], us, rfl, ?_⟩)
            rw [hu]
            simp
          · exact .inl (stays b o hb e)
        · by_cases hb : b ∈ cs.map (·.2)
          · obtain ⟨us, hu⟩ := more b hb
            exact ⟨_, hu⟩
          · exact ⟨o, stays b o hb e⟩
  cases hk : B.K.lookup a with
  | some o =>
    have e := KX a o hk
    rw [ha] at e
    cases e
    have val : ∀ b, b ∉ cs.map (·.2) → (if b ∈ cs.map (·.2) then some (HO.tbl #[]) else none) = none := fun b h => if_neg h
    refine core (fun b => if b ∈ cs.map (·.2) then some (.tbl #[]) else none) ⟨fun b h => if_pos h, naT, .inl (val a naT), fun b h _ => val b h⟩ (.inr ⟨vs, _, hk, by rw [List.length_map]; exact hl, rv⟩) (fun b u z => ?_) fun z => absurd (val a naT) z
    by_cases hb : b ∈ cs.map (·.2)
    · have z' : some (HO.tbl #[]) = some u := (if_pos hb).symm.trans z
      cases z'
      exact (tabAt b hb).1
    · have z' := (val b hb).symm.trans z
      cases z'
  | none =>
    have vt : ∀ b, b ∈ cs.map (·.2) → (if b = a then some (HO.frz { cls := .type "list", data := .seq vs.toArray } (.lst (ns.map V.int))) else if b ∈ cs.map (·.2) then some (.tbl #[]) else none) = some (.tbl #[]) := fun b h => by rw [if_neg (show ¬ b = a from fun z => naT (by rw [← z]; exact h)), if_pos h]
    have vn : ∀ b, b ∉ cs.map (·.2) → b ≠ a → (if b = a then some (HO.frz { cls := .type "list", data := .seq vs.toArray } (.lst (ns.map V.int))) else if b ∈ cs.map (·.2) then some (.tbl #[]) else none) = none := fun b h1 h2 => by rw [if_neg h2, if_neg h1]
    refine core (fun b => if b = a then some (.frz { cls := .type "list", data := .seq vs.toArray } (.lst (ns.map V.int))) else if b ∈ cs.map (·.2) then some (.tbl #[]) else none) ⟨vt, naT, .inr ⟨_, _, if_pos rfl⟩, vn⟩ (.inl (.inr ⟨{ cls := .type "list", data := .seq vs.toArray }, if_pos rfl⟩)) (fun b u z => ?_) fun _ => hk
    by_cases hb : b = a
    · have z' := (if_pos hb).symm.trans z
      cases z'
      subst hb
      exact ⟨ha, by rw [List.length_map]; exact hl, vs, _, rv, ha⟩
    · by_cases hb2 : b ∈ cs.map (·.2)
      · have z' := (vt b hb2).symm.trans z
        cases z'
        exact (tabAt b hb2).1
      · have z' := (vn b hb2 hb).symm.trans z
        cases z'
/-- what a law's head must tell of K: the module; the law's def; the tables of the defs that make lambdas -/
structure HeadOk (P : Program) (w : World) (mg : Str → Option Value) (h : Heap) (K : PySem.W.Frag) (T : Flds) (g : Gm) (sg : Sig) (fc : Nat) (tab : FK → Option Fn) (df : FK → DfD) (law : String) (x : Str) (cs : List (Addr × Addr)) : Prop where
  kin : K.In h
  mo : ModOk ⟨K, P, w, T⟩ mg g sg fc tab df
  th : T.th = none
  lw : DfOk ⟨K, P, w, T⟩ mg g fc tab (.fn law) (df (.fn law))
  lth : (df (.fn law)).th = none
  ps : (df (.fn law)).ps = [x]
  bind : ∀ fd, FunD K (df (.fn law)).name (df (.fn law)).qual (df (.fn law)).params (df (.fn law)).body (df (.fn law)).scope [] [] (df (.fn law)).f fd → ∀ (s : Shared) (u : Value), BindsTo s fd ⟨[u], []⟩ [(x, u)]
  tabs : ∀ p ∈ cs, h.get? p.2 = some { cls := .none, data := .fields #[] } ∧ K.lookup p.2 = none ∧ PySem.W.CodeHd h p.1 p.2
  ts : ∀ p ∈ T.tabs, p.1 ∈ cs.map (·.2)
  made : (df (.fn law)).lam = true → ∀ fd, FunD K (df (.fn law)).name (df (.fn law)).qual (df (.fn law)).params (df (.fn law)).body (df (.fn law)).scope [] [] (df (.fn law)).f fd → ∃ c P, fd.code = .ref c ∧ (c, P) ∈ cs ∧ (P, (df (.fn law)).qual ++ ".<locals>." ++ "<lambda>") ∈ T.tabs ∧ ∀ p ∈ T.tabs, p.1 = P → p.2 = (df (.fn law)).qual ++ ".<locals>." ++ "<lambda>"
section
variable {P : Program} {w : World} {mg : Str → Option Value} {h : Heap} {K : PySem.W.Frag} {T : Flds} {g : Gm} {sg : Sig} {fc fu : Nat} {tab : FK → Option Fn} {df : FK → DfD} {law : String} {x : Str} {cs : List (Addr × Addr)}
theorem law_sp {B : Mo} {cf : CallFn} {key : FK} {a : Addr} {D0 : D} {ps : List (Option M)} {H : Hp} (hc : cf key [.imm D0] = some (.ret (.imm (.bool true)) ps)) (lv : Live B H [(.imm D0, .ref a)]) : spI B (RX B) cf key [.ref a] H (fun v _ => v = .bl true) fun _ _ _ => False := by
  refine ⟨[.imm D0], [], rfl, lv, ?_⟩
  rw [hc]
  intro v H' _ lv'
  obtain ⟨Z, fp, r, _⟩ := Live.hd lv'
  cases r
  rfl
theorem HeadOk.uniq (HO : HeadOk P w mg h K T g sg fc tab df law x cs) {fd fd' : FuncData} (F : FunD K (df (.fn law)).name (df (.fn law)).qual (df (.fn law)).params (df (.fn law)).body (df (.fn law)).scope [] [] (df (.fn law)).f fd) (F' : FunD K (df (.fn law)).name (df (.fn law)).qual (df (.fn law)).params (df (.fn law)).body (df (.fn law)).scope [] [] (df (.fn law)).f fd') : fd' = fd := by
  obtain ⟨_, _, _, _, _, _, _, _, _, _, _, l1, _⟩ := F.ex
  obtain ⟨_, _, _, _, _, _, _, _, _, _, _, l2, _⟩ := F'.ex
  rw [l1] at l2
  cases l2
  rfl
theorem tabOk_of {X : Cx} {T : Flds} {c P : Addr} {q : Str} (hq : X.env.qual = q) (hc : X.env.code = .ref c) (hT : LamX.TabB X.base X.mg c P) (h3 : (P, q ++ "<lambda>") ∈ T.tabs) (h4 : ∀ p ∈ T.tabs, p.1 = P → p.2 = q ++ "<lambda>") : TabOk X T := by
  subst hq
  exact ⟨⟨c, P, hc, hT, h3, h4⟩⟩
theorem HeadOk.has (HO : HeadOk P w mg h K T g sg fc tab df law x cs) {base : Heap} {m : Nat} (hT : ∀ p ∈ cs, LamX.TabB base mg p.1 p.2) :
    ∃ fd, FunD K (df (.fn law)).name (df (.fn law)).qual (df (.fn law)).params (df (.fn law)).body (df (.fn law)).scope [] [] (df (.fn law)).f fd ∧ Has ⟨K, P, w, T⟩ (RX ⟨K, P, w, T⟩) mg base (2 * m + 6 + 2) (callN sg tab fu (m + 2 + 1)) (.fn law) (df (.fn law)).f fd (df (.fn law)).ps := by
  refine def_ok (B := ⟨K, P, w, T⟩) (n := m + 2) (k := 2 * m + 6) HO.mo (by omega) (defs_ok HO.mo (m + 2)) HO.lw HO.lth (fun z => nomatch z) fun hl fd2 A outer s H E F2 hr2 hgd hM => ?_
  obtain ⟨c, P', hc, hm, h3, h4⟩ := HO.made hl fd2 F2
  exact lamA_of (X := cxOf (L2.CX P w) P w K mg base (df (.fn law)).N (df (.fn law)).qual (df (.fn law)).scope (df (.fn law)).f fd2.code A outer s H E) (T := T) (m := m) HO.mo HO.th rfl HO.lw.sc.nd hr2 hgd (tabOk_of (q := (df (.fn law)).qual ++ ".<locals>.") rfl hc (hT (c, P') hm) h3 h4)
end
/-- a law, from the module's facts and the small language's answer -/
theorem law_end {l : PySem.W.OpenLaw} {n m : Nat} {q : Program} {loose : List Str} {XP : (Str → Option Value) → Heap → Prop} {YP : World → Heap → Prop} {d : DefRec} {x : Str} {T : PySem.W.Frag → Flds} {g : Gm} {sg : Sig} {fc fu : Nat} {tab : FK → Option Fn} {df : PySem.W.Frag → FK → DfD} {law : String} {cs : PySem.W.Frag → List (Addr × Addr)}
    (hn : l.most = some n) (hn2 : n ≤ sizeLine) (hdf : d.params.defaults = []) (hr : Room (2 * m + 8) callerA) (hname : d.name = Str.ofString law)
    (F : ∀ (w : World) (mg : Str → Option Value) (h : Heap), YP w h → h.Ns mainGlobals mg → ∃ K : PySem.W.Frag, HeadOk l.prog w mg h K (T K) g sg fc tab (df K) law x (cs K))
    (answer : ∀ ns : List Int, ns.length ≤ n → ∃ ps, callN sg tab fu (m + 3) (.fn law) [.imm (.list (ns.map PyData.int))] = some (.ret (.imm (.bool true)) ps)) :
    PySem.W.WalkO q loose XP YP l.row.toRowW d [] (fun f vs => PySem.call f vs) := by
  refine Att.attach_call hn hdf fun w s₀ s₁ mg mb fa o pm cd doc a vs ns G Y ho hd hcd hmg hobj hints hlen hg => ?_
  obtain ⟨K, HO⟩ := F w mg _ Y G.T.g
  have hfa : (df K (.fn law)).f = fa := by
    have := HO.lw.at_.1
    rw [← hname, hmg] at this
    cases this; rfl
  obtain ⟨fd, FD, _⟩ := HO.lw.fun_
  refine law_callG (B := ⟨K, l.prog, w, T K⟩) (k := 2 * m + 8) (cs := cs K) (sp := spI ⟨K, l.prog, w, T K⟩ (RX ⟨K, l.prog, w, T K⟩) (callN sg tab fu (m + 2 + 1)) (.fn law)) HO.kin G.T.g G.T.b G.T.builtins G.T.nolimit hg hobj hints (Nat.le_trans hlen hn2) hr HO.tabs G.T.bmain HO.ts (fun base hK hN hT => ?_) (HO.bind fd FD) fun H lv => ?_
  · obtain ⟨fd', FD', h'⟩ := HO.has (base := base) (m := m) (fu := fu) hT
    have e := HO.uniq FD FD'
    subst e
    have q := h'.fn
    rw [hfa, HO.ps] at q
    exact q
  · obtain ⟨ps, hc⟩ := answer ns hlen
    exact law_sp hc lv
end Iv
set_option linter.all false
set_option maxRecDepth 100000
set_option maxHeartbeats 4000000
/-! Iv25: the module's facts, from the head's Hook. -/
namespace Iv
open PySem PySem.Spec PyProof.Rows L2
/-! ### constants of the module -/
mutual
def valB (K : PySem.W.Frag) : D → Value → Bool
  | .none, .none => true
  | .bool b, .bool c => decide (b = c)
  | .int i, .int j _ => decide (i = j)
  | .str x, .str y _ => decide (x = y)
  | .tuple ds, .ref a => (match K.lookup a with
    | some ⟨.type c, od, .seq its _, _⟩ => decide (c = "tuple") && (decide (its.size ≤ sizeLine) && (od.isNone && valsB K ds its.toList))
    | _ => false)
  | _, _ => false
def valsB (K : PySem.W.Frag) : List D → List Value → Bool
  | [], [] => true
  | d :: ds, u :: us => valB K d u && valsB K ds us
  | _, _ => false
end
def entsB (K : PySem.W.Frag) : List (D × D) → List DictEntry → Bool
  | [], [] => true
  | (k, d) :: ps, e :: es => (match k, e.key with
    | .str x, .str y _ => decide (x = y)
    | _, _ => false) && (valB K d e.val && entsB K ps es)
  | _, _ => false
def dicB (K : PySem.W.Frag) (a : Addr) (ps : List (D × D)) : Bool := match K.lookup a with
  | some ⟨_, _, .dict es _, _⟩ => entsB K ps es.toList && (decide ((ps.map fun p => keyD p.1).Nodup) && decide (ps.length ≤ sizeLine))
  | _ => false
def cstB (K : PySem.W.Frag) (x : Str) (d : D) : Bool := match PySem.W.nsIn K mainGlobals x with
  | some (some u) => (match d, u with
    | .dict ps, .ref a => decide (a = He.ga K x) && dicB K a ps
    | d, u => valB K d u)
  | _ => false
section
variable {B : Mo}
mutual
theorem valB_ok : ∀ (d : D) {u : Value}, valB B.K d u = true → ∃ v, RelV v u ∧ ∀ Z H, RD B Z H d v
  | .none, u, h => by
    cases u <;> simp [valB] at h
    exact ⟨.non, rfl, fun _ _ => .non⟩
  | .bool b, u, h => by
    cases u <;> simp [valB] at h
    subst h
    exact ⟨.bl _, rfl, fun _ _ => .bl _⟩
  | .int i, u, h => by
    cases u <;> simp [valB] at h
    subst h
    exact ⟨.int _, ⟨_, rfl⟩, fun _ _ => .int _⟩
  | .str x, u, h => by
    cases u <;> simp [valB] at h
    subst h
    exact ⟨.str _, ⟨_, rfl⟩, fun _ _ => .str _⟩
  | .list ds, u, h => by cases u <;> simp [valB] at h
  | .dict ds, u, h => by cases u <;> simp [valB] at h
  | .tuple ds, u, h => by
    cases u with
    | ref a =>
      rw [valB] at h
      cases q : B.K.lookup a with
      | none => rw [q] at h; cases h
      | some o =>
        rw [q] at h
        obtain ⟨oc, od, dt, osl⟩ := o
        cases oc with
        | type c =>
          cases dt with
          | seq its n =>
            simp only [Bool.and_eq_true, decide_eq_true_eq] at h
            obtain ⟨h1, h2, h4, h3⟩ := h
            subst h1
            obtain ⟨vs, r1, r2⟩ := valsB_ok ds h3
            exact ⟨.ref a, rfl, fun Z H => .tup (.inr ⟨_, its, n, q, rfl, rfl, h2, r1⟩) (fun _ => .inr ⟨_, q, Option.isNone_iff_eq_none.mp h4⟩) (r2 Z H)⟩
          | _ => cases h
        | _ => cases dt <;> cases h
    | _ => simp [valB] at h
theorem valsB_ok : ∀ (ds : List D) {us : List Value}, valsB B.K ds us = true → ∃ vs, Vals vs us ∧ ∀ Z H, RDs B Z H ds vs
  | [], us, h => by
    cases us <;> simp [valsB] at h
    exact ⟨[], .nil, fun _ _ => .nil⟩
  | d :: ds, us, h => by
    cases us with
    | nil => simp [valsB] at h
    | cons u us =>
      simp only [valsB, Bool.and_eq_true] at h
      obtain ⟨v, r1, r2⟩ := valB_ok d h.1
      obtain ⟨vs, q1, q2⟩ := valsB_ok ds h.2
      exact ⟨v :: vs, .cons r1 q1, fun Z H => .cons (r2 Z H) (q2 Z H)⟩
end
theorem entsB_ok : ∀ (ps : List (D × D)) {es : List DictEntry}, entsB B.K ps es = true → PySem.W.KeysLit B.w.params es →
    ∃ (kvs : List (Key × V)) (vs : List (Key × Value)), KV kvs vs ∧ (∀ Z H, RKs B Z H ps kvs) ∧ PySem.Pairs (mixKind B.P B.w) es vs ∧ (∀ e ∈ es, ∃ k, (mixKind B.P B.w).is k e.key = true ∧ e.hash = (mixKind B.P B.w).hash k) ∧ vs.map (fun p => some p.1) = ps.map (fun p => keyD p.1)
  | [], es, h, _ => by
    cases es <;> simp [entsB] at h
    exact ⟨[], [], .nil, fun _ _ => .nil, .nil, by simp, rfl⟩
  | (k, d) :: ps, es, h, l => by
    cases es with
    | nil => simp [entsB] at h
    | cons e es =>
      simp only [entsB, Bool.and_eq_true] at h
      obtain ⟨h1, h2, h3⟩ := h
      obtain ⟨⟨x, t, l1, l2⟩, l3⟩ := l
      obtain ⟨v, r1, r2⟩ := valB_ok d h2
      obtain ⟨kvs, vs, q1, q2, q3, q4, q5⟩ := entsB_ok ps h3 l3
      rw [l1] at h1
      cases k with
      | str y =>
        have e1 : y = x := of_decide_eq_true h1
        subst e1
        refine ⟨(.inr y, v) :: kvs, (.inr y, e.val) :: vs, .cons ⟨rfl, r1⟩ q1, fun Z H => .cons rfl (r2 Z H) (q2 Z H), .cons ?_ rfl q3, fun e' he => ?_, by simp [q5, keyD]⟩
        · rw [l1]; exact keyIs_str y t
        · rcases List.mem_cons.mp he with rfl | he
          · exact ⟨.inr y, by rw [l1]; exact keyIs_str y t, l2⟩
          · exact q4 e' he
      | _ => cases h1
theorem dicB_ok {a : Addr} {ps : List (D × D)} {es0 : Array DictEntry} {n0 : Nat} (h : dicB B.K a ps = true) (D : KDict B.K B.w a es0 n0) : ∀ Z H, RD B Z H (.dict ps) (.ref a) := by
  unfold dicB at h
  rw [D.at_] at h
  simp only [Bool.and_eq_true, decide_eq_true_eq] at h
  obtain ⟨h1, h2, h3⟩ := h
  obtain ⟨kvs, vs, q1, q2, q3, q4, q5⟩ := entsB_ok ps h1 D.lit
  have nd : (vs.map (·.1)).Nodup := by
    have : (vs.map fun p => some p.1).Nodup := by rw [q5]; exact h2
    have e : vs.map (fun p => some p.1) = (vs.map (·.1)).map some := by simp
    rw [e] at this
    exact (List.pairwise_map.mp this).imp fun h e => h (congrArg some e)
  refine fun Z H => .kdic ⟨D.low, ?_, vs, q1, fun hp KX => ⟨_, es0, n0, KX _ _ D.at_, ⟨rfl, rfl, rfl⟩, rfl, fun e he => q4 e (by simpa using he), q3, nd⟩⟩ (by show (B.K.lookup a).isSome = true; rw [D.at_]; rfl) (q2 Z H)
  have := (q2 (fun _ => False) (fun _ => none)).length
  omega
end
/-! ### the law's data -/
structure Ent where
  key : FK
  d : He.DefD
  N : List Str
  ps : List Str
def keyHd : FK → Str × Option Str
  | .fn x => (Str.ofString x, none)
  | .mt c m => (Str.ofString c, some (Str.ofString m))
  | .lm => ("", none)
/-- an own exception class with an __init__: self, v its parameters, b the class whose __init__ it calls, f the field -/
structure XI where
  c : String
  d : He.DefD
  self : Str
  v : Str
  b : Str
  f : Str
/-- ents: the defs that are called; lents: those that are handed a lambda; law: the law; lam: whether it makes lambdas -/
structure LD where
  law : Ent
  lam : Bool
  lents : List Ent
  lws : List String
  ents : List Ent
  fl : List Str
  csts : List (Str × D)
  clss : List String
  inpl : FK → List Nat
  mov : Str → Str → Bool
  xs : List String
  xi : List XI
  xh : List String
def LD.g (L : LD) : Gm := ⟨fun x => L.csts.lookup x, L.ents.map (·.key), L.fl, L.mov, L.xs, L.xi.map (·.c), L.xh, L.lws⟩
def LD.sg (L : LD) : Sig := ⟨L.inpl, L.ents.map (·.key)⟩
structure EX where
  e : Ent
  th : Option (Str × Nat)
  lam : Bool
def noEnt : Ent := ⟨.lm, ⟨("", none), "", "", ⟨[], [], none, [], [], none, []⟩, [], ⟨.function, [], false, false, []⟩, [], []⟩, [], []⟩
def LD.all (L : LD) : List EX := ⟨L.law, none, L.lam⟩ :: (L.lents.map (fun e => ⟨e, e.ps.head?.map fun a => (a, 0), false⟩) ++ L.ents.map fun e => ⟨e, none, false⟩)
def LD.ent (L : LD) (key : FK) : Option EX := L.all.find? fun x => x.e.key == key
def EX.df (K : PySem.W.Frag) (x : EX) : DfD := ⟨He.fAd K x.e.d.at_, x.e.d.name, x.e.d.qual, x.e.d.params, x.e.d.body, x.e.d.scope, x.e.N, x.e.ps, x.th, x.lam⟩
def LD.df (L : LD) (K : PySem.W.Frag) (key : FK) : DfD := ((L.ent key).getD ⟨noEnt, none, false⟩).df K
def LD.fn (L : LD) (fc : Nat) (x : EX) : Fn := ⟨x.e.N.length, x.e.ps.length, x.e.d.body.map (compS L.g x.e.N fc ⟨x.e.d.scope, fun _ => true, x.th, x.lam⟩)⟩
def LD.tab (L : LD) (fc : Nat) (key : FK) : Option Fn := (L.ent key).map (L.fn fc)
def glos (L : LD) : List Str := L.clss.map Str.ofString ++ (L.xs.map Str.ofString ++ (L.xh.map Str.ofString ++ L.xi.map (·.b)))
def LD.fa (L : LD) : List He.Fa := blts.map .free ++ ((glos L).map .glo ++ ((L.clss.map fun c => .cls (Str.ofString c)) ++ ((L.clss.map fun c => .mkr (Str.ofString c)) ++ ((L.clss.flatMap fun c => L.fl.map fun f => .noat (Str.ofString c) f) ++ L.all.map fun x => match x.e.key with
  | .fn x => .glo (Str.ofString x)
  | .mt c m => .meth (Str.ofString c) (Str.ofString m)
  | .lm => .glo ""))))
def LD.fns (L : LD) : List He.DefD := L.all.map (·.e.d) ++ L.xi.map (·.d)
def LD.ts (L : LD) : List He.Tab := L.csts.filterMap fun p => match p.2 with
  | .dict ps => some (fun K => He.ga K p.1, ps.map fun q => match q.1 with
    | .str x => x
    | _ => "")
  | _ => none
def LD.tf (L : LD) : List He.Defn := if L.lam then [L.law.d.at_] else []
def LD.lq (L : LD) : Str := L.law.d.qual ++ ".<locals>." ++ "<lambda>"
def LD.cs (L : LD) (K : PySem.W.Frag) : List (Addr × Addr) := L.tf.map (He.cT K)
def LD.T (L : LD) (nd : L.fl.Nodup) (K : PySem.W.Frag) : Flds := ⟨L.fl, nd, L.xs, (L.cs K).map fun p => (p.2, L.lq), none⟩
/-! ### own exceptions, as the kernel looks at them -/
def gA (K : PySem.W.Frag) (c : String) : Addr := He.ga K (Str.ofString c)
def xplB (K : PySem.W.Frag) (C : Addr) : Bool := PySem.W.excIn K C [.type "ValueError", .type "Exception", .type "BaseException", .type "object"] "ValueError.__new__" && (PySem.W.keepIn K (.ref C) && (decide (PySem.W.subIn K (.ref C) (.type "BaseException") = some true) && decide (PySem.W.typeIn K (.ref C) = some (.type "type"))))
def oclB (K : PySem.W.Frag) (C : Addr) : Bool := match K.lookup C with
  | some ⟨.type t, _, .cls cd, sl⟩ => (match cd.mro, sl.toList with
    | .ref C' :: bm, [_, _, _, _, some (.builtin n), _] => decide (t = "type") && (decide (C' = C) && (decide (n = "ValueError.__new__") && (cd.hasDict && (!cd.hasDel && PySem.HandSPX.refsVE bm))))
    | _, _ => false)
  | _ => false
def oexB (K : PySem.W.Frag) (C : Addr) : Bool := oclB K C && (decide (PySem.W.findIn K (.ref C) "__setattr__" = some (some (.builtin "object.__setattr__"))) && (decide (PySem.W.subIn K (.ref C) (.type "BaseException") = some true) && (decide (PySem.W.typeIn K (.ref C) = some (.type "type")) && PySem.W.keepIn K (.ref C))))
def xbsB (K : PySem.W.Frag) (C : Addr) : Bool := decide (PySem.W.specialIn K (.ref C) "__getattribute__" = some (some (.builtin "type.__getattribute__"))) && (decide (PySem.W.typeIn K (.ref C) = some (.type "type")) && (PySem.W.readsIn K C (.type "type") &&
  (match PySem.W.findCls K (.ref C) (.type "type") "__init__" with
    | some (.val (.builtin n)) => decide (n = "ValueError.__init__")
    | _ => false)))
def xiB (K : PySem.W.Frag) (x : XI) : Bool := oexB K (gA K x.c) && (xbsB K (He.ga K x.b) && (decide (PySem.W.findIn K (.ref (gA K x.c)) x.f = some none) && (decide (PySem.W.findIn K (.ref (gA K x.c)) "__init__" = some (some (.ref (He.fAd K x.d.at_)))) && decide (PySem.W.typeIn K (.ref (He.fAd K x.d.at_)) = some (.type "function")))))
def ecB (K : PySem.W.Frag) (D : Addr) : Bool := decide (PySem.W.findIn K (.ref D) "__getattribute__" = some (some (.builtin "BaseException.__getattribute__"))) && (decide (PySem.W.findIn K (.ref D) "__getattr__" = some none) && (decide (PySem.W.subIn K (.ref D) (.type "BaseException") = some true) && (PySem.W.hasDictIn K D &&
  (decide (PySem.W.findIn K (.ref D) "__class__" = some (some (.builtin "object.__class__"))) && (decide (PySem.W.specialIn K (.builtin "object.__class__") "__get__" = some (some (.builtin "getset_descriptor.__get__"))) && (decide (PySem.W.takesIn K (.builtin "object.__class__") = some true) && decide (PySem.W.mroIn K D (.type "object") = some true)))))))
def LD.xB (L : LD) (K : PySem.W.Frag) : Bool := (L.xs.all fun c => ecB K (gA K c) && ((L.xi.map (·.c)).contains c || xplB K (gA K c))) && ((L.xi.all fun x => xiB K x) && ((L.xs.all fun a => L.xh.all fun c => decide (PySem.W.exmOne K (.ref (gA K a)) (.ref (gA K c)) = some (subX a c)) && decide (PySem.W.kitOne K (.ref (gA K a)) (.ref (gA K c)) = some (subX a c))) &&
  L.xs.all fun a => decide (PySem.W.kitOne K (.ref (gA K a)) (.type "ValueError") = some (subX a "ValueError"))))
def LD.ex (L : LD) (K : PySem.W.Frag) : Bool := (L.csts.all fun p => cstB K p.1 p.2) && L.xB K
section
variable {K : PySem.W.Frag} {mg : Str → Option Value} {C : Addr}
theorem ocl_ok (h : oclB K C = true) : ∃ nm q N bs bm sn sub ab col dd k0 k1 k2 k3 k5, K.lookup C = some (excClassObj nm q C N bs bm true sn sub ab col dd k0 k1 k2 k3 k5 "ValueError.__new__") ∧ PySem.HandSPX.refsVE bm = true := by
  unfold oclB at h
  cases q : K.lookup C with
  | none => rw [q] at h; cases h
  | some o =>
    rw [q] at h
    obtain ⟨oc, dd, dt, sl⟩ := o
    cases oc with
    | type t =>
      cases dt with
      | cls cd =>
        simp only at h
        split at h
        · rename_i C' bm k0 k1 k2 k3 n k5 hm hs
          simp only [Bool.and_eq_true, decide_eq_true_eq, Bool.not_eq_true'] at h
          obtain ⟨rfl, rfl, rfl, h1, h2, h3⟩ := h
          obtain ⟨nm, bs, mro, ns, qn, hd, sn, sub, ab, col, del⟩ := cd
          have hm : mro = _ := hm
          have h1 : hd = true := h1
          have h2 : del = false := h2
          subst hm h1 h2
          obtain ⟨sl⟩ := sl
          have hs : sl = _ := hs
          subst hs
          exact ⟨nm, qn, ns, bs, bm, sn, sub, ab, col, dd, k0, k1, k2, k3, k5, rfl, h3⟩
        · cases h
      | _ => cases h
    | _ => cases dt <;> cases h
theorem oex_ok (h : oexB K C = true) : OexC K C := by
  unfold oexB at h
  simp only [Bool.and_eq_true, decide_eq_true_eq] at h
  obtain ⟨h1, h2, h3, h4, h5⟩ := h
  exact ⟨ocl_ok h1, h2, h3, h4, h5⟩
theorem xbs_ok (h : xbsB K C = true) : XBase K C := by
  unfold xbsB at h
  simp only [Bool.and_eq_true, decide_eq_true_eq] at h
  obtain ⟨h1, h2, h3, h4⟩ := h
  refine ⟨h1, h2, h3, ?_⟩
  split at h4
  · rename_i n e
    rw [e, of_decide_eq_true h4]
  · cases h4
theorem ec_ok (h : ecB K C = true) : ExcC K C := by
  unfold ecB at h
  simp only [Bool.and_eq_true, decide_eq_true_eq] at h
  obtain ⟨h1, h2, h3, h4, h5, h6, h7, h8⟩ := h
  exact ⟨h1, h2, h3, h4, h5, h6, h7, h8⟩
end
def BindsP (d : He.DefD) (ps : List Str) : Prop := ∀ (kV doc pm : Value) (an : Option Addr) (cdv ct : Value) (us : List Value), us.length = ps.length → bindArgs (PySem.W.fnOf d.name d.qual d.params d.body d.scope .none kV doc pm an cdv ct) ⟨us, []⟩ = pure (ps.zip us)
def scopeB (N ps : List Str) (sc : Scope) : Bool := (match sc.kind with | .function => true | _ => false) && !sc.isCoroutine && !sc.isGenerator && decide N.Nodup && decide (N.take ps.length = ps) &&
  (ps.all fun x => decide (sc.names.lookup x = some .local) || decide (sc.names.lookup x = some .cell)) && sc.names.all fun y => match y.2 with | .free => false | _ => true
theorem scopeB_ok {N ps : List Str} {sc : Scope} (h : scopeB N ps sc = true) : FnScope N ps sc := by
  unfold scopeB at h
  simp only [Bool.and_eq_true, decide_eq_true_eq, List.all_eq_true, Bool.or_eq_true, Bool.not_eq_true'] at h
  obtain ⟨⟨⟨⟨⟨⟨h1, h2⟩, h3⟩, h4⟩, h5⟩, h6⟩, h7⟩ := h
  refine ⟨?_, h2, h3, h4, h5, h6, fun y hy e => ?_⟩
  · cases hk : sc.kind with
    | function => rfl
    | _ => rw [hk] at h1; cases h1
  · have := h7 y hy
    rw [e] at this
    cases this
/-- what the kernel looks at: each def -/
def entB (e : Ent) : Bool := decide (e.d.at_ = keyHd e.key) && (scopeB e.N e.ps e.d.scope && (e.d.dfl.isEmpty && (e.d.kwd.isEmpty && !(e.key == .lm))))
structure EntOk (e : Ent) : Prop where
  b : entB e = true
  bind : BindsP e.d e.ps
inductive EntsOk : List Ent → Prop
  | nil : EntsOk []
  | cons {e : Ent} {r : List Ent} : EntOk e → EntsOk r → EntsOk (e :: r)
theorem EntsOk.all : ∀ {l : List Ent}, EntsOk l → ∀ e ∈ l, EntOk e
  | _, .nil, e, h => by cases h
  | _, .cons a r, e, h => by
    rcases List.mem_cons.mp h with rfl | h
    · exact a
    · exact r.all e h
def xiE (x : XI) : Bool := scopeB [x.self, x.v] [x.self, x.v] x.d.scope && (decide (initB x.d.scope x.self x.v x.d.body = some (x.b, x.f)) && (x.d.dfl.isEmpty && x.d.kwd.isEmpty))
structure XiOk (x : XI) : Prop where
  b : xiE x = true
  bind : BindsP x.d [x.self, x.v]
inductive XisOk : List XI → Prop
  | nil : XisOk []
  | cons {e : XI} {r : List XI} : XiOk e → XisOk r → XisOk (e :: r)
theorem XisOk.all : ∀ {l : List XI}, XisOk l → ∀ e ∈ l, XiOk e
  | _, .nil, e, h => by cases h
  | _, .cons a r, e, h => by
    rcases List.mem_cons.mp h with rfl | h
    · exact a
    · exact r.all e h
def lentB (e : Ent) : Bool := match e.ps with
  | [a] => visC e.d.scope a && okName a
  | _ => false
/-- the keys are apart; classes stand by their __init__; those that are handed a lambda -/
def LD.okB (L : LD) : Bool := decide ((L.all.map (·.e.key)).Nodup) && ((L.ents.all fun e => match e.key with
  | .mt c m => !(m == "__init__") || L.clss.contains c
  | _ => true) && ((L.lents.all lentB) && (decide (L.lents.map (·.key) = L.lws.map FK.fn))))
theorem nodup_find {α β : Type} [DecidableEq β] (f : α → β) : ∀ {l : List α}, (l.map f).Nodup → ∀ x ∈ l, l.find? (fun y => f y == f x) = some x
  | [], _, x, h => by cases h
  | y :: l, nd, x, h => by
    simp only [List.map_cons, List.nodup_cons] at nd
    rw [List.find?_cons]
    rcases List.mem_cons.mp h with rfl | h
    · simp
    · have : (f y == f x) = false := by
        simp only [beq_eq_false_iff_ne]
        exact fun e => nd.1 (by rw [e]; exact List.mem_map_of_mem h)
      rw [this]
      exact nodup_find f nd.2 x h
theorem lookup_mem {α β : Type} [BEq α] [LawfulBEq α] {x : α} {d : β} : ∀ {l : List (α × β)}, l.lookup x = some d → (x, d) ∈ l
  | [], h => by cases h
  | (y, e) :: r, h => by
    rw [List.lookup_cons] at h
    cases q : x == y with
    | true =>
      rw [q] at h
      cases h
      rw [beq_iff_eq.mp q]
      exact List.mem_cons_self
    | false =>
      rw [q] at h
      exact List.mem_cons_of_mem _ (lookup_mem h)
section
variable {L : LD} {P : Program} {w : World} {h : Heap} {mg : Str → Option Value} {K : PySem.W.Frag} {fc : Nat}
theorem LD.find (hL : L.okB = true) {x : EX} (hx : x ∈ L.all) : L.ent x.e.key = some x := by
  unfold LD.okB at hL
  simp only [Bool.and_eq_true, decide_eq_true_eq] at hL
  exact nodup_find (fun x : EX => x.e.key) hL.1 x hx
theorem LD.dfx (hL : L.okB = true) {x : EX} (hx : x ∈ L.all) : L.df K x.e.key = x.df K := by
  unfold LD.df
  rw [L.find hL hx]
  rfl
theorem mem_free {x : Str} (hx : x ∈ blts) : He.Fa.free x ∈ L.fa := List.mem_append_left _ (List.mem_map.mpr ⟨x, hx, rfl⟩)
theorem mem_glo {x : Str} (hx : x ∈ glos L) : He.Fa.glo x ∈ L.fa := List.mem_append_right _ (List.mem_append_left _ (List.mem_map.mpr ⟨x, hx, rfl⟩))
theorem mem_clsF {c : String} (hx : c ∈ L.clss) : He.Fa.cls (Str.ofString c) ∈ L.fa := List.mem_append_right _ (List.mem_append_right _ (List.mem_append_left _ (List.mem_map.mpr ⟨c, hx, rfl⟩)))
theorem mem_mkr {c : String} (hx : c ∈ L.clss) : He.Fa.mkr (Str.ofString c) ∈ L.fa := List.mem_append_right _ (List.mem_append_right _ (List.mem_append_right _ (List.mem_append_left _ (List.mem_map.mpr ⟨c, hx, rfl⟩))))
theorem mem_noat {c : String} {f : Str} (hx : c ∈ L.clss) (hf : f ∈ L.fl) : He.Fa.noat (Str.ofString c) f ∈ L.fa := List.mem_append_right _ (List.mem_append_right _ (List.mem_append_right _ (List.mem_append_right _ (List.mem_append_left _ (List.mem_flatMap.mpr ⟨c, hx, List.mem_map.mpr ⟨f, hf, rfl⟩⟩)))))
theorem mem_key {x : EX} (hx : x ∈ L.all) : (match x.e.key with | .fn x => He.Fa.glo (Str.ofString x) | .mt c m => .meth (Str.ofString c) (Str.ofString m) | .lm => .glo "") ∈ L.fa := List.mem_append_right _ (List.mem_append_right _ (List.mem_append_right _ (List.mem_append_right _ (List.mem_append_right _ (List.mem_map.mpr ⟨x, hx, rfl⟩)))))
theorem gl_cls {c : String} (h : c ∈ L.clss) : Str.ofString c ∈ glos L := List.mem_append_left _ (List.mem_map.mpr ⟨c, h, rfl⟩)
theorem gl_xs {c : String} (h : c ∈ L.xs) : Str.ofString c ∈ glos L := List.mem_append_right _ (List.mem_append_left _ (List.mem_map.mpr ⟨c, h, rfl⟩))
theorem gl_xh {c : String} (h : c ∈ L.xh) : Str.ofString c ∈ glos L := List.mem_append_right _ (List.mem_append_right _ (List.mem_append_left _ (List.mem_map.mpr ⟨c, h, rfl⟩)))
theorem gl_xi {x : XI} (h : x ∈ L.xi) : x.b ∈ glos L := List.mem_append_right _ (List.mem_append_right _ (List.mem_append_right _ (List.mem_map.mpr ⟨x, h, rfl⟩)))
/-- a def as it stands -/
theorem LD.dfOk {T : Flds} (hL : L.okB = true) {x : EX} (hx : x ∈ L.all) (E : EntOk x.e) (KX : K.In h) (G : h.Ns mainGlobals mg) (cd : He.SaysD L.fa L.fns K) : DfOk ⟨K, P, w, T⟩ mg L.g fc (L.tab fc) x.e.key (L.df K x.e.key) := by
  have h1 := L.find hL hx
  have hdf := L.dfx (K := K) hL hx
  obtain ⟨eb, ebd⟩ := E
  unfold entB at eb
  simp only [Bool.and_eq_true, decide_eq_true_eq] at eb
  obtain ⟨k1, k2, k3, k4, k5⟩ := eb
  obtain ⟨fd, F⟩ := cd.defs (d := x.e.d) (List.mem_append_left _ (List.mem_map.mpr ⟨x, hx, rfl⟩))
  have e1 : x.e.d.dvs K = [] := by unfold He.DefD.dvs; rw [List.isEmpty_iff.mp k3]; rfl
  have e2 : x.e.d.kws K = [] := by unfold He.DefD.kws; rw [List.isEmpty_iff.mp k4]; rfl
  rw [e1, e2] at F
  have mem := mem_key hx
  rw [hdf]
  refine ⟨⟨fd, F, F.bindsN ebd⟩, scopeB_ok k2, ?_, by unfold LD.tab; rw [h1]; rfl⟩
  have kp : PySem.W.keepIn K (.ref (He.fAd K x.e.d.at_)) = true := F.kp
  show KeyAt _ mg (He.fAd K x.e.d.at_) x.e.key
  rw [k1] at kp ⊢
  generalize x.e.key = key at mem kp k5 ⊢
  cases key with
  | fn x => exact ⟨He.glo_ok KX G (cd.facts mem), kp⟩
  | mt cl m => exact He.meth_ok (cd.facts mem)
  | lm => cases k5
theorem LD.xf (hX : XisOk L.xi) (KX : K.In h) (G : h.Ns mainGlobals mg) (cd : He.SaysD L.fa L.fns K) (hb : L.xB K = true) (base : Heap) : XFacts P w K mg base L.xs (L.xi.map (·.c)) L.xh := by
  unfold LD.xB at hb
  simp only [Bool.and_eq_true, List.all_eq_true, decide_eq_true_eq, Bool.or_eq_true] at hb
  obtain ⟨b1, b2, b3, b4⟩ := hb
  refine ⟨fun c hc hn => ?_, fun c hc hi => ?_, fun a ha c hc => (b3 a ha c hc).1, fun c hc => He.glo_ok KX G (cd.facts (mem_glo (gl_xh hc))), fun a ha c hc => (b3 a ha c hc).2, b4, fun c hc => ec_ok (b1 c hc).1⟩
  · rcases (b1 c hc).2 with q | q
    · exact absurd (by simpa using q) hn
    · unfold xplB at q
      simp only [Bool.and_eq_true, decide_eq_true_eq] at q
      obtain ⟨q1, q2, q3, q4⟩ := q
      exact ⟨q1, He.glo_ok KX G (cd.facts (mem_glo (gl_xs hc))), q2, q3, q4⟩
  · obtain ⟨x, hx, rfl⟩ := List.mem_map.mp hi
    have q := b2 x hx
    unfold xiB at q
    simp only [Bool.and_eq_true, decide_eq_true_eq] at q
    obtain ⟨q1, q2, q3, q4, q5⟩ := q
    obtain ⟨xb, xbd⟩ := hX.all x hx
    unfold xiE at xb
    simp only [Bool.and_eq_true, decide_eq_true_eq] at xb
    obtain ⟨k1, k2, k3, k4⟩ := xb
    obtain ⟨fd, F⟩ := cd.defs (d := x.d) (List.mem_append_right _ (List.mem_map.mpr ⟨x, hx, rfl⟩))
    have e1 : x.d.dvs K = [] := by unfold He.DefD.dvs; rw [List.isEmpty_iff.mp k3]; rfl
    have e2 : x.d.kws K = [] := by unfold He.DefD.kws; rw [List.isEmpty_iff.mp k4]; rfl
    rw [e1, e2] at F
    exact ⟨x.f, oex_ok q1, He.glo_ok KX G (cd.facts (mem_glo (gl_xs hc))), q3, He.fAd K x.d.at_, fd, [x.self, x.v], q4, q5, init_fn F (scopeB_ok k1) k2 (He.glo_ok KX G (cd.facts (mem_glo (gl_xi hx)))) (xbs_ok q2), F.bindsN xbd⟩
theorem LD.cstOk {T : Flds} (KX : K.In h) (G : h.Ns mainGlobals mg) {tf : List He.Defn} (c : He.SaysX L.fa L.fns L.ts tf L.ex w h K) {x : Str} {d : D} (hx : L.csts.lookup x = some d) : ∃ u v, mg x = some u ∧ RelV v u ∧ ∀ Z H, RD ⟨K, P, w, T⟩ Z H d v := by
  have hm := lookup_mem hx
  have hmore := c.more
  unfold LD.ex at hmore
  simp only [Bool.and_eq_true] at hmore
  have hb : cstB K x d = true := List.all_eq_true.mp hmore.1 (x, d) hm
  unfold cstB at hb
  cases hn : PySem.W.nsIn K mainGlobals x with
  | none => rw [hn] at hb; cases hb
  | some o =>
    rw [hn] at hb
    cases o with
    | none => cases hb
    | some u =>
      have hmg := PySem.W.mg_of KX G hn
      have gen : valB K d u = true → ∃ u v, mg x = some u ∧ RelV v u ∧ ∀ Z H, RD ⟨K, P, w, T⟩ Z H d v := fun q => by
        obtain ⟨v, r1, r2⟩ := valB_ok (B := ⟨K, P, w, T⟩) d q
        exact ⟨u, v, hmg, r1, r2⟩
      cases d with
      | dict ps =>
        cases u with
        | ref a =>
          simp only [Bool.and_eq_true, decide_eq_true_eq] at hb
          obtain ⟨e1, hb⟩ := hb
          have ht : (fun K => He.ga K x, ps.map fun (q : D × D) => match q.1 with | .str x => x | _ => "") ∈ L.ts := List.mem_filterMap.mpr ⟨(x, .dict ps), hm, rfl⟩
          obtain ⟨i, hi, ei⟩ := List.mem_iff_getElem.mp ht
          obtain ⟨es, n, kd⟩ := c.t.tab i (t := (fun K => He.ga K x, ps.map fun (q : D × D) => match q.1 with | .str x => x | _ => "")) (by rw [List.getElem?_eq_getElem hi, ei])
          have kd' : KDict K w a es n := by rw [e1]; exact kd
          exact ⟨.ref a, .ref a, hmg, rfl, dicB_ok (B := ⟨K, P, w, T⟩) hb kd'⟩
        | _ => exact gen hb
      | _ => exact gen hb
theorem mem_ents {e : Ent} (h : e ∈ L.ents) : (⟨e, none, false⟩ : EX) ∈ L.all := List.mem_cons_of_mem _ (List.mem_append_right _ (List.mem_map.mpr ⟨e, h, rfl⟩))
theorem mem_lents {e : Ent} (h : e ∈ L.lents) : (⟨e, e.ps.head?.map fun a => (a, 0), false⟩ : EX) ∈ L.all := List.mem_cons_of_mem _ (List.mem_append_left _ (List.mem_map.mpr ⟨e, h, rfl⟩))
theorem LD.mod (hL : L.okB = true) (hE : EntsOk (L.law :: (L.lents ++ L.ents))) (hX : XisOk L.xi) (KX : K.In h) (G : h.Ns mainGlobals mg) {tf : List He.Defn} (c : He.SaysX L.fa L.fns L.ts tf L.ex w h K) (nd : L.fl.Nodup) : ModOk ⟨K, P, w, L.T nd K⟩ mg L.g L.sg fc (L.tab fc) (L.df K) := by
  have cd : He.SaysD L.fa L.fns K := c.t.d
  have hL' := hL
  unfold LD.okB at hL'
  simp only [Bool.and_eq_true, decide_eq_true_eq] at hL'
  obtain ⟨_, o2, o3, o4⟩ := hL'
  have hmore := c.more
  unfold LD.ex at hmore
  simp only [Bool.and_eq_true] at hmore
  have eE : ∀ e ∈ L.ents, EntOk e := fun e h => hE.all e (List.mem_cons_of_mem _ (List.mem_append_right _ h))
  refine ⟨rfl, rfl, fun x d hx => L.cstOk KX G c hx, fun x hx => He.free_ok KX G (cd.facts (mem_free hx)), fun key hk => ?_, fun key hk => ?_, fun cl hk => ?_, rfl, fun base => L.xf hX KX G cd hmore.2 base, fun w' hw => ?_⟩
  · obtain ⟨e, he, rfl⟩ := List.mem_map.mp hk
    exact L.dfOk hL (mem_ents he) (eE e he) KX G cd
  · obtain ⟨e, he, rfl⟩ := List.mem_map.mp hk
    have := L.dfx (K := K) hL (mem_ents he)
    rw [this]
    exact ⟨rfl, rfl⟩
  · obtain ⟨e, he, hkey⟩ := List.mem_map.mp hk
    have hc := List.all_eq_true.mp o2 e he
    rw [hkey] at hc
    have hc : cl ∈ L.clss := by simpa using hc
    obtain ⟨eb, _⟩ := eE e he
    unfold entB at eb
    simp only [Bool.and_eq_true, decide_eq_true_eq] at eb
    have hdf := L.dfx (K := K) hL (mem_ents he)
    have hf : (L.df K (.mt cl "__init__")).f = He.ma K (He.ga K (Str.ofString cl)) "__init__" := by
      rw [← hkey]
      rw [hdf]
      show He.fAd K e.d.at_ = _
      rw [eb.1, hkey]; rfl
    rw [hf]
    exact ⟨He.glo_ok KX G (cd.facts (mem_glo (gl_cls hc))), He.mkr_ok (cd.facts (mem_mkr hc)), He.cls_ok (cd.facts (mem_clsF hc)), fun x hx => He.noat_ok (cd.facts (mem_noat hc hx))⟩
  · have hw' : FK.fn w' ∈ L.lents.map (·.key) := by rw [o4]; exact List.mem_map.mpr ⟨w', hw, rfl⟩
    obtain ⟨e, he, hkey⟩ := List.mem_map.mp hw'
    have hkey : e.key = .fn w' := hkey
    have D := L.dfOk (P := P) (w := w) (T := L.T nd K) (fc := fc) hL (mem_lents he) (hE.all e (List.mem_cons_of_mem _ (List.mem_append_left _ he))) KX G cd
    have hdf := L.dfx (K := K) hL (mem_lents he)
    simp only [hkey] at D hdf
    refine ⟨D, ?_⟩
    rw [hdf]
    have hl := List.all_eq_true.mp o3 e he
    unfold lentB at hl
    split at hl
    · rename_i a hps
      simp only [Bool.and_eq_true] at hl
      have ok := hl.2
      unfold okName at ok
      simp only [Bool.and_eq_true, Bool.not_eq_true'] at ok
      exact ⟨a, by show (e.ps.head?.map fun a => (a, 0)) = _; rw [hps]; rfl, hps, rfl, vis_ok hl.1, ok.1, ok.2⟩
    · cases hl
end
/-! ### the head: what the names reach, and the table of the interpreter's own statics -/
def reach (g : Addr → Option Obj) (n : Nat) : List Addr := He.asD g n ++ [cStatics]
def LD.obs (L : LD) (n : Nat) (g : Addr → Option Obj) : He.AlX := (He.obsT L.fa L.fns L.ts (He.frT g (reach g n)), L.ex (He.frT g (reach g n)) && He.tabsB g L.tf (He.frT g (reach g n)))
theorem LD.says {L : LD} {n : Nat} {w : World} {h : Heap} (e : L.obs n h.get? = He.valX L.fns L.ts w) : He.SaysX L.fa L.fns L.ts L.tf L.ex w h (He.frT h.get? (reach h.get? n)) := by
  unfold LD.obs He.valX at e
  generalize hK : He.frT h.get? (reach h.get? n) = K at e
  obtain ⟨e1, e2⟩ := Prod.mk.inj e
  simp only [Bool.and_eq_true] at e2
  have one : ∀ p ∈ L.tf, PySem.W.codeHdIn K (He.cT K p).1 (He.cT K p).2 = true ∧ ∃ o, h.get? (He.cT K p).2 = some o ∧ He.emptyTab o = true := fun p hp => by
    have q := List.all_eq_true.mp e2.2 p hp
    simp only [Bool.and_eq_true] at q
    refine ⟨q.1, ?_⟩
    cases hg : h.get? (He.cT K p).2 with
    | none => rw [hg] at q; exact nomatch q.2
    | some o => rw [hg] at q; exact ⟨o, rfl, q.2⟩
  refine ⟨e1, e2.1, fun p hp => (one p hp).1, fun p hp => ?_, fun p hp => ?_⟩
  · obtain ⟨_, o, h1, h2⟩ := one p hp
    have := He.frT_none (as := reach h.get? n) h1 h2
    rw [hK] at this
    exact this
  · obtain ⟨_, o, h1, h2⟩ := one p hp
    rw [h1, He.emptyTab_eq h2]
def LD.hook (L : LD) (n : Nat) : PySem.W.Hook where
  α := He.AlX
  obs := fun s => L.obs n s.heap.get?
  val := fun w => He.valX L.fns L.ts w
  says := fun w h => ∃ K : PySem.W.Frag, K.In h ∧ He.SaysX L.fa L.fns L.ts L.tf L.ex w h K
  of := fun _ _ e => ⟨_, He.frT_in, L.says e⟩
  keeps := fun _ _ _ ⟨K, hK, c⟩ k => ⟨K, PySem.W.Frag.In.keeps hK k, ⟨c.t, c.more, c.hd, c.out, fun p hp => k _ _ (c.empty p hp)⟩⟩
theorem LD.obs_eq {L : LD} {n : Nat} {g : Addr → Option Obj} {s : Shared} (h : ∀ a, g a = s.heap.get? a) : L.obs n g = (L.hook n).obs s := by
  have e : g = s.heap.get? := funext h
  rw [e] <;> rfl
/-- a law, from its data and the small language's answer -/
theorem LD.holds {l : PySem.W.OpenLaw} {n m mm : Nat} {q : Program} {loose : List Str} {XP : (Str → Option Value) → Heap → Prop} {d : DefRec} {x : Str} {L : LD} {fc fu : Nat} {law : String} (hL : L.okB = true) (hE : EntsOk (L.law :: (L.lents ++ L.ents))) (hX : XisOk L.xi) (nd : L.fl.Nodup)
    (hn : l.most = some n) (hn2 : n ≤ sizeLine) (hdf : d.params.defaults = []) (hr : Room (2 * m + 8) callerA) (hname : d.name = Str.ofString law) (hlaw : L.law.key = .fn law) (hps : L.law.ps = [x])
    (answer : ∀ ns : List Int, ns.length ≤ n → ∃ ps, callN L.sg (L.tab fc) fu (m + 3) (.fn law) [.imm (.list (ns.map PyData.int))] = some (.ret (.imm (.bool true)) ps)) :
    PySem.W.WalkO q loose XP (L.hook mm).says l.row.toRowW d [] (fun f vs => PySem.call f vs) := by
  refine law_end (fc := fc) (T := L.T nd) (g := L.g) (sg := L.sg) (df := L.df) (law := law) (x := x) (cs := L.cs) hn hn2 hdf hr hname (fun w mg h Y G => ?_) answer
  obtain ⟨K, KX, c⟩ := Y
  have mo := LD.mod (P := l.prog) (fc := fc) hL hE hX KX G c nd
  have hm : (⟨L.law, none, L.lam⟩ : EX) ∈ L.all := List.mem_cons_self
  have D := L.dfOk (P := l.prog) (w := w) (T := L.T nd K) (fc := fc) hL hm (hE.all _ List.mem_cons_self) KX G c.t.d
  have e := L.dfx (K := K) hL hm
  simp only [hlaw] at D e
  refine ⟨K, KX, mo, rfl, D, by rw [e]; rfl, by rw [e]; exact hps, fun fd F s u => ?_, fun p hp => ?_, fun p hp => ?_, fun hlm fd F => ?_⟩
  · rw [e] at F
    have b := FunD.bindsA (ps := L.law.ps) F (hE.all _ List.mem_cons_self).bind s [u] (by rw [hps]; rfl)
    rw [hps] at b
    exact b
  · obtain ⟨t, ht, rfl⟩ := List.mem_map.mp hp
    exact ⟨c.empty t ht, c.out t ht, PySem.W.codeHd_of_K KX (c.hd t ht)⟩
  · obtain ⟨t, ht, rfl⟩ := List.mem_map.mp hp
    exact List.mem_map.mpr ⟨t, ht, rfl⟩
  · rw [e] at F hlm ⊢
    have hlm : L.lam = true := hlm
    have htf : L.tf = [L.law.d.at_] := by unfold LD.tf; rw [hlm]; rfl
    have hcs : L.cs K = [He.cT K L.law.d.at_] := by unfold LD.cs; rw [htf]; rfl
    have htb : (L.T nd K).tabs = [((He.cT K L.law.d.at_).2, L.lq)] := by show (L.cs K).map _ = _; rw [hcs]; rfl
    obtain ⟨oc, od, dV, kV, doc, pm, an, cdv, ct, osl, rfl, lk, hcd, _, _⟩ := F.ex
    obtain ⟨c0, rfl⟩ := He.codeIn_ref hcd
    have ec : He.codeOf K L.law.d.at_ = c0 := He.codeOf_eq lk rfl
    refine ⟨c0, (He.cT K L.law.d.at_).2, rfl, ?_, ?_, fun p hp _ => ?_⟩
    · rw [hcs, ← ec]
      exact List.mem_cons_self
    · rw [htb]
      exact List.mem_cons_self
    · rw [htb] at hp
      rw [List.mem_singleton.mp hp]
      rfl
end Iv
set_option linter.all false
set_option maxRecDepth 100000
set_option maxHeartbeats 1000000
/-! Iv26: how the small language's runs are reckoned: rows for simp, loops. -/
namespace Iv
open PySem (PyData Str)
@[simp 3000] theorem ob_some {α β : Type} (a : α) (f : α → Option β) : Option.bind (some a) f = f a := id rfl
@[simp 3000] theorem om_some {α β : Type} (a : α) (f : α → β) : Option.map f (some a) = some (f a) := id rfl
@[simp 3000] theorem obk {α β : Type} (a : α) (ρ : Rho) (f : α → Rho → O β) : O.bind (some (.ok a ρ)) f = f a ρ := id rfl
@[simp 3000] theorem obx {α β : Type} (x : XV) (ρ : Rho) (f : α → Rho → O β) : O.bind (some (.exc x ρ)) f = some (.exc x ρ) := id rfl
@[simp 3000] theorem obn {α β : Type} (f : α → Rho → O β) : O.bind none f = none := id rfl
@[simp 3000] theorem ofok {α : Type} (a : α) (ρ : Rho) (f : α → Rho → Option Out) : Out.ofO (some (.ok a ρ)) f = f a ρ := id rfl
@[simp 3000] theorem ofx {α : Type} (x : XV) (ρ : Rho) (f : α → Rho → Option Out) : Out.ofO (some (.exc x ρ)) f = some (.ex x ρ) := id rfl
@[simp 3000] theorem sqn (ρ : Rho) (f : Rho → Option Out) : Out.seq (some (.nx ρ)) f = f ρ := id rfl
@[simp 3000] theorem sqr (m : M) (ρ : Rho) (f : Rho → Option Out) : Out.seq (some (.rt m ρ)) f = some (.rt m ρ) := id rfl
@[simp 3000] theorem sqb (ρ : Rho) (f : Rho → Option Out) : Out.seq (some (.br ρ)) f = some (.br ρ) := id rfl
@[simp 3000] theorem sqc (ρ : Rho) (f : Rho → Option Out) : Out.seq (some (.ct ρ)) f = some (.ct ρ) := id rfl
@[simp 3000] theorem sqx (x : XV) (ρ : Rho) (f : Rho → Option Out) : Out.seq (some (.ex x ρ)) f = some (.ex x ρ) := id rfl
@[simp] def rv : Ex → Bool
  | .var _ => true
  | _ => false
section
variable (sg : Sig) (cf : CallFn) (pr : List Nat) (fu : Nat) (ρ : Rho)
@[simp] theorem ev_cst (d : D) : eval sg cf (.cst d) ρ = some (.ok (.imm d) ρ) := by rw [eval] <;> rfl
@[simp] theorem ev_var (i : Nat) : eval sg cf (.var i) ρ = copy ρ i := by rw [eval] <;> rfl
@[simp] theorem ev_fld (i f : Nat) : eval sg cf (.fld i f) ρ = copyF ρ i f := by rw [eval] <;> rfl
@[simp] theorem ev_tfl (a : Ex) (f : Nat) : eval sg cf (.tfl a f) ρ = O.bind (eval sg cf a ρ) fun m ρ => match m with
    | .ins _ fs => ofM ρ (lookF fs f)
    | _ => none := by rw [eval] <;> rfl
@[simp] theorem ev_tup (es : List Ex) : eval sg cf (.tup es) ρ = O.bind (evals sg cf es ρ) fun ds ρ => some (.ok (.imm (.tuple ds)) ρ) := by rw [eval] <;> rfl
@[simp] theorem ev_lst (es : List Ex) : eval sg cf (.lst es) ρ = O.bind (evals sg cf es ρ) fun ds ρ => some (.ok (.lst ds) ρ) := by rw [eval] <;> rfl
@[simp] theorem ev_dct (es : List Ex) : eval sg cf (.dct es) ρ = O.bind (evals sg cf es ρ) fun ds ρ => ofM ρ (mkDict ds) := by rw [eval] <;> rfl
@[simp] theorem ev_bin (o : Bop) (a b : Ex) : eval sg cf (.bin o a b) ρ = O.bind (opd a (eval sg cf a) ρ) fun t ρ => O.bind (opd b (eval sg cf b) ρ) fun u ρ => bop o t u ρ := by rw [eval] <;> rfl
@[simp] theorem ev_cmp (o : Cop) (a b : Ex) : eval sg cf (.cmp o a b) ρ = O.bind (opd a (eval sg cf a) ρ) fun t ρ => O.bind (opd b (eval sg cf b) ρ) fun u ρ => ofB ρ (cop o t u ρ) := by rw [eval] <;> rfl
@[simp] theorem ev_chn (o p : Cop) (a b c : Ex) : eval sg cf (.chn o p a b c) ρ = O.bind (opd a (eval sg cf a) ρ) fun t ρ => O.bind (opd b (eval sg cf b) ρ) fun u ρ => match cop o t u ρ with
    | some true => O.bind (opd c (eval sg cf c) ρ) fun v ρ => ofB ρ (cop p u v ρ)
    | some false => some (.ok (.imm (.bool false)) ρ)
    | none => none := by rw [eval] <;> rfl
@[simp] theorem ev_and (a b : Ex) : eval sg cf (.and a b) ρ = O.bind (eval sg cf a ρ) fun m ρ => match truth m with
    | some true => eval sg cf b ρ
    | some false => some (.ok (.imm (.bool false)) ρ)
    | none => none := by rw [eval] <;> rfl
@[simp] theorem ev_or (a b : Ex) : eval sg cf (.or a b) ρ = O.bind (eval sg cf a ρ) fun m ρ => match truth m with
    | some true => some (.ok (.imm (.bool true)) ρ)
    | some false => eval sg cf b ρ
    | none => none := by rw [eval] <;> rfl
@[simp] theorem ev_not (a : Ex) : eval sg cf (.not a) ρ = O.bind (eval sg cf a ρ) fun m ρ => ofB ρ ((truth m).map (!·)) := by rw [eval] <;> rfl
@[simp] theorem ev_ite (c a b : Ex) : eval sg cf (.ite c a b) ρ = O.bind (eval sg cf c ρ) fun m ρ => match truth m with
    | some true => eval sg cf a ρ
    | some false => eval sg cf b ρ
    | none => none := by rw [eval] <;> rfl
@[simp] theorem ev_sub (a b : Ex) : eval sg cf (.sub a b) ρ = O.bind (opd a (eval sg cf a) ρ) fun t ρ => O.bind (opd b (eval sg cf b) ρ) fun u ρ => ofD ρ ((t.look ρ).bind fun x => (u.look ρ).bind fun y => subD x y) := by rw [eval] <;> rfl
@[simp] theorem ev_slc (a lo hi : Ex) : eval sg cf (.slc a lo hi) ρ = O.bind (opd a (eval sg cf a) ρ) fun t ρ => O.bind (eval sg cf lo ρ) fun m ρ => match optInt lo m with
    | none => none
    | some i => O.bind (eval sg cf hi ρ) fun n ρ => match optInt hi n with
      | none => none
      | some j => ofM ρ ((t.look ρ).bind fun x => slcD x i j) := by rw [eval] <;> rfl
@[simp] theorem ev_prm (p : Prm) (es : List Ex) : eval sg cf (.prm p es) ρ = O.bind (opds sg cf es ρ) fun ts ρ => ofM ρ ((lookAll ρ ts).bind (prmD p)) := by rw [eval] <;> rfl
@[simp] theorem ev_bmt (p : Prm) (r : Ex) (es : List Ex) : eval sg cf (.bmt p r es) ρ = O.bind (opd r (eval sg cf r) ρ) fun t ρ => match (t.look ρ).map tyD == some (recv p) with
    | true => O.bind (opds sg cf es ρ) fun ts ρ => ofM ρ ((lookAll ρ (t :: ts)).bind (prmD p))
    | false => none := by rw [eval] <;> rfl
@[simp] theorem ev_cal (f : String) (es : List Ex) : eval sg cf (.cal f es) ρ = O.bind (args sg cf (sg.inpl (.fn f)) 0 es ρ) fun ts ρ => callT cf (.fn f) ts ρ := by rw [eval] <;> rfl
@[simp] theorem ev_mth (r : Ex) (m : String) (es : List Ex) : eval sg cf (.mth r m es) ρ = O.bind (opd r (eval sg cf r) ρ) fun t ρ => match clsOf ρ t with
    | none => none
    | some c => if sg.keys.contains (.mt c m) then O.bind (args sg cf (sg.inpl (.mt c m)) 1 es ρ) fun ts ρ => callT cf (.mt c m) (t :: ts) ρ else none := by rw [eval] <;> rfl
@[simp] theorem ev_new (c : String) (es : List Ex) : eval sg cf (.new c es) ρ = O.bind (args sg cf [] 0 es ρ) fun ts ρ => match lend ρ ts with
    | none => none
    | some (ms, ρ1) => match cf (.mt c "__init__") (.ins c [] :: ms) with
      | some (.ret (.imm .none) (some m :: _)) => some (.ok m ρ1)
      | _ => none := by rw [eval] <;> rfl
@[simp] theorem ev_mut (p : Mut) (i : Nat) (f : Option Nat) (es : List Ex) : eval sg cf (.mut p i f es) ρ = match getP ρ i f with
    | some (.lst _) => O.bind (evals sg cf es ρ) fun ds ρ => (getP ρ i f).bind fun m => (mutD p m ds).bind fun q => (putP ρ i q.1 f).map fun ρ' => .ok (.imm q.2) ρ'
    | _ => none := by rw [eval] <;> rfl
@[simp] theorem ev_lcp (e : Ex) (tg : List Nat) (one : Bool) (it : It) (ifs : List Ex) : eval sg cf (.lcp e tg one it ifs) ρ = O.bind (iter sg cf it ρ) fun ds ρ1 => (lcpL (tests sg cf ifs) (eval sg cf e) tg one ds [] (wipe ρ1 tg)).map fun r => .ok (.lst r.1) (back ρ1 r.2 tg) := by rw [eval] <;> rfl
@[simp] theorem ev_isx (a : Ex) (cs : List String) : eval sg cf (.isx a cs) ρ = O.bind (opd a (eval sg cf a) ρ) fun t ρ => ofB ρ ((xOf ρ t).map fun x => cs.any (subX x.cls)) := by rw [eval] <;> rfl
@[simp] theorem ev_isn (neg : Bool) (a : Ex) : eval sg cf (.isn neg a) ρ = O.bind (opd a (eval sg cf a) ρ) fun t ρ => ofB ρ (isnB neg ρ t) := by rw [eval] <;> rfl
@[simp] theorem ev_lam (w : String) (n : Nat) (caps : List Nat) (cb : Ex) : eval sg cf (.lam w n caps cb) ρ = O.bind (copies ρ caps) fun ds ρ => (if n = ρ.length then match cf (.fn w) [.thk ds n caps cb] with
      | some (.ret m _) => (view m).map fun _ => .ok m ρ
      | _ => none
    else none) := by rw [eval] <;> rfl
@[simp] theorem ev_thc (i : Nat) : eval sg cf (.thc i) ρ = match getS ρ i with
    | some (.thk _ _ _ _) => callT cf .lm [.ref i none] ρ
    | _ => none := by rw [eval] <;> rfl
@[simp] theorem evs_nil : evals sg cf [] ρ = some (.ok [] ρ) := by rw [evals] <;> rfl
@[simp] theorem evs_cons (e : Ex) (es : List Ex) : evals sg cf (e :: es) ρ = O.bind (eval sg cf e ρ) fun m ρ => match view m with
    | some d => O.bind (evals sg cf es ρ) fun ds ρ => some (.ok (d :: ds) ρ)
    | none => none := by rw [evals] <;> rfl
@[simp] theorem ops_nil : opds sg cf [] ρ = some (.ok [] ρ) := by rw [opds] <;> rfl
@[simp] theorem ops_cons (e : Ex) (es : List Ex) : opds sg cf (e :: es) ρ = O.bind (opd e (eval sg cf e) ρ) fun t ρ => O.bind (opds sg cf es ρ) fun ts ρ => some (.ok (t :: ts) ρ) := by rw [opds] <;> rfl
@[simp] theorem ars_nil (rs : List Nat) (j : Nat) : args sg cf rs j [] ρ = some (.ok [] ρ) := by rw [args] <;> rfl
@[simp] theorem ars_cons (rs : List Nat) (j : Nat) (e : Ex) (es : List Ex) : args sg cf rs j (e :: es) ρ = O.bind (arg (rs.contains j) e (eval sg cf e) ρ) fun t ρ => O.bind (args sg cf rs (j + 1) es ρ) fun ts ρ => some (.ok (t :: ts) ρ) := by rw [args] <;> rfl
@[simp] theorem tsts_nil : tests sg cf [] ρ = some (.ok true ρ) := by rw [tests] <;> rfl
@[simp] theorem tsts_cons (e : Ex) (es : List Ex) : tests sg cf (e :: es) ρ = O.bind (oBool (eval sg cf e ρ)) fun b ρ => if b then tests sg cf es ρ else some (.ok false ρ) := by rw [tests] <;> rfl
@[simp] theorem it_val (e : Ex) : iter sg cf (.val e) ρ = O.bind (eval sg cf e ρ) fun m ρ => ((view m).bind itemsD).map fun ds => .ok ds ρ := by rw [iter] <;> rfl
@[simp] theorem it_rng (a : Ex) : iter sg cf (.rng a) ρ = O.bind (eval sg cf a ρ) fun m ρ => (intOf m).bind fun j => if -(2 ^ 62) ≤ j ∧ j < 2 ^ 62 then some (.ok (rngL 0 j) ρ) else none := by rw [iter] <;> rfl
@[simp] theorem it_rng2 (a b : Ex) : iter sg cf (.rng2 a b) ρ = O.bind (eval sg cf a ρ) fun m ρ => O.bind (eval sg cf b ρ) fun n ρ => (intOf m).bind fun i => (intOf n).bind fun j => if -(2 ^ 62) ≤ i ∧ i < 2 ^ 62 ∧ -(2 ^ 62) ≤ j ∧ j < 2 ^ 62 then some (.ok (rngL i j) ρ) else none := by rw [iter] <;> rfl
@[simp] theorem it_enm (es : List Ex) : iter sg cf (.enm es) ρ = O.bind (evals sg cf es ρ) fun ds ρ => (enmD ds).map fun zs => .ok zs ρ := by rw [iter] <;> rfl
@[simp] theorem it_zip (es : List Ex) : iter sg cf (.zip es) ρ = O.bind (evals sg cf es ρ) fun ds ρ => (zipD ds).map fun zs => .ok zs ρ := by rw [iter] <;> rfl
@[simp] theorem ex_asg (i : Nat) (e : Ex) : exec sg cf pr fu (.asg i e) ρ = if pr.contains i then none else Out.ofO (eval sg cf e ρ) fun m ρ => some (.nx (putS ρ i m)) := by rw [exec] <;> rfl
@[simp] theorem ex_mov (i j : Nat) : exec sg cf pr fu (.mov i j) ρ = if pr.contains i || pr.contains j then none else (getS ρ j).map fun m => .nx (putS (ρ.set j none) i m) := by rw [exec] <;> rfl
@[simp] theorem ex_unp (is : List Nat) (e : Ex) : exec sg cf pr fu (.unp is e) ρ = if is.any pr.contains then none else Out.ofO (eval sg cf e ρ) fun m ρ => (view m).bind fun d => (bindT is false d ρ).map .nx := by rw [exec] <;> rfl
@[simp] theorem ex_par (i j : Nat) (a b : Ex) : exec sg cf pr fu (.par i j a b) ρ = if pr.contains i || pr.contains j then none else Out.ofO (evals sg cf [a, b] ρ) fun ds ρ => match ds with
    | [x, y] => some (.nx (putS (putS ρ i (.imm x)) j (.imm y)))
    | _ => none := by rw [exec] <;> rfl
@[simp] theorem ex_par3 (i j l : Nat) (a b c : Ex) : exec sg cf pr fu (.par3 i j l a b c) ρ = if pr.contains i || (pr.contains j || pr.contains l) then none else Out.ofO (evals sg cf [a, b, c] ρ) fun ds ρ => match ds with
    | [x, y, z] => some (.nx (putS (putS (putS ρ i (.imm x)) j (.imm y)) l (.imm z)))
    | _ => none := by rw [exec] <;> rfl
@[simp] theorem ex_sub (i : Nat) (f : Option Nat) (k e : Ex) : exec sg cf pr fu (.sub i f k e) ρ = Out.ofO (eval sg cf e ρ) fun m ρ => match view m, getP ρ i f with
    | some v, some (.lst _) => Out.ofO (eval sg cf k ρ) fun n ρ => (match view n, getP ρ i f with
      | some q, some c => (setD c q v).bind fun c' => (putP ρ i c' f).map .nx
      | _, _ => none)
    | some v, some (.dic _) => Out.ofO (eval sg cf k ρ) fun n ρ => (match view n, getP ρ i f with
      | some q, some c => (setD c q v).bind fun c' => (putP ρ i c' f).map .nx
      | _, _ => none)
    | _, _ => none := by rw [exec] <;> rfl
@[simp] theorem ex_fld (i f : Nat) (e : Ex) : exec sg cf pr fu (.fld i f e) ρ = Out.ofO (eval sg cf e ρ) fun m ρ => (setFld ρ i f m).map .nx := by rw [exec] <;> rfl
@[simp] theorem ex_exp (e : Ex) : exec sg cf pr fu (.exp e) ρ = Out.ofO (eval sg cf e ρ) fun _ ρ => some (.nx ρ) := by rw [exec] <;> rfl
@[simp] theorem ex_retv (i : Nat) : exec sg cf pr fu (.ret (.var i)) ρ = if pr.contains i then Out.ofO (copy ρ i) fun m ρ => some (.rt m ρ) else (getS ρ i).map fun m => .rt m (ρ.set i none) := by rw [exec, ev_var]
@[simp] theorem ex_ret_bad  : exec sg cf pr fu (.ret .bad) ρ = Out.ofO (eval sg cf .bad ρ) fun m ρ => some (.rt m ρ) := by rw [exec]; intro i hi; cases hi
@[simp] theorem ex_ret_cst (d : D) : exec sg cf pr fu (.ret (.cst d)) ρ = Out.ofO (eval sg cf (.cst d) ρ) fun m ρ => some (.rt m ρ) := by rw [exec]; intro i hi; cases hi
@[simp] theorem ex_ret_fld (i f : Nat) : exec sg cf pr fu (.ret (.fld i f)) ρ = Out.ofO (eval sg cf (.fld i f) ρ) fun m ρ => some (.rt m ρ) := by rw [exec]; intro i hi; cases hi
@[simp] theorem ex_ret_tfl (a : Ex) (f : Nat) : exec sg cf pr fu (.ret (.tfl a f)) ρ = Out.ofO (eval sg cf (.tfl a f) ρ) fun m ρ => some (.rt m ρ) := by rw [exec]; intro i hi; cases hi
@[simp] theorem ex_ret_tup (es : List Ex) : exec sg cf pr fu (.ret (.tup es)) ρ = Out.ofO (eval sg cf (.tup es) ρ) fun m ρ => some (.rt m ρ) := by rw [exec]; intro i hi; cases hi
@[simp] theorem ex_ret_lst (es : List Ex) : exec sg cf pr fu (.ret (.lst es)) ρ = Out.ofO (eval sg cf (.lst es) ρ) fun m ρ => some (.rt m ρ) := by rw [exec]; intro i hi; cases hi
@[simp] theorem ex_ret_dct (es : List Ex) : exec sg cf pr fu (.ret (.dct es)) ρ = Out.ofO (eval sg cf (.dct es) ρ) fun m ρ => some (.rt m ρ) := by rw [exec]; intro i hi; cases hi
@[simp] theorem ex_ret_bin (o : Bop) (a b : Ex) : exec sg cf pr fu (.ret (.bin o a b)) ρ = Out.ofO (eval sg cf (.bin o a b) ρ) fun m ρ => some (.rt m ρ) := by rw [exec]; intro i hi; cases hi
@[simp] theorem ex_ret_cmp (o : Cop) (a b : Ex) : exec sg cf pr fu (.ret (.cmp o a b)) ρ = Out.ofO (eval sg cf (.cmp o a b) ρ) fun m ρ => some (.rt m ρ) := by rw [exec]; intro i hi; cases hi
@[simp] theorem ex_ret_chn (o p : Cop) (a b c : Ex) : exec sg cf pr fu (.ret (.chn o p a b c)) ρ = Out.ofO (eval sg cf (.chn o p a b c) ρ) fun m ρ => some (.rt m ρ) := by rw [exec]; intro i hi; cases hi
@[simp] theorem ex_ret_and (a b : Ex) : exec sg cf pr fu (.ret (.and a b)) ρ = Out.ofO (eval sg cf (.and a b) ρ) fun m ρ => some (.rt m ρ) := by rw [exec]; intro i hi; cases hi
@[simp] theorem ex_ret_or (a b : Ex) : exec sg cf pr fu (.ret (.or a b)) ρ = Out.ofO (eval sg cf (.or a b) ρ) fun m ρ => some (.rt m ρ) := by rw [exec]; intro i hi; cases hi
@[simp] theorem ex_ret_not (a : Ex) : exec sg cf pr fu (.ret (.not a)) ρ = Out.ofO (eval sg cf (.not a) ρ) fun m ρ => some (.rt m ρ) := by rw [exec]; intro i hi; cases hi
@[simp] theorem ex_ret_ite (c a b : Ex) : exec sg cf pr fu (.ret (.ite c a b)) ρ = Out.ofO (eval sg cf (.ite c a b) ρ) fun m ρ => some (.rt m ρ) := by rw [exec]; intro i hi; cases hi
@[simp] theorem ex_ret_sub (a b : Ex) : exec sg cf pr fu (.ret (.sub a b)) ρ = Out.ofO (eval sg cf (.sub a b) ρ) fun m ρ => some (.rt m ρ) := by rw [exec]; intro i hi; cases hi
@[simp] theorem ex_ret_slc (a b c : Ex) : exec sg cf pr fu (.ret (.slc a b c)) ρ = Out.ofO (eval sg cf (.slc a b c) ρ) fun m ρ => some (.rt m ρ) := by rw [exec]; intro i hi; cases hi
@[simp] theorem ex_ret_prm (p : Prm) (es : List Ex) : exec sg cf pr fu (.ret (.prm p es)) ρ = Out.ofO (eval sg cf (.prm p es) ρ) fun m ρ => some (.rt m ρ) := by rw [exec]; intro i hi; cases hi
@[simp] theorem ex_ret_bmt (p : Prm) (r : Ex) (es : List Ex) : exec sg cf pr fu (.ret (.bmt p r es)) ρ = Out.ofO (eval sg cf (.bmt p r es) ρ) fun m ρ => some (.rt m ρ) := by rw [exec]; intro i hi; cases hi
@[simp] theorem ex_ret_cal (f : String) (es : List Ex) : exec sg cf pr fu (.ret (.cal f es)) ρ = Out.ofO (eval sg cf (.cal f es) ρ) fun m ρ => some (.rt m ρ) := by rw [exec]; intro i hi; cases hi
@[simp] theorem ex_ret_mth (r : Ex) (m : String) (es : List Ex) : exec sg cf pr fu (.ret (.mth r m es)) ρ = Out.ofO (eval sg cf (.mth r m es) ρ) fun m ρ => some (.rt m ρ) := by rw [exec]; intro i hi; cases hi
@[simp] theorem ex_ret_new (c : String) (es : List Ex) : exec sg cf pr fu (.ret (.new c es)) ρ = Out.ofO (eval sg cf (.new c es) ρ) fun m ρ => some (.rt m ρ) := by rw [exec]; intro i hi; cases hi
@[simp] theorem ex_ret_mut (p : Mut) (i : Nat) (f : Option Nat) (es : List Ex) : exec sg cf pr fu (.ret (.mut p i f es)) ρ = Out.ofO (eval sg cf (.mut p i f es) ρ) fun m ρ => some (.rt m ρ) := by rw [exec]; intro i hi; cases hi
@[simp] theorem ex_ret_lcp (e : Ex) (tg : List Nat) (one : Bool) (it : It) (ifs : List Ex) : exec sg cf pr fu (.ret (.lcp e tg one it ifs)) ρ = Out.ofO (eval sg cf (.lcp e tg one it ifs) ρ) fun m ρ => some (.rt m ρ) := by rw [exec]; intro i hi; cases hi
@[simp] theorem ex_ret_isx (a : Ex) (cs : List String) : exec sg cf pr fu (.ret (.isx a cs)) ρ = Out.ofO (eval sg cf (.isx a cs) ρ) fun m ρ => some (.rt m ρ) := by rw [exec]; intro i h; cases h
@[simp] theorem ex_ret_isn (neg : Bool) (a : Ex) : exec sg cf pr fu (.ret (.isn neg a)) ρ = Out.ofO (eval sg cf (.isn neg a) ρ) fun m ρ => some (.rt m ρ) := by rw [exec]; intro i h; cases h
@[simp] theorem ex_ret_lam (w : String) (n : Nat) (caps : List Nat) (cb : Ex) : exec sg cf pr fu (.ret (.lam w n caps cb)) ρ = Out.ofO (eval sg cf (.lam w n caps cb) ρ) fun m ρ => some (.rt m ρ) := by rw [exec]; intro i h; cases h
@[simp] theorem ex_ret_thc (i : Nat) : exec sg cf pr fu (.ret (.thc i)) ρ = Out.ofO (eval sg cf (.thc i) ρ) fun m ρ => some (.rt m ρ) := by rw [exec]; intro i h; cases h
@[simp] theorem ex_rse (c : String) (own : Bool) (e : Ex) : exec sg cf pr fu (.rse c own e) ρ = Out.ofO (eval sg cf e ρ) fun m ρ => (view m).bind fun d => if isFlat d then some (.ex ⟨c, if own then d else .none⟩ ρ) else none := by rw [exec] <;> rfl
@[simp] theorem ex_tr (b : List Sm) (c : String) (i : Option Nat) (h : Hd) : exec sg cf pr fu (.tr b c i h) ρ = match execs sg cf pr fu b ρ with
    | some (.ex x ρ1) => if subX x.cls c then hdl pr i h x ρ1 else some (.ex x ρ1)
    | o => o := by rw [exec] <;> rfl
@[simp] theorem ex_ite (c : Ex) (a b : List Sm) : exec sg cf pr fu (.ite c a b) ρ = Out.ofO (oBool (eval sg cf c ρ)) fun t ρ => if t then execs sg cf pr fu a ρ else execs sg cf pr fu b ρ := by rw [exec] <;> rfl
@[simp] theorem ex_fo (tg : List Nat) (one : Bool) (it : It) (b : List Sm) : exec sg cf pr fu (.fo tg one it b) ρ = if tg.any pr.contains then none else Out.ofO (iter sg cf it ρ) fun ds ρ => forL (execs sg cf pr fu b) tg one ds ρ := by rw [exec] <;> rfl
@[simp] theorem ex_whl (c : Ex) (b : List Sm) : exec sg cf pr fu (.whl c b) ρ = whlL (fun ρ => oBool (eval sg cf c ρ)) (execs sg cf pr fu b) fu ρ := by rw [exec] <;> rfl
@[simp] theorem ex_brk : exec sg cf pr fu .brk ρ = some (.br ρ) := by rw [exec] <;> rfl
@[simp] theorem ex_cnt : exec sg cf pr fu .cnt ρ = some (.ct ρ) := by rw [exec] <;> rfl
@[simp] theorem ex_pas : exec sg cf pr fu .pas ρ = some (.nx ρ) := by rw [exec] <;> rfl
@[simp] theorem ex_aug (i : Nat) (o : Bop) (e : Ex) : exec sg cf pr fu (.aug i o e) ρ = if pr.contains i || (getS ρ i).isNone then none else Out.ofO (eval sg cf e ρ) fun m ρ => match view m, getS ρ i with
    | some d, some c => (augD o c d).map fun c' => .nx (putS ρ i c')
    | _, _ => none := by rw [exec] <;> rfl
@[simp] theorem exs_nil : execs sg cf pr fu [] ρ = some (.nx ρ) := by rw [execs] <;> rfl
@[simp] theorem exs_cons (s : Sm) (r : List Sm) : execs sg cf pr fu (s :: r) ρ = Out.seq (exec sg cf pr fu s ρ) (execs sg cf pr fu r) := by rw [execs] <;> rfl
end
/-! ### slots -/
section
variable (ρ : Rho) (x : Option M)
@[simp] theorem getS_zero : getS (x :: ρ) 0 = x := by cases x <;> rfl
@[simp] theorem getS_succ (n : Nat) : getS (x :: ρ) (n + 1) = getS ρ n := by unfold getS; rw [List.getElem?_cons_succ]
@[simp] theorem putS_zero (m : M) : putS (x :: ρ) 0 m = some m :: ρ := id rfl
@[simp] theorem putS_succ (n : Nat) (m : M) : putS (x :: ρ) (n + 1) m = x :: putS ρ n m := id rfl
end
section
variable (ρ : Rho)
@[simp] theorem setN_zero (x : Option M) (y : Option M) : List.set (x :: ρ) 0 y = y :: ρ := id rfl
@[simp] theorem vw_imm (d : D) : view (.imm d) = some d := id rfl
@[simp] theorem vw_lst (xs : List D) : view (.lst xs) = some (.list xs) := id rfl
@[simp] theorem vw_dic (xs : List (D × D)) : view (.dic xs) = some (.dict xs) := id rfl
@[simp] theorem lk_val (m : M) : (Tmp.val m).look ρ = view m := id rfl
@[simp] theorem lk_ref (i : Nat) (f : Option Nat) : (Tmp.ref i f).look ρ = (getP ρ i f).bind view := id rfl
@[simp] theorem gp_none (i : Nat) : getP ρ i none = getS ρ i := id rfl
@[simp] theorem gp_some (i f : Nat) : getP ρ i (some f) = match getS ρ i with
    | some (.ins _ fs) => lookF fs f
    | _ => none := id rfl
@[simp] theorem pp_none (i : Nat) (m : M) : putP ρ i m none = some (putS ρ i m) := id rfl
@[simp] theorem pp_some (i f : Nat) (m : M) : putP ρ i m (some f) = match getS ρ i with
    | some (.ins c fs) => some (putS ρ i (.ins c (setF f m fs)))
    | _ => none := id rfl
@[simp] theorem la_nil : lookAll ρ [] = some [] := id rfl
@[simp] theorem la_cons (t : Tmp) (r : List Tmp) : lookAll ρ (t :: r) = (t.look ρ).bind fun d => (lookAll ρ r).map (d :: ·) := id rfl
@[simp] theorem op_var (i : Nat) (ev : Rho → O M) : opd (.var i) ev ρ = match getS ρ i with
    | some _ => some (.ok (.ref i none) ρ)
    | none => none := id rfl
@[simp] theorem op_fld (i f : Nat) (ev : Rho → O M) : opd (.fld i f) ev ρ = match getP ρ i (some f) with
    | some (.imm d) => some (.ok (.val (.imm d)) ρ)
    | some (.lst _) => some (.ok (.ref i (some f)) ρ)
    | some (.dic _) => some (.ok (.ref i (some f)) ρ)
    | _ => none := id rfl
@[simp] theorem op_bad  (ev : Rho → O M) : opd .bad ev ρ = O.bind (ev ρ) fun m ρ => some (.ok (.val m) ρ) := id rfl
@[simp] theorem op_cst (d : D) (ev : Rho → O M) : opd (.cst d) ev ρ = O.bind (ev ρ) fun m ρ => some (.ok (.val m) ρ) := id rfl
@[simp] theorem op_tfl (a : Ex) (f : Nat) (ev : Rho → O M) : opd (.tfl a f) ev ρ = O.bind (ev ρ) fun m ρ => some (.ok (.val m) ρ) := id rfl
@[simp] theorem op_tup (es : List Ex) (ev : Rho → O M) : opd (.tup es) ev ρ = O.bind (ev ρ) fun m ρ => some (.ok (.val m) ρ) := id rfl
@[simp] theorem op_lst (es : List Ex) (ev : Rho → O M) : opd (.lst es) ev ρ = O.bind (ev ρ) fun m ρ => some (.ok (.val m) ρ) := id rfl
@[simp] theorem op_dct (es : List Ex) (ev : Rho → O M) : opd (.dct es) ev ρ = O.bind (ev ρ) fun m ρ => some (.ok (.val m) ρ) := id rfl
@[simp] theorem op_bin (o : Bop) (a b : Ex) (ev : Rho → O M) : opd (.bin o a b) ev ρ = O.bind (ev ρ) fun m ρ => some (.ok (.val m) ρ) := id rfl
@[simp] theorem op_cmp (o : Cop) (a b : Ex) (ev : Rho → O M) : opd (.cmp o a b) ev ρ = O.bind (ev ρ) fun m ρ => some (.ok (.val m) ρ) := id rfl
@[simp] theorem op_chn (o p : Cop) (a b c : Ex) (ev : Rho → O M) : opd (.chn o p a b c) ev ρ = O.bind (ev ρ) fun m ρ => some (.ok (.val m) ρ) := id rfl
@[simp] theorem op_and (a b : Ex) (ev : Rho → O M) : opd (.and a b) ev ρ = O.bind (ev ρ) fun m ρ => some (.ok (.val m) ρ) := id rfl
@[simp] theorem op_or (a b : Ex) (ev : Rho → O M) : opd (.or a b) ev ρ = O.bind (ev ρ) fun m ρ => some (.ok (.val m) ρ) := id rfl
@[simp] theorem op_not (a : Ex) (ev : Rho → O M) : opd (.not a) ev ρ = O.bind (ev ρ) fun m ρ => some (.ok (.val m) ρ) := id rfl
@[simp] theorem op_ite (c a b : Ex) (ev : Rho → O M) : opd (.ite c a b) ev ρ = O.bind (ev ρ) fun m ρ => some (.ok (.val m) ρ) := id rfl
@[simp] theorem op_sub (a b : Ex) (ev : Rho → O M) : opd (.sub a b) ev ρ = O.bind (ev ρ) fun m ρ => some (.ok (.val m) ρ) := id rfl
@[simp] theorem op_slc (a b c : Ex) (ev : Rho → O M) : opd (.slc a b c) ev ρ = O.bind (ev ρ) fun m ρ => some (.ok (.val m) ρ) := id rfl
@[simp] theorem op_prm (p : Prm) (es : List Ex) (ev : Rho → O M) : opd (.prm p es) ev ρ = O.bind (ev ρ) fun m ρ => some (.ok (.val m) ρ) := id rfl
@[simp] theorem op_bmt (p : Prm) (r : Ex) (es : List Ex) (ev : Rho → O M) : opd (.bmt p r es) ev ρ = O.bind (ev ρ) fun m ρ => some (.ok (.val m) ρ) := id rfl
@[simp] theorem op_cal (f : String) (es : List Ex) (ev : Rho → O M) : opd (.cal f es) ev ρ = O.bind (ev ρ) fun m ρ => some (.ok (.val m) ρ) := id rfl
@[simp] theorem op_mth (r : Ex) (m : String) (es : List Ex) (ev : Rho → O M) : opd (.mth r m es) ev ρ = O.bind (ev ρ) fun m ρ => some (.ok (.val m) ρ) := id rfl
@[simp] theorem op_new (c : String) (es : List Ex) (ev : Rho → O M) : opd (.new c es) ev ρ = O.bind (ev ρ) fun m ρ => some (.ok (.val m) ρ) := id rfl
@[simp] theorem op_mut (p : Mut) (i : Nat) (f : Option Nat) (es : List Ex) (ev : Rho → O M) : opd (.mut p i f es) ev ρ = O.bind (ev ρ) fun m ρ => some (.ok (.val m) ρ) := id rfl
@[simp] theorem op_lcp (e : Ex) (tg : List Nat) (one : Bool) (it : It) (ifs : List Ex) (ev : Rho → O M) : opd (.lcp e tg one it ifs) ev ρ = O.bind (ev ρ) fun m ρ => some (.ok (.val m) ρ) := id rfl
@[simp] theorem opR_isx (a : Ex) (cs : List String) (ev : Rho → O M) : opd (.isx a cs) ev ρ = O.bind (ev ρ) fun m ρ => some (.ok (.val m) ρ) := id rfl
@[simp] theorem ar_isx (bb : Bool) (a : Ex) (cs : List String) (ev : Rho → O M) : arg bb (.isx a cs) ev ρ = O.bind (ev ρ) fun m ρ => some (.ok (.val m) ρ) := id rfl
@[simp] theorem opR_isn (neg : Bool) (a : Ex) (ev : Rho → O M) : opd (.isn neg a) ev ρ = O.bind (ev ρ) fun m ρ => some (.ok (.val m) ρ) := id rfl
@[simp] theorem ar_isn (bb : Bool) (neg : Bool) (a : Ex) (ev : Rho → O M) : arg bb (.isn neg a) ev ρ = O.bind (ev ρ) fun m ρ => some (.ok (.val m) ρ) := id rfl
@[simp] theorem opR_lam (w : String) (n : Nat) (caps : List Nat) (cb : Ex) (ev : Rho → O M) : opd (.lam w n caps cb) ev ρ = O.bind (ev ρ) fun m ρ => some (.ok (.val m) ρ) := id rfl
@[simp] theorem ar_lam (bb : Bool) (w : String) (n : Nat) (caps : List Nat) (cb : Ex) (ev : Rho → O M) : arg bb (.lam w n caps cb) ev ρ = O.bind (ev ρ) fun m ρ => some (.ok (.val m) ρ) := id rfl
@[simp] theorem opR_thc (i : Nat) (ev : Rho → O M) : opd (.thc i) ev ρ = O.bind (ev ρ) fun m ρ => some (.ok (.val m) ρ) := id rfl
@[simp] theorem ar_thc (bb : Bool) (i : Nat) (ev : Rho → O M) : arg bb (.thc i) ev ρ = O.bind (ev ρ) fun m ρ => some (.ok (.val m) ρ) := id rfl
@[simp] theorem ar_varT (i : Nat) (ev : Rho → O M) : arg true (.var i) ev ρ = match getS ρ i with
    | some _ => some (.ok (.ref i none) ρ)
    | none => none := id rfl
@[simp] theorem ar_varF (i : Nat) (ev : Rho → O M) : arg false (.var i) ev ρ = O.bind (ev ρ) fun m ρ => some (.ok (.val m) ρ) := id rfl
@[simp] theorem ar_bad (bb : Bool)  (ev : Rho → O M) : arg bb .bad ev ρ = O.bind (ev ρ) fun m ρ => some (.ok (.val m) ρ) := id rfl
@[simp] theorem ar_cst (bb : Bool) (d : D) (ev : Rho → O M) : arg bb (.cst d) ev ρ = O.bind (ev ρ) fun m ρ => some (.ok (.val m) ρ) := id rfl
@[simp] theorem ar_tfl (bb : Bool) (a : Ex) (f : Nat) (ev : Rho → O M) : arg bb (.tfl a f) ev ρ = O.bind (ev ρ) fun m ρ => some (.ok (.val m) ρ) := id rfl
@[simp] theorem ar_tup (bb : Bool) (es : List Ex) (ev : Rho → O M) : arg bb (.tup es) ev ρ = O.bind (ev ρ) fun m ρ => some (.ok (.val m) ρ) := id rfl
@[simp] theorem ar_lst (bb : Bool) (es : List Ex) (ev : Rho → O M) : arg bb (.lst es) ev ρ = O.bind (ev ρ) fun m ρ => some (.ok (.val m) ρ) := id rfl
@[simp] theorem ar_dct (bb : Bool) (es : List Ex) (ev : Rho → O M) : arg bb (.dct es) ev ρ = O.bind (ev ρ) fun m ρ => some (.ok (.val m) ρ) := id rfl
@[simp] theorem ar_bin (bb : Bool) (o : Bop) (a b : Ex) (ev : Rho → O M) : arg bb (.bin o a b) ev ρ = O.bind (ev ρ) fun m ρ => some (.ok (.val m) ρ) := id rfl
@[simp] theorem ar_cmp (bb : Bool) (o : Cop) (a b : Ex) (ev : Rho → O M) : arg bb (.cmp o a b) ev ρ = O.bind (ev ρ) fun m ρ => some (.ok (.val m) ρ) := id rfl
@[simp] theorem ar_chn (bb : Bool) (o p : Cop) (a b c : Ex) (ev : Rho → O M) : arg bb (.chn o p a b c) ev ρ = O.bind (ev ρ) fun m ρ => some (.ok (.val m) ρ) := id rfl
@[simp] theorem ar_and (bb : Bool) (a b : Ex) (ev : Rho → O M) : arg bb (.and a b) ev ρ = O.bind (ev ρ) fun m ρ => some (.ok (.val m) ρ) := id rfl
@[simp] theorem ar_or (bb : Bool) (a b : Ex) (ev : Rho → O M) : arg bb (.or a b) ev ρ = O.bind (ev ρ) fun m ρ => some (.ok (.val m) ρ) := id rfl
@[simp] theorem ar_not (bb : Bool) (a : Ex) (ev : Rho → O M) : arg bb (.not a) ev ρ = O.bind (ev ρ) fun m ρ => some (.ok (.val m) ρ) := id rfl
@[simp] theorem ar_ite (bb : Bool) (c a b : Ex) (ev : Rho → O M) : arg bb (.ite c a b) ev ρ = O.bind (ev ρ) fun m ρ => some (.ok (.val m) ρ) := id rfl
@[simp] theorem ar_sub (bb : Bool) (a b : Ex) (ev : Rho → O M) : arg bb (.sub a b) ev ρ = O.bind (ev ρ) fun m ρ => some (.ok (.val m) ρ) := id rfl
@[simp] theorem ar_slc (bb : Bool) (a b c : Ex) (ev : Rho → O M) : arg bb (.slc a b c) ev ρ = O.bind (ev ρ) fun m ρ => some (.ok (.val m) ρ) := id rfl
@[simp] theorem ar_prm (bb : Bool) (p : Prm) (es : List Ex) (ev : Rho → O M) : arg bb (.prm p es) ev ρ = O.bind (ev ρ) fun m ρ => some (.ok (.val m) ρ) := id rfl
@[simp] theorem ar_bmt (bb : Bool) (p : Prm) (r : Ex) (es : List Ex) (ev : Rho → O M) : arg bb (.bmt p r es) ev ρ = O.bind (ev ρ) fun m ρ => some (.ok (.val m) ρ) := id rfl
@[simp] theorem ar_cal (bb : Bool) (f : String) (es : List Ex) (ev : Rho → O M) : arg bb (.cal f es) ev ρ = O.bind (ev ρ) fun m ρ => some (.ok (.val m) ρ) := id rfl
@[simp] theorem ar_mth (bb : Bool) (r : Ex) (m : String) (es : List Ex) (ev : Rho → O M) : arg bb (.mth r m es) ev ρ = O.bind (ev ρ) fun m ρ => some (.ok (.val m) ρ) := id rfl
@[simp] theorem ar_new (bb : Bool) (c : String) (es : List Ex) (ev : Rho → O M) : arg bb (.new c es) ev ρ = O.bind (ev ρ) fun m ρ => some (.ok (.val m) ρ) := id rfl
@[simp] theorem ar_mut (bb : Bool) (p : Mut) (i : Nat) (f : Option Nat) (es : List Ex) (ev : Rho → O M) : arg bb (.mut p i f es) ev ρ = O.bind (ev ρ) fun m ρ => some (.ok (.val m) ρ) := id rfl
@[simp] theorem ar_lcp (bb : Bool) (e : Ex) (tg : List Nat) (one : Bool) (it : It) (ifs : List Ex) (ev : Rho → O M) : arg bb (.lcp e tg one it ifs) ev ρ = O.bind (ev ρ) fun m ρ => some (.ok (.val m) ρ) := id rfl
@[simp] theorem ar_fld (bb : Bool) (i f : Nat) (ev : Rho → O M) : arg bb (.fld i f) ev ρ = O.bind (ev ρ) fun m ρ => some (.ok (.val m) ρ) := id rfl
@[simp] theorem ofM_some (m : M) : ofM ρ (some m) = some (.ok m ρ) := id rfl
@[simp] theorem ofD_some (d : D) : ofD ρ (some d) = some (.ok (.imm d) ρ) := id rfl
@[simp] theorem ofB_some (b : Bool) : ofB ρ (some b) = some (.ok (.imm (.bool b)) ρ) := id rfl
@[simp] theorem tr_bool (b : Bool) : truth (.imm (.bool b)) = some b := id rfl
@[simp] theorem oB_ok (b : Bool) : oBool (some (.ok (.imm (.bool b)) ρ)) = some (.ok b ρ) := id rfl
@[simp] theorem bop_eq (o : Bop) (t u : Tmp) : bop o t u ρ = ofM ρ ((t.look ρ).bind fun a => (u.look ρ).bind fun b => bopD o a b) := id rfl
@[simp] theorem cop_eq' (o : Cop) (t u : Tmp) : cop o t u ρ = (t.look ρ).bind fun a => (u.look ρ).bind fun b => copD o a b := id rfl
@[simp] theorem int_int (i : Int) : intOf (.imm (.int i)) = some i := id rfl
@[simp] theorem lend_nil : lend ρ [] = some ([], ρ) := id rfl
@[simp] theorem lend_val (m : M) (r : List Tmp) : lend ρ (.val m :: r) = (lend ρ r).map fun p => (m :: p.1, p.2) := id rfl
@[simp] theorem lend_ref (i : Nat) (r : List Tmp) : lend ρ (.ref i none :: r) = (getS ρ i).bind fun m => (lend (ρ.set i none) r).map fun p => (m :: p.1, p.2) := id rfl
@[simp] theorem give_nil (ps : List (Option M)) : giveBack ρ [] ps = ρ := by cases ps <;> rfl
@[simp] theorem give_val (m : M) (r : List Tmp) (p : Option M) (ps : List (Option M)) : giveBack ρ (.val m :: r) (p :: ps) = giveBack ρ r ps := id rfl
@[simp] theorem give_ref (i : Nat) (r : List Tmp) (p : Option M) (ps : List (Option M)) : giveBack ρ (.ref i none :: r) (p :: ps) = giveBack (ρ.set i p) r ps := id rfl
@[simp] theorem fin_ret (ts : List Tmp) (m : M) (ps : List (Option M)) : finish ρ ts (some (.ret m ps)) = some (.ok m (giveBack ρ ts ps)) := id rfl
@[simp] theorem fin_exc (ts : List Tmp) (x : XV) (ps : List (Option M)) : finish ρ ts (some (.exc x ps)) = some (.exc x (giveBack ρ ts ps)) := id rfl
@[simp] theorem callT_eq (cf : CallFn) (f : FK) (ts : List Tmp) : callT cf f ts ρ = match lend ρ ts with
    | none => none
    | some (ms, ρ1) => finish ρ1 ts (cf f ms) := id rfl
@[simp] theorem cls_val (c : String) (fs : List (Nat × M)) : clsOf ρ (.val (.ins c fs)) = some c := id rfl
@[simp] theorem cls_ref (i : Nat) : clsOf ρ (.ref i none) = match getS ρ i with
    | some (.ins c _) => some c
    | _ => none := id rfl
theorem copy_imm {i : Nat} {d : D} (h : getS ρ i = some (.imm d)) : copy ρ i = some (.ok (.imm d) ρ) := by unfold copy; rw [h]
@[simp] theorem copy_eq (i : Nat) : copy ρ i = match getS ρ i with
    | some (.imm d) => some (.ok (.imm d) ρ)
    | some (.exc x) => some (.ok (.exc x) ρ)
    | some m => (view m).map fun d => .ok (.imm d) (putS ρ i (.imm d))
    | none => none := id rfl
@[simp] theorem cps_nil : copies ρ [] = some (.ok [] ρ) := id rfl
@[simp] theorem cps_cons (i : Nat) (is : List Nat) : copies ρ (i :: is) = O.bind (copy ρ i) fun m ρ => match view m with
    | some d => O.bind (copies ρ is) fun ds ρ => some (.ok (d :: ds) ρ)
    | none => none := id rfl
@[simp] theorem xo_exc (x : XV) : xOf ρ (.val (.exc x)) = some x := id rfl
@[simp] theorem xo_ref (i : Nat) : xOf ρ (.ref i none) = match getS ρ i with
    | some (.exc x) => some x
    | _ => none := id rfl
@[simp] theorem xo_imm (d : D) : xOf ρ (.val (.imm d)) = none := id rfl
@[simp] theorem xo_lst (d : List D) : xOf ρ (.val (.lst d)) = none := id rfl
@[simp] theorem xo_dic (d : List (D × D)) : xOf ρ (.val (.dic d)) = none := id rfl
@[simp] theorem isnB_eq (neg : Bool) (t : Tmp) : isnB neg ρ t = match xOf ρ t with
    | some _ => some neg
    | none => (t.look ρ).map fun d => isNoneD d != neg := id rfl
@[simp] theorem gone_none : gone ρ none = ρ := id rfl
@[simp] theorem gone_some (i : Nat) : gone ρ (some i) = ρ.set i none := id rfl
theorem hdl_eq (pr : List Nat) (i : Option Nat) (h : Hd) (x : XV) : hdl pr i h x ρ = if i.any (fun i => pr.contains i || decide (ρ.length ≤ i)) then none else match h with
    | .keep j => if pr.contains j || i == some j || i.isNone then none else some (.nx (gone (putS ρ j (.exc x)) i))
    | .set j d => if pr.contains j || i == some j then none else some (.nx (gone (putS ρ j (.imm d)) i))
    | .ret d => some (.rt (.imm d) (gone ρ i)) := id rfl
@[simp] theorem ndN : isNoneD .none = true := id rfl
@[simp] theorem ndB (b : Bool) : isNoneD (.bool b) = false := id rfl
@[simp] theorem ndI (b : Int) : isNoneD (.int b) = false := id rfl
@[simp] theorem ndS (b : Str) : isNoneD (.str b) = false := id rfl
@[simp] theorem ndT (b : List D) : isNoneD (.tuple b) = false := id rfl
@[simp] theorem ndL (b : List D) : isNoneD (.list b) = false := id rfl
@[simp] theorem ndD (b : List (D × D)) : isNoneD (.dict b) = false := id rfl
@[simp] theorem copyF_eq (i f : Nat) : copyF ρ i f = match getP ρ i (some f) with
    | some (.imm d) => some (.ok (.imm d) ρ)
    | _ => none := id rfl
@[simp] theorem wipe_nil : wipe ρ [] = ρ := id rfl
@[simp] theorem wipe_cons (v : Nat) (vs : List Nat) : wipe ρ (v :: vs) = (wipe ρ vs).set v none := id rfl
@[simp] theorem back_nil' (ρ0 : Rho) : back ρ0 ρ [] = ρ := id rfl
@[simp] theorem back_cons' (ρ0 : Rho) (v : Nat) (vs : List Nat) : back ρ0 ρ (v :: vs) = back ρ0 (ρ.set v (getS (wipe ρ0 vs) v)) vs := id rfl
@[simp] theorem pm_nil (ds : List D) : putMany ρ [] ds = ρ := by cases ds <;> rfl
@[simp] theorem pm_cons (i : Nat) (is : List Nat) (d : D) (ds : List D) : putMany ρ (i :: is) (d :: ds) = putMany (putS ρ i (.imm d)) is ds := id rfl
@[simp] theorem bt_one (i : Nat) (d : D) : bindT [i] true d ρ = some (putS ρ i (.imm d)) := id rfl
@[simp] theorem bt_tup (tg : List Nat) (xs : List D) : bindT tg false (.tuple xs) ρ = if xs.length = tg.length then some (putMany ρ tg xs) else none := id rfl
@[simp] theorem bt_lst (tg : List Nat) (xs : List D) : bindT tg false (.list xs) ρ = if xs.length = tg.length then some (putMany ρ tg xs) else none := id rfl
@[simp] theorem keepP_nil (n : Nat) : keepP [] ρ n = List.replicate n none := by
  unfold keepP
  induction n with
  | zero => rfl
  | succ n ih => rw [List.range_succ, List.map_append, ih, List.replicate_succ']; rfl
@[simp] theorem keepP_0_1 : keepP [0] ρ 1 = [getS ρ 0] := id rfl
@[simp] theorem keepP_0_2 : keepP [0] ρ 2 = [getS ρ 0, none] := id rfl
@[simp] theorem keepP_0_3 : keepP [0] ρ 3 = [getS ρ 0, none, none] := id rfl
@[simp] theorem keepP_0_4 : keepP [0] ρ 4 = [getS ρ 0, none, none, none] := id rfl
@[simp] theorem keepP_0_5 : keepP [0] ρ 5 = [getS ρ 0, none, none, none, none] := id rfl
end
/-! ### operators -/
@[simp] theorem bo_addI (i j : Int) : bopD .add (.int i) (.int j) = some (.imm (.int (i + j))) := id rfl
@[simp] theorem bo_addS (x y : Str) : bopD .add (.str x) (.str y) = if x.length + y.length ≤ line then some (.imm (.str (x ++ y))) else none := id rfl
@[simp] theorem bo_addT (xs ys : List D) : bopD .add (.tuple xs) (.tuple ys) = if xs.length + ys.length ≤ line then some (.imm (.tuple (xs ++ ys))) else none := id rfl
@[simp] theorem bo_addL (xs ys : List D) : bopD .add (.list xs) (.list ys) = if xs.length + ys.length ≤ line then some (.lst (xs ++ ys)) else none := id rfl
@[simp] theorem bo_sub (i j : Int) : bopD .sub (.int i) (.int j) = some (.imm (.int (i - j))) := id rfl
@[simp] theorem bo_mul (i j : Int) : bopD .mul (.int i) (.int j) = if small i || small j then some (.imm (.int (i * j))) else none := id rfl
@[simp] theorem bo_mulL (xs : List D) (j : Int) : bopD .mul (.list xs) (.int j) = if xs.length * j.toNat ≤ line ∧ -(2 ^ 63) ≤ j ∧ j < 2 ^ 63 then some (.lst (List.replicate j.toNat xs).flatten) else none := id rfl
@[simp] theorem bo_fdiv (i j : Int) : bopD .fdiv (.int i) (.int j) = if 0 < j ∧ j < 1073741824 then some (.imm (.int (i / j))) else none := id rfl
@[simp] theorem bo_mod (i j : Int) : bopD .mod (.int i) (.int j) = if 0 < j then some (.imm (.int (i % j))) else none := id rfl
@[simp] theorem bo_pow (i j : Int) : bopD .pow (.int i) (.int j) = if 0 ≤ j ∧ j ≤ 1000000 ∧ i.natAbs < 2 ^ 64 then some (.imm (.int (i ^ j.toNat))) else none := id rfl
@[simp] theorem co_eq (a b : D) : copD .eq a b = eqD a b := id rfl
@[simp] theorem co_ne (a b : D) : copD .ne a b = (eqD a b).map (!·) := id rfl
@[simp] theorem co_lt (i j : Int) : copD .lt (.int i) (.int j) = some (decide (i < j)) := id rfl
@[simp] theorem co_le (i j : Int) : copD .le (.int i) (.int j) = some (decide (i ≤ j)) := id rfl
@[simp] theorem co_gt (i j : Int) : copD .gt (.int i) (.int j) = some (decide (j < i)) := id rfl
@[simp] theorem co_ge (i j : Int) : copD .ge (.int i) (.int j) = some (decide (j ≤ i)) := id rfl
@[simp] theorem co_in (a b : D) : copD .isin a b = inD a b := id rfl
@[simp] theorem co_nin (a b : D) : copD .notin a b = (inD a b).map (!·) := id rfl
@[simp] theorem co_is (a : D) : copD .is a .none = some (match a with | .none => true | _ => false) := id rfl
@[simp] theorem co_isn (a : D) : copD .isnot a .none = some (match a with | .none => false | _ => true) := id rfl
@[simp] theorem su_t (xs : List D) (i : Int) : subD (.tuple xs) (.int i) = L2.atI xs i := id rfl
@[simp] theorem su_l (xs : List D) (i : Int) : subD (.list xs) (.int i) = L2.atI xs i := id rfl
@[simp] theorem su_d (kvs : List (D × D)) (k : D) : subD (.dict kvs) k = if (keyD k).isSome then getK kvs k else none := id rfl
@[simp] theorem su_s (x : Str) (i : Int) : subD (.str x) (.int i) = if x.length ≤ line then (L2.atI x.cps.toList i).map fun c => .str ⟨#[c]⟩ else none := id rfl
@[simp] theorem sl_t (xs : List D) (lo hi : Option Int) : slcD (.tuple xs) lo hi = some (.imm (.tuple (cutD xs lo hi))) := id rfl
@[simp] theorem sl_l (xs : List D) (lo hi : Option Int) : slcD (.list xs) lo hi = some (.lst (cutD xs lo hi)) := id rfl
@[simp] theorem sl_s (x : Str) (lo hi : Option Int) : slcD (.str x) lo hi = if x.length ≤ line then some (.imm (.str (L2.cutS x lo hi))) else none := id rfl
@[simp] theorem oi_no (m : M) : optInt (.cst .none) m = some none := id rfl
@[simp] theorem oi_cst (k i : Int) : optInt (.cst (.int k)) (.imm (.int i)) = some (some i) := id rfl
@[simp] theorem oi_var (k : Nat) (i : Int) : optInt (.var k) (.imm (.int i)) = some (some i) := id rfl
@[simp] theorem oi_prm (p : Prm) (es : List Ex) (i : Int) : optInt (.prm p es) (.imm (.int i)) = some (some i) := id rfl
@[simp] theorem oi_bin (o : Bop) (a b : Ex) (i : Int) : optInt (.bin o a b) (.imm (.int i)) = some (some i) := id rfl
@[simp] theorem oi_sub (a b : Ex) (i : Int) : optInt (.sub a b) (.imm (.int i)) = some (some i) := id rfl
@[simp] theorem pr_lenT (xs : List D) : prmD .len [.tuple xs] = some (.imm (.int xs.length)) := id rfl
@[simp] theorem pr_lenL (xs : List D) : prmD .len [.list xs] = some (.imm (.int xs.length)) := id rfl
@[simp] theorem pr_lenD (xs : List (D × D)) : prmD .len [.dict xs] = some (.imm (.int xs.length)) := id rfl
@[simp] theorem pr_lenS (x : Str) : prmD .len [.str x] = if x.length ≤ line then some (.imm (.int x.length)) else none := id rfl
@[simp] theorem pr_all (xs : List D) : prmD .all [.list xs] = (bools xs).map fun bs => .imm (.bool (bs.all id)) := id rfl
@[simp] theorem pr_any (xs : List D) : prmD .any [.list xs] = (bools xs).map fun bs => .imm (.bool (bs.any id)) := id rfl
@[simp] theorem pr_tupL (xs : List D) : prmD .tuple [.list xs] = some (.imm (.tuple xs)) := id rfl
@[simp] theorem pr_tupT (xs : List D) : prmD .tuple [.tuple xs] = some (.imm (.tuple xs)) := id rfl
@[simp] theorem pr_lstL (xs : List D) : prmD .list [.list xs] = some (.lst xs) := id rfl
@[simp] theorem pr_lstT (xs : List D) : prmD .list [.tuple xs] = some (.lst xs) := id rfl
@[simp] theorem pr_isi (t : String) (d : D) : prmD (.isi t) [d] = (isiD t d).map fun b => .imm (.bool b) := id rfl
@[simp] theorem pr_dicL (xs : List D) : prmD .dict [.list xs] = (pairsK xs []).map .dic := id rfl
@[simp] theorem pr_dicD (xs : List (D × D)) : prmD .dict [.dict xs] = some (.dic xs) := id rfl
@[simp] theorem pr_dget (kvs : List (D × D)) (k d : D) : prmD .dget [.dict kvs, k, d] = if (keyD k).isSome ∧ noBox d = true then some (.imm ((getK kvs k).getD d)) else none := id rfl
@[simp] theorem pr_neg (i : Int) : prmD .neg [.int i] = some (.imm (.int (-i))) := id rfl
@[simp] theorem pr_max (i j : Int) : prmD .max [.int i, .int j] = some (.imm (.int (if i < j then j else i))) := id rfl
@[simp] theorem pr_min (i j : Int) : prmD .min [.int i, .int j] = some (.imm (.int (if j < i then j else i))) := id rfl
@[simp] theorem pr_abs (i : Int) : prmD .abs [.int i] = some (.imm (.int (if i < 0 then -i else i))) := id rfl
@[simp] theorem em_list (xs : List D) : enmD [.list xs] = some (enumL xs) := id rfl
@[simp] theorem em_tup (xs : List D) : enmD [.tuple xs] = some (enumL xs) := id rfl
@[simp] theorem zp_list (xs ys : List D) : zipD [.list xs, .list ys] = if (zipL xs ys).all twoT = true then some (zipL xs ys) else none := id rfl
@[simp] theorem zp_tup (xs ys : List D) : zipD [.tuple xs, .tuple ys] = if (zipL xs ys).all twoT = true then some (zipL xs ys) else none := id rfl
theorem pr_sitems {kvs : List (D × D)} (h : sortOk (kvs.map fun p => .tuple [p.1, p.2]) = true) : prmD .sitems [.dict kvs] = some (.lst (sortD (kvs.map fun p => .tuple [p.1, p.2]))) := by rw [prmD, if_pos h]
theorem pr_sortL {zs : List D} (h : sortOk zs = true) : prmD .sorted [.list zs] = some (.lst (sortD zs)) := by rw [prmD, if_pos h]
@[simp] theorem pr_zip2 (xs ys : List D) : prmD .zip2 [.list xs, .list ys] = if (zipL xs ys).all twoT = true then some (.imm (.tuple (zipL xs ys))) else none := id rfl
@[simp] theorem pr_dicT (ps : List D) : prmD .dict [.tuple ps] = if two ps = true then none else (pairsK ps []).map .dic := id rfl
theorem isi_eq (t : String) (d : D) (h : isiT.contains t = true) : isiD t d = some (tyD d == t || (t == "int" && tyD d == "bool")) := by unfold isiD; rw [if_pos h]
@[simp] theorem isi_int_none  : isiD "int" .none = some false := id rfl
@[simp] theorem isi_int_bool (b : Bool) : isiD "int" (.bool b) = some true := id rfl
@[simp] theorem isi_int_int (i : Int) : isiD "int" (.int i) = some true := id rfl
@[simp] theorem isi_int_str (x : Str) : isiD "int" (.str x) = some false := id rfl
@[simp] theorem isi_int_list (xs : List D) : isiD "int" (.list xs) = some false := id rfl
@[simp] theorem isi_int_tuple (xs : List D) : isiD "int" (.tuple xs) = some false := id rfl
@[simp] theorem isi_int_dict (xs : List (D × D)) : isiD "int" (.dict xs) = some false := id rfl
@[simp] theorem isi_bool_none  : isiD "bool" .none = some false := id rfl
@[simp] theorem isi_bool_bool (b : Bool) : isiD "bool" (.bool b) = some true := id rfl
@[simp] theorem isi_bool_int (i : Int) : isiD "bool" (.int i) = some false := id rfl
@[simp] theorem isi_bool_str (x : Str) : isiD "bool" (.str x) = some false := id rfl
@[simp] theorem isi_bool_list (xs : List D) : isiD "bool" (.list xs) = some false := id rfl
@[simp] theorem isi_bool_tuple (xs : List D) : isiD "bool" (.tuple xs) = some false := id rfl
@[simp] theorem isi_bool_dict (xs : List (D × D)) : isiD "bool" (.dict xs) = some false := id rfl
@[simp] theorem isi_str_none  : isiD "str" .none = some false := id rfl
@[simp] theorem isi_str_bool (b : Bool) : isiD "str" (.bool b) = some false := id rfl
@[simp] theorem isi_str_int (i : Int) : isiD "str" (.int i) = some false := id rfl
@[simp] theorem isi_str_str (x : Str) : isiD "str" (.str x) = some true := id rfl
@[simp] theorem isi_str_list (xs : List D) : isiD "str" (.list xs) = some false := id rfl
@[simp] theorem isi_str_tuple (xs : List D) : isiD "str" (.tuple xs) = some false := id rfl
@[simp] theorem isi_str_dict (xs : List (D × D)) : isiD "str" (.dict xs) = some false := id rfl
@[simp] theorem isi_tuple_none  : isiD "tuple" .none = some false := id rfl
@[simp] theorem isi_tuple_bool (b : Bool) : isiD "tuple" (.bool b) = some false := id rfl
@[simp] theorem isi_tuple_int (i : Int) : isiD "tuple" (.int i) = some false := id rfl
@[simp] theorem isi_tuple_str (x : Str) : isiD "tuple" (.str x) = some false := id rfl
@[simp] theorem isi_tuple_list (xs : List D) : isiD "tuple" (.list xs) = some false := id rfl
@[simp] theorem isi_tuple_tuple (xs : List D) : isiD "tuple" (.tuple xs) = some true := id rfl
@[simp] theorem isi_tuple_dict (xs : List (D × D)) : isiD "tuple" (.dict xs) = some false := id rfl
@[simp] theorem isi_list_none  : isiD "list" .none = some false := id rfl
@[simp] theorem isi_list_bool (b : Bool) : isiD "list" (.bool b) = some false := id rfl
@[simp] theorem isi_list_int (i : Int) : isiD "list" (.int i) = some false := id rfl
@[simp] theorem isi_list_str (x : Str) : isiD "list" (.str x) = some false := id rfl
@[simp] theorem isi_list_list (xs : List D) : isiD "list" (.list xs) = some true := id rfl
@[simp] theorem isi_list_tuple (xs : List D) : isiD "list" (.tuple xs) = some false := id rfl
@[simp] theorem isi_list_dict (xs : List (D × D)) : isiD "list" (.dict xs) = some false := id rfl
@[simp] theorem isi_dict_none  : isiD "dict" .none = some false := id rfl
@[simp] theorem isi_dict_bool (b : Bool) : isiD "dict" (.bool b) = some false := id rfl
@[simp] theorem isi_dict_int (i : Int) : isiD "dict" (.int i) = some false := id rfl
@[simp] theorem isi_dict_str (x : Str) : isiD "dict" (.str x) = some false := id rfl
@[simp] theorem isi_dict_list (xs : List D) : isiD "dict" (.list xs) = some false := id rfl
@[simp] theorem isi_dict_tuple (xs : List D) : isiD "dict" (.tuple xs) = some false := id rfl
@[simp] theorem isi_dict_dict (xs : List (D × D)) : isiD "dict" (.dict xs) = some true := id rfl
@[simp] theorem ty_none  : tyD .none = "NoneType" := id rfl
@[simp] theorem ty_bool (b : Bool) : tyD (.bool b) = "bool" := id rfl
@[simp] theorem ty_int (i : Int) : tyD (.int i) = "int" := id rfl
@[simp] theorem ty_str (x : Str) : tyD (.str x) = "str" := id rfl
@[simp] theorem ty_list (xs : List D) : tyD (.list xs) = "list" := id rfl
@[simp] theorem ty_tuple (xs : List D) : tyD (.tuple xs) = "tuple" := id rfl
@[simp] theorem ty_dict (xs : List (D × D)) : tyD (.dict xs) = "dict" := id rfl
@[simp] theorem rc_dget : recv .dget = "dict" := id rfl
@[simp] theorem rc_sindex : recv .sindex = "str" := id rfl
@[simp] theorem rc_join : recv .join = "str" := id rfl
@[simp] theorem im_tup (xs : List D) : itemsD (.tuple xs) = some xs := id rfl
@[simp] theorem im_lst (xs : List D) : itemsD (.list xs) = some xs := id rfl
@[simp] theorem im_dic (ps : List (D × D)) : itemsD (.dict ps) = some (ps.map fun p => p.1) := id rfl
@[simp] theorem im_str (x : Str) : itemsD (.str x) = some (x.cps.toList.map fun c => .str ⟨#[c]⟩) := id rfl
@[simp] theorem mu_app (xs : List D) (d : D) : mutD .append (.lst xs) [d] = if xs.length < line then some (.lst (xs ++ [d]), .none) else none := id rfl
@[simp] theorem mu_extL (xs ys : List D) : mutD .extend (.lst xs) [.list ys] = if xs.length + ys.length ≤ line then some (.lst (xs ++ ys), .none) else none := id rfl
@[simp] theorem mu_clr (xs : List D) : mutD .clear (.lst xs) [] = some (.lst [], .none) := id rfl
@[simp] theorem mu_pop (xs : List D) : mutD .pop (.lst xs) [] = (xs[xs.length - 1]?).map fun d => (.lst xs.dropLast, d) := id rfl
@[simp] theorem sd_l (xs : List D) (i : Int) (v : D) : setD (.lst xs) (.int i) v = (L2.ixN xs.length i).map fun j => .lst (xs.set j v) := id rfl
@[simp] theorem sd_d (kvs : List (D × D)) (k v : D) : setD (.dic kvs) k v = if (keyD k).isSome ∧ (kvs.length < line) then some (.dic (putK k v kvs)) else none := by cases k <;> rfl
@[simp] theorem au_add (i j : Int) : augD .add (.imm (.int i)) (.int j) = some (.imm (.int (i + j))) := id rfl
@[simp] theorem au_sub (i j : Int) : augD .sub (.imm (.int i)) (.int j) = some (.imm (.int (i - j))) := id rfl
@[simp] theorem nb_none : noBox .none = true := id rfl
@[simp] theorem nb_int (i : Int) : noBox (.int i) = true := id rfl
@[simp] theorem nb_str (x : Str) : noBox (.str x) = true := id rfl
@[simp] theorem nb_bool (x : Bool) : noBox (.bool x) = true := id rfl
@[simp] theorem nb_tup (x : List D) : noBox (.tuple x) = true := id rfl
@[simp] theorem ky_int (i : Int) : keyD (.int i) = some (.inl i) := id rfl
@[simp] theorem ky_str (x : Str) : keyD (.str x) = some (.inr x) := id rfl
/-! ### loops -/
/-- a for loop, turn by turn: Rel holds at a turn between a state and the slots -/
theorem for_st {S : Type} (Rel : Nat → S → Rho → Prop) (step : S → D → S) {b : Rho → Option Out} {tg : List Nat} {one : Bool} : ∀ (ds : List D) (i : Nat) (s : S) (ρ : Rho), Rel i s ρ →
    (∀ j s ρ d, i ≤ j → ds[j - i]? = some d → Rel j s ρ → ∃ ρ1 ρ2, bindT tg one d ρ = some ρ1 ∧ (b ρ1 = some (.nx ρ2) ∨ b ρ1 = some (.ct ρ2)) ∧ Rel (j + 1) (step s d) ρ2) → ∃ ρ', forL b tg one ds ρ = some (.nx ρ') ∧ Rel (i + ds.length) (ds.foldl step s) ρ'
  | [], i, s, ρ, r, _ => ⟨ρ, rfl, r⟩
  | d :: ds, i, s, ρ, r, h => by
    obtain ⟨ρ1, ρ2, h1, h2, r2⟩ := h i s ρ d (Nat.le_refl _) (by simp) r
    obtain ⟨ρ', e, r'⟩ := for_st Rel step ds (i + 1) (step s d) ρ2 r2 fun j s ρ d hj hd => h j s ρ d (by omega) (by
      have : j - i = (j - (i + 1)) + 1 := by omega
      rw [this]; simpa using hd)
    refine ⟨ρ', ?_, ?_⟩
    · rw [forL, h1]
      rcases h2 with h2 | h2 <;> (simp only [h2]; exact e)
    · have : i + (d :: ds).length = i + 1 + ds.length := by simp; omega
      rw [this]; exact r'
/-- a comprehension, turn by turn -/
def mapS {S : Type} (step : S → D → D × S) : S → List D → List D × S
  | s, [] => ([], s)
  | s, d :: ds => let p := step s d; let q := mapS step p.2 ds; (p.1 :: q.1, q.2)
theorem lcp_st {S : Type} (Rel : Nat → S → Rho → Prop) (step : S → D → D × S) {test : Rho → O Bool} {elt : Rho → O M} {tg : List Nat} {one : Bool} : ∀ (ds : List D) (i : Nat) (s : S) (ρ : Rho) (acc : List D), Rel i s ρ → acc.length + ds.length ≤ line →
    (∀ j s ρ d, i ≤ j → ds[j - i]? = some d → Rel j s ρ → ∃ ρ1 ρ2 ρ3 m, bindT tg one d ρ = some ρ1 ∧ test ρ1 = some (.ok true ρ2) ∧ elt ρ2 = some (.ok m ρ3) ∧ view m = some (step s d).1 ∧ Rel (j + 1) (step s d).2 (wipe ρ3 tg)) → ∃ ρ', lcpL test elt tg one ds acc ρ = some (acc ++ (mapS step s ds).1, ρ') ∧ Rel (i + ds.length) (mapS step s ds).2 ρ'
  | [], i, s, ρ, acc, r, _, _ => ⟨ρ, by simp [lcpL, mapS], r⟩
  | d :: ds, i, s, ρ, acc, r, hl, h => by
    obtain ⟨ρ1, ρ2, ρ3, m, h1, h2, h3, h4, r2⟩ := h i s ρ d (Nat.le_refl _) (by simp) r
    obtain ⟨ρ', e, r'⟩ := lcp_st Rel step ds (i + 1) (step s d).2 (wipe ρ3 tg) (acc ++ [(step s d).1]) r2 (by simp at hl ⊢; omega) fun j s ρ d hj hd => h j s ρ d (by omega) (by
      have : j - i = (j - (i + 1)) + 1 := by omega
      rw [this]; simpa using hd)
    refine ⟨ρ', ?_, ?_⟩
    · rw [lcpL]
      simp only [h1, h2, h3, h4]
      rw [if_pos (by simp at hl; omega), e]
      simp [mapS]
    · have : i + (d :: ds).length = i + 1 + ds.length := by simp; omega
      rw [this]; exact r'
def iter_ {S : Type} (f : S → S) : Nat → S → S
  | 0, s => s
  | n + 1, s => iter_ f n (f s)
/-- a while loop, turn by turn: turn tells whether it goes on, and the state behind it -/
theorem whl_st {S : Type} (Rel : S → Rho → Prop) (go : S → Bool) (step : S → S) {c : Rho → O Bool} {b : Rho → Option Out} (hc : ∀ s ρ, Rel s ρ → c ρ = some (.ok (go s) ρ)) (hb : ∀ s ρ, Rel s ρ → go s = true → ∃ ρ2, (b ρ = some (.nx ρ2) ∨ b ρ = some (.ct ρ2)) ∧ Rel (step s) ρ2) :
    ∀ (n fu : Nat) (s : S) (ρ : Rho), Rel s ρ → n < fu → go (iter_ step n s) = false → (∀ m, m < n → go (iter_ step m s) = true) → ∃ ρ', whlL c b fu ρ = some (.nx ρ') ∧ Rel (iter_ step n s) ρ'
  | 0, fu + 1, s, ρ, r, _, h, _ => by
    have h : go s = false := h
    refine ⟨ρ, ?_, r⟩
    rw [whlL, hc s ρ r, h]
  | n + 1, fu + 1, s, ρ, r, hn, h, hm => by
    have h0 : go s = true := hm 0 (by omega)
    obtain ⟨ρ2, h2, r2⟩ := hb s ρ r h0
    obtain ⟨ρ', e, r'⟩ := whl_st Rel go step hc hb n fu (step s) ρ2 r2 (by omega) h fun m hmn => hm (m + 1) (by omega)
    refine ⟨ρ', ?_, r'⟩
    rw [whlL, hc s ρ r, h0]
    rcases h2 with h2 | h2 <;> (simp only [h2]; exact e)
/-- a comprehension that changes nothing -/
theorem lcp_pure (p : D → Bool) (f : D → D) {test : Rho → O Bool} {elt : Rho → O M} {tg : List Nat} {one : Bool} {ρ : Rho} : ∀ (ds : List D) (acc : List D), acc.length + ds.length ≤ line →
    (∀ d, d ∈ ds → ∃ ρ1 ρ2, bindT tg one d ρ = some ρ1 ∧ test ρ1 = some (.ok (p d) ρ2) ∧ wipe ρ2 tg = ρ ∧ (p d = true → ∃ m ρ3, elt ρ2 = some (.ok m ρ3) ∧ view m = some (f d) ∧ wipe ρ3 tg = ρ)) → lcpL test elt tg one ds acc ρ = some (acc ++ (ds.filter p).map f, ρ)
  | [], acc, _, _ => by simp [lcpL]
  | d :: ds, acc, hl, h => by
    obtain ⟨ρ1, ρ2, h1, h2, h3, h4⟩ := h d List.mem_cons_self
    rw [lcpL]
    simp only [h1, h2]
    cases hp : p d with
    | true =>
      obtain ⟨m, ρ3, e1, e2, e3⟩ := h4 hp
      have := lcp_pure p f (test := test) (elt := elt) (tg := tg) (one := one) (ρ := ρ) ds (acc ++ [f d]) (by simp at hl ⊢; omega) fun d hd => h d (List.mem_cons_of_mem _ hd)
      simp only [e1, e2, e3]
      rw [if_pos (by simp at hl; omega), this]
      simp [hp]
    | false =>
      have := lcp_pure p f (test := test) (elt := elt) (tg := tg) (one := one) (ρ := ρ) ds acc (by simp at hl ⊢; omega) fun d hd => h d (List.mem_cons_of_mem _ hd)
      simp only [h3, this]
      simp [hp]
@[simp] theorem lcp_nil (test : Rho → O Bool) (elt : Rho → O M) (tg : List Nat) (one : Bool) (acc : List D) (ρ : Rho) : lcpL test elt tg one [] acc ρ = some (acc, ρ) := id rfl
@[simp] theorem for_nil (b : Rho → Option Out) (tg : List Nat) (one : Bool) (ρ : Rho) : forL b tg one [] ρ = some (.nx ρ) := id rfl
theorem bools_map (f : D → Bool) : ∀ ds : List D, bools (ds.map fun d => .bool (f d)) = some (ds.map f)
  | [] => rfl
  | d :: ds => by simp [bools, bools_map f ds]
end Iv
set_option linter.all false
set_option maxRecDepth 100000
set_option maxHeartbeats 1000000
/-! Iv27: texts, dicts, == and in, for simp. -/
namespace Iv
open PySem (PyData Str)
theorem char_inj {a b : Char} (h : a.toNat = b.toNat) : a = b := Char.ext (UInt32.toNat_inj.mp h)
theorem map_inj {α β : Type} {f : α → β} (hf : ∀ a b, f a = f b → a = b) : ∀ {l m : List α}, l.map f = m.map f → l = m
  | [], [], _ => rfl
  | [], _ :: _, h => by cases h
  | _ :: _, [], h => by cases h
  | a :: l, b :: m, h => by
    simp only [List.map_cons, List.cons.injEq] at h
    rw [hf _ _ h.1, map_inj hf h.2]
@[simp] theorem ofString_inj (a b : String) : (Str.ofString a = Str.ofString b) ↔ a = b := by
  constructor
  · intro h
    rw [Str.ofString_eq_toList, Str.ofString_eq_toList] at h
    have h1 : (a.toList.map Char.toNat).toArray = (b.toList.map Char.toNat).toArray := congrArg Str.cps h
    have h2 : a.toList.map Char.toNat = b.toList.map Char.toNat := by simpa using congrArg Array.toList h1
    exact String.toList_inj.mp (map_inj (fun _ _ => char_inj) h2)
  · intro h; rw [h]
/-- signs that are codes -/
def okS (x : Str) : Bool := x.cps.all (· < 0x110000)
theorem okS_of (s : String) : okS (Str.ofString s) = true := by
  rw [Str.ofString_eq_toList]
  unfold okS
  simp only [List.all_toArray, List.all_map, List.all_eq_true, Function.comp, decide_eq_true_eq]
  intro c _
  have := c.valid
  simp only [UInt32.isValidChar, Nat.isValidChar] at this
  show c.toNat < 0x110000
  rcases this with h | h
  · have : c.toNat < 0xd800 := h
    omega
  · exact h.2
@[simp] theorem eqD_str (x y : Str) : eqD (.str x) (.str y) = some (decide (x = y)) := id rfl
@[simp] theorem eqD_int (i j : Int) : eqD (.int i) (.int j) = some (decide (i = j)) := by
  exact id rfl
@[simp] theorem eqv_str (x y : Str) : PyData.eqv (.str x) (.str y) = decide (x = y) := by
  simp only [PyData.eqv]; rfl
@[simp] theorem isFlat_str (x : Str) : isFlat (.str x) = true := id rfl
@[simp] theorem isFlat_int (x : Int) : isFlat (.int x) = true := id rfl
@[simp] theorem inD_tup (a : D) (xs : List D) : inD a (.tuple xs) = if isFlat a && xs.all isFlat then some (xs.any fun y => PyData.eqv y a) else none := id rfl
@[simp] theorem inD_lst (a : D) (xs : List D) : inD a (.list xs) = if isFlat a && xs.all isFlat then some (xs.any fun y => PyData.eqv y a) else none := id rfl
@[simp] theorem inD_dic (a : D) (kvs : List (D × D)) : inD a (.dict kvs) = if (keyD a).isSome then some (getK kvs a).isSome else none := id rfl
@[simp] theorem inD_str (x y : Str) : inD (.str x) (.str y) = some (!(PySem.Builtin.Str.occurrences y x 0 y.length 1).isEmpty) := id rfl
@[simp] theorem getK_nil (q : D) : getK [] q = none := id rfl
@[simp] theorem getK_cons (k v : D) (r : List (D × D)) (q : D) : getK ((k, v) :: r) q = if keyD k = keyD q then some v else getK r q := by
  unfold getK
  rw [List.find?_cons]
  by_cases h : keyD k = keyD q
  · simp [h]
  · simp [h]
@[simp] theorem at0 {α : Type} (x : α) (xs : List α) : L2.atI (x :: xs) 0 = some x := by
  simp [L2.atI, L2.ixN]
@[simp] theorem at1 {α : Type} (x y : α) (xs : List α) : L2.atI (x :: y :: xs) 1 = some y := by
  simp [L2.atI, L2.ixN]; rw [if_pos (by omega)]; rfl
@[simp] theorem at2 {α : Type} (x y z : α) (xs : List α) : L2.atI (x :: y :: z :: xs) 2 = some z := by
  simp [L2.atI, L2.ixN]; rw [if_pos (by omega)]; rfl
@[simp] theorem at3 {α : Type} (x y z w : α) (xs : List α) : L2.atI (x :: y :: z :: w :: xs) 3 = some w := by
  simp [L2.atI, L2.ixN]; rw [if_pos (by omega)]; rfl
theorem atN {α : Type} {xs : List α} {i : Nat} {x : α} (h : xs[i]? = some x) : L2.atI xs (i : Int) = some x := by
  have hi := (List.getElem?_eq_some_iff.mp h).1
  unfold L2.atI L2.ixN
  rw [if_pos (by omega), if_pos (by omega)]
  simpa using h
@[simp] theorem atLast {α : Type} (xs : List α) (x : α) : L2.atI (xs ++ [x]) (-1) = some x := by
  unfold L2.atI L2.ixN
  rw [if_neg (by omega), if_pos (by simp; omega)]
  have : (-1 + ((xs ++ [x]).length : Int)).toNat = xs.length := by simp; omega
  simp only [Option.bind_some, this]
  simp
theorem eqD_nil {xs : List D} (h : PySem.SeqAt.shaped (.tuple xs) = true) : eqD (.tuple xs) (.tuple []) = some xs.isEmpty := by
  have e2 : PySem.SeqAt.shaped (.tuple []) = true := by decide
  unfold eqD
  simp only [h, e2]
  cases xs <;> rfl
@[simp] theorem lookF_nil (f : Nat) : lookF [] f = none := id rfl
@[simp] theorem lookF_cons (g f : Nat) (m : M) (r : List (Nat × M)) : lookF ((g, m) :: r) f = if f = g then some m else lookF r f := by
  unfold lookF
  rw [List.lookup_cons]
  by_cases h : f = g
  · subst h; simp
  · rw [if_neg h, beq_eq_false_iff_ne.mpr h]
@[simp] theorem setF_nil (f : Nat) (m : M) : setF f m [] = [(f, m)] := id rfl
@[simp] theorem setF_cons (f g : Nat) (m n : M) (r : List (Nat × M)) : setF f m ((g, n) :: r) = if g = f then (g, m) :: r else (g, n) :: setF f m r := id rfl
/-- repr -/
def reprOk (d : D) : Bool := d.showable && !d.hasDict && decide (d.depth ≤ 40) && d.canLay0 && decide (d.weight ≤ 2 ^ 20) && d.intsShort 13
theorem reprOk_len {d : D} (h : reprOk d = true) : d.showable = true ∧ d.hasDict = false ∧ d.depth ≤ 40 ∧ d.shown.length ≤ line := by
  unfold reprOk at h
  simp only [Bool.and_eq_true, decide_eq_true_eq, Bool.not_eq_true'] at h
  obtain ⟨⟨⟨⟨⟨h1, h2⟩, h3⟩, h4⟩, h5⟩, h6⟩ := h
  refine ⟨h1, h2, h3, ?_⟩
  have := PyProof.Rows.shown_le13 (d := d) (by unfold PyData.layable0; simp [h4, h5]; omega) h6
  unfold line; omega
theorem pr_reprL {xs : List D} (h : reprOk (.list xs) = true) : prmD .repr [.list xs] = some (.imm (.str (PyData.list xs).shown)) := if_pos (reprOk_len h)
theorem pr_reprT {xs : List D} (h : reprOk (.tuple xs) = true) : prmD .repr [.tuple xs] = some (.imm (.str (PyData.tuple xs).shown)) := if_pos (reprOk_len h)
end Iv
set_option Elab.async false
set_option linter.all false
set_option maxRecDepth 100000
set_option maxHeartbeats 0
namespace K48
open PySem PySem.Spec PyProof.Rows L2 Iv
def clsBody : Stmt → List Stmt
  | .ClassDef _ _ _ b _ _ _ _ _ _ _ => b
  | _ => []
def top (i : Nat) : Stmt := PySem.Challenge.pw_likehall_k48_kinds_joined.main.body.getD i (.Pass ⟨0, 0, 0, 0⟩)
def meth (i j : Nat) : Stmt := (clsBody (top i)).getD j (.Pass ⟨0, 0, 0, 0⟩)
def e_law : Ent := ⟨.fn "law", ⟨("law", none), "law", "law", defArgs (top 61), defBody (top 61), defScope (top 61), [], []⟩, ["_law_script", "_law_draw", "_law_first", "_law_letters_here", "_law_kinds", "_law_odd", "_law_one", "_law_truth", "_law_other", "_law_box", "_law_two", "_law_none", "_law_k", "_law_letter", "_law_due", "_law_deeds", "_law_found", "_law_pair"], ["_law_script"]⟩
def e__law_word : Ent := ⟨.fn "_law_word", ⟨("_law_word", none), "_law_word", "_law_word", defArgs (top 59), defBody (top 59), defScope (top 59), [], []⟩, ["_law_deed", "_law_wrong", "e", "_law_kinds", "_law_words", "_law_others", "_law_word_here", "_law_is_so"], ["_law_deed"]⟩
def e_is_among : Ent := ⟨.fn "is_among", ⟨("is_among", none), "is_among", "is_among", defArgs (top 15), defBody (top 15), defScope (top 15), [], []⟩, ["thing", "least", "most"], ["thing", "least", "most"]⟩
def e_is_word : Ent := ⟨.fn "is_word", ⟨("is_word", none), "is_word", "is_word", defArgs (top 16), defBody (top 16), defScope (top 16), [], []⟩, ["thing", "letter"], ["thing"]⟩
def e_is_plain : Ent := ⟨.fn "is_plain", ⟨("is_plain", none), "is_plain", "is_plain", defArgs (top 17), defBody (top 17), defScope (top 17), [], []⟩, ["thing"], ["thing"]⟩
def e_is_box : Ent := ⟨.fn "is_box", ⟨("is_box", none), "is_box", "is_box", defArgs (top 30), defBody (top 30), defScope (top 30), [], []⟩, ["thing", "sign"], ["thing"]⟩
def e_is_part_number : Ent := ⟨.fn "is_part_number", ⟨("is_part_number", none), "is_part_number", "is_part_number", defArgs (top 31), defBody (top 31), defScope (top 31), [], []⟩, ["thing"], ["thing"]⟩
def e_length_of : Ent := ⟨.fn "length_of", ⟨("length_of", none), "length_of", "length_of", defArgs (top 32), defBody (top 32), defScope (top 32), [], []⟩, ["word"], ["word"]⟩
def e_is_deed : Ent := ⟨.fn "is_deed", ⟨("is_deed", none), "is_deed", "is_deed", defArgs (top 33), defBody (top 33), defScope (top 33), [], []⟩, ["thing", "box"], ["thing"]⟩
def e_given_by : Ent := ⟨.fn "given_by", ⟨("given_by", none), "given_by", "given_by", defArgs (top 34), defBody (top 34), defScope (top 34), [], []⟩, ["deed"], ["deed"]⟩
def e_used_by : Ent := ⟨.fn "used_by", ⟨("used_by", none), "used_by", "used_by", defArgs (top 35), defBody (top 35), defScope (top 35), [], []⟩, ["deed"], ["deed"]⟩
def e_are_params : Ent := ⟨.fn "are_params", ⟨("are_params", none), "are_params", "are_params", defArgs (top 36), defBody (top 36), defScope (top 36), [], []⟩, ["thing", "pair"], ["thing"]⟩
def e_walked : Ent := ⟨.fn "walked", ⟨("walked", none), "walked", "walked", defArgs (top 38), defBody (top 38), defScope (top 38), [], []⟩, ["thing", "walk", "box", "kind"], ["thing"]⟩
def e_need_program : Ent := ⟨.fn "need_program", ⟨("need_program", none), "need_program", "need_program", defArgs (top 39), defBody (top 39), defScope (top 39), [], []⟩, ["thing"], ["thing"]⟩
def e_is_kind : Ent := ⟨.fn "is_kind", ⟨("is_kind", none), "is_kind", "is_kind", defArgs (top 43), defBody (top 43), defScope (top 43), [], []⟩, ["thing"], ["thing"]⟩
def e_joined_kind : Ent := ⟨.fn "joined_kind", ⟨("joined_kind", none), "joined_kind", "joined_kind", defArgs (top 44), defBody (top 44), defScope (top 44), [], []⟩, ["one", "other"], ["one", "other"]⟩
def e_given_kind : Ent := ⟨.fn "given_kind", ⟨("given_kind", none), "given_kind", "given_kind", defArgs (top 45), defBody (top 45), defScope (top 45), [], []⟩, ["deed", "kinds", "word", "box"], ["deed", "kinds"]⟩
def e_wrong_word : Ent := ⟨.fn "wrong_word", ⟨("wrong_word", none), "wrong_word", "wrong_word", defArgs (top 46), defBody (top 46), defScope (top 46), [], []⟩, ["deed", "kinds"], ["deed", "kinds"]⟩
def e_kinds_behind : Ent := ⟨.fn "kinds_behind", ⟨("kinds_behind", none), "kinds_behind", "kinds_behind", defArgs (top 47), defBody (top 47), defScope (top 47), [], []⟩, ["deed", "kinds", "given", "found"], ["deed", "kinds"]⟩
def e_joined_all : Ent := ⟨.fn "joined_all", ⟨("joined_all", none), "joined_all", "joined_all", defArgs (top 48), defBody (top 48), defScope (top 48), [], []⟩, ["one", "other", "box"], ["one", "other"]⟩
def e_told_kinds : Ent := ⟨.fn "told_kinds", ⟨("told_kinds", none), "told_kinds", "told_kinds", defArgs (top 49), defBody (top 49), defScope (top 49), [], []⟩, ["kinds"], ["kinds"]⟩
def e_gone_through : Ent := ⟨.fn "gone_through", ⟨("gone_through", none), "gone_through", "gone_through", defArgs (top 51), defBody (top 51), defScope (top 51), [], []⟩, ["program", "found"], ["program"]⟩
def e_kinds_at : Ent := ⟨.fn "kinds_at", ⟨("kinds_at", none), "kinds_at", "kinds_at", defArgs (top 52), defBody (top 52), defScope (top 52), [], []⟩, ["program"], ["program"]⟩
def e__law_mixed : Ent := ⟨.fn "_law_mixed", ⟨("_law_mixed", none), "_law_mixed", "_law_mixed", defArgs (top 54), defBody (top 54), defScope (top 54), [], []⟩, ["_law_cell", "_law_k", "_law_number"], ["_law_cell", "_law_k"]⟩
def e__law_next : Ent := ⟨.fn "_law_next", ⟨("_law_next", none), "_law_next", "_law_next", defArgs (top 55), defBody (top 55), defScope (top 55), [], []⟩, ["_law_draw", "_law_many", "_law_k", "_law_cell", "_law_number", "_law_found"], ["_law_draw", "_law_many"]⟩
def e__law_begin : Ent := ⟨.fn "_law_begin", ⟨("_law_begin", none), "_law_begin", "_law_begin", defArgs (top 56), defBody (top 56), defScope (top 56), [], []⟩, ["_law_script"], ["_law_script"]⟩
def e__law_letters : Ent := ⟨.fn "_law_letters", ⟨("_law_letters", none), "_law_letters", "_law_letters", defArgs (top 57), defBody (top 57), defScope (top 57), [], []⟩, ["_law_draw", "_law_many", "_law_k"], ["_law_draw", "_law_many"]⟩
def e__law_joins : Ent := ⟨.fn "_law_joins", ⟨("_law_joins", none), "_law_joins", "_law_joins", defArgs (top 58), defBody (top 58), defScope (top 58), [], []⟩, ["_law_one", "_law_other"], ["_law_one", "_law_other"]⟩
def e__law_made : Ent := ⟨.fn "_law_made", ⟨("_law_made", none), "_law_made", "_law_made", defArgs (top 60), defBody (top 60), defScope (top 60), [], []⟩, ["_law_kind", "_law_box", "_law_other", "_law_made_here"], ["_law_kind", "_law_box", "_law_other"]⟩
def e_Walk___init__ : Ent := ⟨.mt "Walk" "__init__", ⟨("Walk", some "__init__"), "__init__", "Walk.__init__", defArgs (meth 37 0), defBody (meth 37 0), defScope (meth 37 0), [], []⟩, ["self"], ["self"]⟩
def e_Walk_go : Ent := ⟨.mt "Walk" "go", ⟨("Walk", some "go"), "go", "Walk.go", defArgs (meth 37 1), defBody (meth 37 1), defScope (meth 37 1), [], []⟩, ["self", "deeds", "boxes", "deep", "deed", "number", "one", "other", "box"], ["self", "deeds", "boxes", "deep"]⟩
def e_Going___init__ : Ent := ⟨.mt "Going" "__init__", ⟨("Going", some "__init__"), "__init__", "Going.__init__", defArgs (meth 50 0), defBody (meth 50 0), defScope (meth 50 0), [], []⟩, ["self"], ["self"]⟩
def e_Going_through : Ent := ⟨.mt "Going" "through", ⟨("Going", some "through"), "through", "Going.through", defArgs (meth 50 1), defBody (meth 50 1), defScope (meth 50 1), [], []⟩, ["self", "deeds", "kinds", "deed", "word", "one"], ["self", "deeds", "kinds"]⟩
def x_BadProgram : XI := ⟨"BadProgram", ⟨("BadProgram", some "__init__"), "__init__", "BadProgram.__init__", defArgs (meth 5 0), defBody (meth 5 0), defScope (meth 5 0), [], []⟩, "self", "place", "HallError", "place"⟩
def csts : List (Str × D) := [("LETTERS_halls", (.str "abcdefghijklmnopqrstuvwxyz")), ("MOST_NUMBER", (.int 1000000)), ("MOST_LETTERS_halls", (.int 6)), ("LETTERS_programs", (.str "abcdefghijklmnopqrstuvwxyz")), ("MOST_LETTERS_programs", (.int 6)), ("MOST_PARAMS", (.int 3)), ("MOST_DEEDS", (.int 30)), ("MOST_DEEP", (.int 3)), ("MOST_BOXES", (.int 4)), ("MOST_PART", (.int 7)), ("PARAM_KINDS", (.tuple [(.str "plain"), (.str "firm"), (.str "any")])), ("LENGTHS", (.dict [((.str "plain"), (.int 3)), ((.str "row"), (.int 3)), ((.str "fixed"), (.int 3)), ((.str "shelf"), (.int 2)), ((.str "copy"), (.int 3)), ((.str "be"), (.int 3)), ((.str "take"), (.int 4)), ((.str "set"), (.int 4)), ((.str "put"), (.int 4)), ((.str "drop"), (.int 3))])), ("MORE_LENGTHS", (.dict [((.str "get"), (.int 4)), ((.str "same"), (.int 4)), ((.str "alike"), (.int 4)), ((.str "mark"), (.int 3)), ((.str "tell"), (.int 2)), ((.str "if"), (.int 4))])), ("GIVERS", (.tuple [(.str "plain"), (.str "row"), (.str "fixed"), (.str "shelf"), (.str "copy"), (.str "be"), (.str "take"), (.str "get"), (.str "same"), (.str "alike"), (.str "mark")])), ("KINDS", (.tuple [(.str "plain"), (.str "firm"), (.str "row"), (.str "shelf"), (.str "any")])), ("FIRM_ONES", (.tuple [(.str "plain"), (.str "firm")]))]
def inp : FK → List Nat
  | .fn "_law_next" => [0]
  | .fn "_law_letters" => [0]
  | .mt "Walk" "__init__" => [0]
  | .mt "Walk" "go" => [0]
  | .mt "Going" "__init__" => [0]
  | .mt "Going" "through" => [0]
  | _ => []
def mv (x y : Str) : Bool := false
def ld : LD := ⟨e_law, true, [e__law_word], ["_law_word"], [e_is_among, e_is_word, e_is_plain, e_is_box, e_is_part_number, e_length_of, e_is_deed, e_given_by, e_used_by, e_are_params, e_walked, e_need_program, e_is_kind, e_joined_kind, e_given_kind, e_wrong_word, e_kinds_behind, e_joined_all, e_told_kinds, e_gone_through, e_kinds_at, e__law_mixed, e__law_next, e__law_begin, e__law_letters, e__law_joins, e__law_made, e_Walk___init__, e_Walk_go, e_Going___init__, e_Going_through], ["deeds", "known", "rows_ahead", "wrongs"], csts, ["Walk", "Going"], inp, mv, ["BadProgram", "BadQuestion"], [x_BadProgram], ["HallError", "BadHall", "BadText", "BadDeed", "BadProgram", "BadWorth", "BadWay", "BadPaper", "BadQuestion", "TooGreat"]⟩
theorem ld_ok : ld.okB = true := by decide +kernel
theorem fl_nd : ld.fl.Nodup := by decide +kernel
theorem b_law : EntOk e_law := ⟨by decide +kernel, fun _ _ _ _ _ _ us hl => match us, hl with | [_], _ => rfl⟩
theorem b__law_word : EntOk e__law_word := ⟨by decide +kernel, fun _ _ _ _ _ _ us hl => match us, hl with | [_], _ => rfl⟩
theorem b_is_among : EntOk e_is_among := ⟨by decide +kernel, fun _ _ _ _ _ _ us hl => match us, hl with | [_, _, _], _ => rfl⟩
theorem b_is_word : EntOk e_is_word := ⟨by decide +kernel, fun _ _ _ _ _ _ us hl => match us, hl with | [_], _ => rfl⟩
theorem b_is_plain : EntOk e_is_plain := ⟨by decide +kernel, fun _ _ _ _ _ _ us hl => match us, hl with | [_], _ => rfl⟩
theorem b_is_box : EntOk e_is_box := ⟨by decide +kernel, fun _ _ _ _ _ _ us hl => match us, hl with | [_], _ => rfl⟩
theorem b_is_part_number : EntOk e_is_part_number := ⟨by decide +kernel, fun _ _ _ _ _ _ us hl => match us, hl with | [_], _ => rfl⟩
theorem b_length_of : EntOk e_length_of := ⟨by decide +kernel, fun _ _ _ _ _ _ us hl => match us, hl with | [_], _ => rfl⟩
theorem b_is_deed : EntOk e_is_deed := ⟨by decide +kernel, fun _ _ _ _ _ _ us hl => match us, hl with | [_], _ => rfl⟩
theorem b_given_by : EntOk e_given_by := ⟨by decide +kernel, fun _ _ _ _ _ _ us hl => match us, hl with | [_], _ => rfl⟩
theorem b_used_by : EntOk e_used_by := ⟨by decide +kernel, fun _ _ _ _ _ _ us hl => match us, hl with | [_], _ => rfl⟩
theorem b_are_params : EntOk e_are_params := ⟨by decide +kernel, fun _ _ _ _ _ _ us hl => match us, hl with | [_], _ => rfl⟩
theorem b_walked : EntOk e_walked := ⟨by decide +kernel, fun _ _ _ _ _ _ us hl => match us, hl with | [_], _ => rfl⟩
theorem b_need_program : EntOk e_need_program := ⟨by decide +kernel, fun _ _ _ _ _ _ us hl => match us, hl with | [_], _ => rfl⟩
theorem b_is_kind : EntOk e_is_kind := ⟨by decide +kernel, fun _ _ _ _ _ _ us hl => match us, hl with | [_], _ => rfl⟩
theorem b_joined_kind : EntOk e_joined_kind := ⟨by decide +kernel, fun _ _ _ _ _ _ us hl => match us, hl with | [_, _], _ => rfl⟩
theorem b_given_kind : EntOk e_given_kind := ⟨by decide +kernel, fun _ _ _ _ _ _ us hl => match us, hl with | [_, _], _ => rfl⟩
theorem b_wrong_word : EntOk e_wrong_word := ⟨by decide +kernel, fun _ _ _ _ _ _ us hl => match us, hl with | [_, _], _ => rfl⟩
theorem b_kinds_behind : EntOk e_kinds_behind := ⟨by decide +kernel, fun _ _ _ _ _ _ us hl => match us, hl with | [_, _], _ => rfl⟩
theorem b_joined_all : EntOk e_joined_all := ⟨by decide +kernel, fun _ _ _ _ _ _ us hl => match us, hl with | [_, _], _ => rfl⟩
theorem b_told_kinds : EntOk e_told_kinds := ⟨by decide +kernel, fun _ _ _ _ _ _ us hl => match us, hl with | [_], _ => rfl⟩
theorem b_gone_through : EntOk e_gone_through := ⟨by decide +kernel, fun _ _ _ _ _ _ us hl => match us, hl with | [_], _ => rfl⟩
theorem b_kinds_at : EntOk e_kinds_at := ⟨by decide +kernel, fun _ _ _ _ _ _ us hl => match us, hl with | [_], _ => rfl⟩
theorem b__law_mixed : EntOk e__law_mixed := ⟨by decide +kernel, fun _ _ _ _ _ _ us hl => match us, hl with | [_, _], _ => rfl⟩
theorem b__law_next : EntOk e__law_next := ⟨by decide +kernel, fun _ _ _ _ _ _ us hl => match us, hl with | [_, _], _ => rfl⟩
theorem b__law_begin : EntOk e__law_begin := ⟨by decide +kernel, fun _ _ _ _ _ _ us hl => match us, hl with | [_], _ => rfl⟩
theorem b__law_letters : EntOk e__law_letters := ⟨by decide +kernel, fun _ _ _ _ _ _ us hl => match us, hl with | [_, _], _ => rfl⟩
theorem b__law_joins : EntOk e__law_joins := ⟨by decide +kernel, fun _ _ _ _ _ _ us hl => match us, hl with | [_, _], _ => rfl⟩
theorem b__law_made : EntOk e__law_made := ⟨by decide +kernel, fun _ _ _ _ _ _ us hl => match us, hl with | [_, _, _], _ => rfl⟩
theorem b_Walk___init__ : EntOk e_Walk___init__ := ⟨by decide +kernel, fun _ _ _ _ _ _ us hl => match us, hl with | [_], _ => rfl⟩
theorem b_Walk_go : EntOk e_Walk_go := ⟨by decide +kernel, fun _ _ _ _ _ _ us hl => match us, hl with | [_, _, _, _], _ => rfl⟩
theorem b_Going___init__ : EntOk e_Going___init__ := ⟨by decide +kernel, fun _ _ _ _ _ _ us hl => match us, hl with | [_], _ => rfl⟩
theorem b_Going_through : EntOk e_Going_through := ⟨by decide +kernel, fun _ _ _ _ _ _ us hl => match us, hl with | [_, _, _], _ => rfl⟩
theorem ents_ok : EntsOk (ld.law :: (ld.lents ++ ld.ents)) := .cons b_law (.cons b__law_word (.cons b_is_among (.cons b_is_word (.cons b_is_plain (.cons b_is_box (.cons b_is_part_number (.cons b_length_of (.cons b_is_deed (.cons b_given_by (.cons b_used_by (.cons b_are_params (.cons b_walked (.cons b_need_program (.cons b_is_kind (.cons b_joined_kind (.cons b_given_kind (.cons b_wrong_word (.cons b_kinds_behind (.cons b_joined_all (.cons b_told_kinds (.cons b_gone_through (.cons b_kinds_at (.cons b__law_mixed (.cons b__law_next (.cons b__law_begin (.cons b__law_letters (.cons b__law_joins (.cons b__law_made (.cons b_Walk___init__ (.cons b_Walk_go (.cons b_Going___init__ (.cons b_Going_through (.nil)))))))))))))))))))))))))))))))))
theorem xb_BadProgram : XiOk x_BadProgram := ⟨by decide +kernel, fun _ _ _ _ _ _ us hl => match us, hl with | [_, _], _ => rfl⟩
theorem xis_ok : XisOk ld.xi := .cons xb_BadProgram (.nil)
abbrev R : PySem.W.OpenRow := PySem.W.OpenLaw.row PySem.Challenge.rw_likehall_k48_kinds_joined
abbrev hk : PySem.W.Hook := ld.hook 5
def ob (s : PySem.W.SharedT) : He.AlX := ld.obs 5 (HandSHeadRun.getT s)
theorem ob_eq (s : PySem.W.SharedT) : ob s = hk.obs s.abs := LD.obs_eq (HandSHeadRun.getT_eq s)
def loose : List PySem.Str := (["__name__", "HallError", "BadHall", "BadText", "BadDeed", "BadProgram", "BadWorth", "BadWay", "BadPaper", "BadQuestion", "TooGreat", "LETTERS_halls", "MOST_NUMBER", "MOST_LETTERS_halls", "is_among", "is_word", "is_plain", "LETTERS_programs", "MOST_LETTERS_programs", "MOST_PARAMS", "MOST_DEEDS", "MOST_DEEP", "MOST_BOXES", "MOST_PART", "PARAM_KINDS", "LENGTHS", "MORE_LENGTHS", "GIVERS", "is_box", "is_part_number"] : List PySem.Str) ++ (["length_of", "is_deed", "given_by", "used_by", "are_params", "Walk", "walked", "need_program", "KINDS", "FIRM_ONES", "is_kind", "joined_kind", "given_kind", "wrong_word", "kinds_behind", "joined_all", "told_kinds", "Going", "gone_through", "kinds_at", "_law_mixed", "_law_next", "_law_begin", "_law_letters", "_law_joins", "_law_word", "_law_made"] : List PySem.Str)
abbrev tab := ld.tab 40
end K48
set_option Elab.async false
set_option linter.all false
set_option maxRecDepth 100000
set_option maxHeartbeats 0
namespace K48
open PySem PySem.Spec PyProof.Rows L2 Iv
def cn (k : Nat) : CallFn := callN ld.sg tab 1000 k
theorem cn_of {key : FK} {d : Fn} (h : tab key = some d) (k : Nat) (ms : List M) (hl : key ≠ .lm := by exact fun z => nomatch z) : cn (k + 1) key ms = callF ld.sg (cn k) 1000 (ld.sg.inpl key) d ms := callN_key hl h ms
@[simp] theorem i_law : ld.sg.inpl (.fn "law") = [] := id rfl
@[simp] theorem i__law_word : ld.sg.inpl (.fn "_law_word") = [] := id rfl
@[simp] theorem i_is_among : ld.sg.inpl (.fn "is_among") = [] := id rfl
@[simp] theorem i_is_word : ld.sg.inpl (.fn "is_word") = [] := id rfl
@[simp] theorem i_is_plain : ld.sg.inpl (.fn "is_plain") = [] := id rfl
@[simp] theorem i_is_box : ld.sg.inpl (.fn "is_box") = [] := id rfl
@[simp] theorem i_is_part_number : ld.sg.inpl (.fn "is_part_number") = [] := id rfl
@[simp] theorem i_length_of : ld.sg.inpl (.fn "length_of") = [] := id rfl
@[simp] theorem i_is_deed : ld.sg.inpl (.fn "is_deed") = [] := id rfl
@[simp] theorem i_given_by : ld.sg.inpl (.fn "given_by") = [] := id rfl
@[simp] theorem i_used_by : ld.sg.inpl (.fn "used_by") = [] := id rfl
@[simp] theorem i_are_params : ld.sg.inpl (.fn "are_params") = [] := id rfl
@[simp] theorem i_walked : ld.sg.inpl (.fn "walked") = [] := id rfl
@[simp] theorem i_need_program : ld.sg.inpl (.fn "need_program") = [] := id rfl
@[simp] theorem i_is_kind : ld.sg.inpl (.fn "is_kind") = [] := id rfl
@[simp] theorem i_joined_kind : ld.sg.inpl (.fn "joined_kind") = [] := id rfl
@[simp] theorem i_given_kind : ld.sg.inpl (.fn "given_kind") = [] := id rfl
@[simp] theorem i_wrong_word : ld.sg.inpl (.fn "wrong_word") = [] := id rfl
@[simp] theorem i_kinds_behind : ld.sg.inpl (.fn "kinds_behind") = [] := id rfl
@[simp] theorem i_joined_all : ld.sg.inpl (.fn "joined_all") = [] := id rfl
@[simp] theorem i_told_kinds : ld.sg.inpl (.fn "told_kinds") = [] := id rfl
@[simp] theorem i_gone_through : ld.sg.inpl (.fn "gone_through") = [] := id rfl
@[simp] theorem i_kinds_at : ld.sg.inpl (.fn "kinds_at") = [] := id rfl
@[simp] theorem i__law_mixed : ld.sg.inpl (.fn "_law_mixed") = [] := id rfl
@[simp] theorem i__law_next : ld.sg.inpl (.fn "_law_next") = [0] := id rfl
@[simp] theorem i__law_begin : ld.sg.inpl (.fn "_law_begin") = [] := id rfl
@[simp] theorem i__law_letters : ld.sg.inpl (.fn "_law_letters") = [0] := id rfl
@[simp] theorem i__law_joins : ld.sg.inpl (.fn "_law_joins") = [] := id rfl
@[simp] theorem i__law_made : ld.sg.inpl (.fn "_law_made") = [] := id rfl
@[simp] theorem i_Walk___init__ : ld.sg.inpl (.mt "Walk" "__init__") = [0] := id rfl
@[simp] theorem k_Walk___init__ : ld.sg.keys.contains (.mt "Walk" "__init__") = true := by decide +kernel
@[simp] theorem i_Walk_go : ld.sg.inpl (.mt "Walk" "go") = [0] := id rfl
@[simp] theorem k_Walk_go : ld.sg.keys.contains (.mt "Walk" "go") = true := by decide +kernel
@[simp] theorem i_Going___init__ : ld.sg.inpl (.mt "Going" "__init__") = [0] := id rfl
@[simp] theorem k_Going___init__ : ld.sg.keys.contains (.mt "Going" "__init__") = true := by decide +kernel
@[simp] theorem i_Going_through : ld.sg.inpl (.mt "Going" "through") = [0] := id rfl
@[simp] theorem k_Going_through : ld.sg.keys.contains (.mt "Going" "through") = true := by decide +kernel
def c_law : Fn := ⟨18, 1, [(.asg 1 (.cal "_law_begin" [(.var 0)])), (.asg 2 (.cal "_law_next" [(.var 1), (.cst (.int 26))])), (.asg 3 (.lcp (.sub (.cst (.str "abcdefghijklmnopqrstuvwxyz")) (.bin .mod (.bin .add (.var 2) (.bin .mul (.cst (.int 9)) (.var 12))) (.cst (.int 26)))) [12] true (.rng (.cst (.int 3))) [])), (.unp [7, 8, 9] (.lcp (.bin .add (.var 13) (.cal "_law_letters" [(.var 1), (.cal "_law_next" [(.var 1), (.cst (.int 6))])])) [13] true (.val (.var 3)) [])), (.asg 4 (.lst [(.cst (.str "plain")), (.cst (.str "firm")), (.cst (.str "row")), (.cst (.str "shelf")), (.cst (.str "any"))])), (.asg 5 (.lst [(.cst .none), (.cst (.str "")), (.cst (.str "Plain")), (.cst (.str "cell")), (.cst (.int 5)), (.cst (.bool true)), (.lst [(.cst (.str "row"))]), (.tup [(.cst (.str "row"))]), (.cst (.str "any ")), (.cst (.str "rows")), (.dct []), (.cst (.str "fir")), (.cst (.int 0)), (.cst (.str "word"))])), (.fo [6] true (.val (.var 4)) [(.fo [10] true (.val (.var 4)) [(.asg 14 (.cal "_law_joins" [(.var 6), (.var 10)])), (.ite (.or (.cmp .ne (.cal "joined_kind" [(.var 6), (.var 10)]) (.var 14)) (.cmp .ne (.cal "joined_kind" [(.var 10), (.var 6)]) (.var 14))) [(.ret (.cst (.bool false)))] []), (.asg 15 (.tup [(.tup [(.cst (.str "if")), (.var 7), (.tup [(.cal "_law_made" [(.var 6), (.var 9), (.var 8)])]), (.tup [(.cal "_law_made" [(.var 10), (.var 9), (.var 8)])])]), (.tup [(.cst (.str "tell")), (.var 9)])])), (.asg 16 (.cal "kinds_at" [(.tup [(.tup [(.tup [(.var 7), (.cst (.str "plain"))]), (.tup [(.var 8), (.cst (.str "any"))])]), (.var 15)])])), (.ite (.cmp .ne (.sub (.var 16) (.cst (.int 3))) (.prm .tuple [(.prm .sorted [(.lst [(.tup [(.var 7), (.cst (.str "plain"))]), (.tup [(.var 8), (.cst (.str "any"))]), (.tup [(.var 9), (.var 14)])])])])) [(.ret (.cst (.bool false)))] [])]), (.fo [11] true (.val (.lst [(.cst (.str "")), (.sub (.var 5) (.cal "_law_next" [(.var 1), (.prm .len [(.var 5)])])), (.sub (.var 5) (.cal "_law_next" [(.var 1), (.prm .len [(.var 5)])]))])) [(.fo [17] true (.val (.tup [(.tup [(.var 6), (.var 11)]), (.tup [(.var 11), (.var 6)]), (.tup [(.var 11), (.var 11)])])) [(.ite (.cmp .ne (.lam "_law_word" 18 [17] (.cal "joined_kind" [(.sub (.var 17) (.cst (.int 0))), (.sub (.var 17) (.cst (.int 1)))])) (.cst (.str "question"))) [(.ret (.cst (.bool false)))] [])])])]), (.ret (.cst (.bool true)))]⟩
theorem t_law : tab (.fn "law") = some c_law := by kernel_rfl
def c__law_word : Fn := ⟨8, 1, [(.asg 1 (.cst .none)), (.tr [(.exp (.thc 0))] "HallError" (some 2) (.keep 1)), (.ite (.isn false (.var 1)) [(.ret (.cst (.str "")))] []), (.asg 3 (.lst [(.tup [(.cst (.str "program")), (.isx (.var 1) ["BadProgram"])]), (.tup [(.cst (.str "paper")), (.isx (.var 1) ["BadPaper"])])])), (.asg 3 (.bin .add (.var 3) (.lst [(.tup [(.cst (.str "question")), (.isx (.var 1) ["BadQuestion"])])]))), (.asg 4 (.lcp (.var 6) [6, 7] false (.val (.var 3)) [(.var 7)])), (.asg 5 (.isx (.var 1) ["BadHall", "BadText", "BadDeed", "BadWorth", "BadWay", "TooGreat"])), (.ret (.ite (.and (.cmp .eq (.prm .len [(.var 4)]) (.cst (.int 1))) (.and (.isx (.var 1) ["ValueError"]) (.not (.var 5)))) (.sub (.var 4) (.cst (.int 0))) (.cst (.str "other"))))]⟩
theorem t__law_word : tab (.fn "_law_word") = some c__law_word := by kernel_rfl
def c_is_among : Fn := ⟨3, 3, [(.ret (.and (.prm (.isi "int") [(.var 0)]) (.and (.not (.prm (.isi "bool") [(.var 0)])) (.chn .le .le (.var 1) (.var 0) (.var 2)))))]⟩
theorem t_is_among : tab (.fn "is_among") = some c_is_among := by kernel_rfl
def c_is_word : Fn := ⟨2, 1, [(.ite (.or (.not (.prm (.isi "str") [(.var 0)])) (.or (.not (.chn .le .le (.cst (.int 1)) (.prm .len [(.var 0)]) (.cst (.int 6)))) (.cmp .isin (.var 0) (.tup [(.cst (.str "true")), (.cst (.str "false"))])))) [(.ret (.cst (.bool false)))] []), (.ret (.prm .all [(.lcp (.cmp .isin (.var 1) (.cst (.str "abcdefghijklmnopqrstuvwxyz"))) [1] true (.val (.var 0)) [])]))]⟩
theorem t_is_word : tab (.fn "is_word") = some c_is_word := by kernel_rfl
def c_is_plain : Fn := ⟨1, 1, [(.ret (.or (.prm (.isi "bool") [(.var 0)]) (.or (.cal "is_word" [(.var 0)]) (.cal "is_among" [(.var 0), (.bin .sub (.cst (.int 0)) (.cst (.int 1000000))), (.cst (.int 1000000))]))))]⟩
theorem t_is_plain : tab (.fn "is_plain") = some c_is_plain := by kernel_rfl
def c_is_box : Fn := ⟨2, 1, [(.ret (.and (.prm (.isi "str") [(.var 0)]) (.and (.chn .le .le (.cst (.int 1)) (.prm .len [(.var 0)]) (.cst (.int 6))) (.prm .all [(.lcp (.cmp .isin (.var 1) (.cst (.str "abcdefghijklmnopqrstuvwxyz"))) [1] true (.val (.var 0)) [])]))))]⟩
theorem t_is_box : tab (.fn "is_box") = some c_is_box := by kernel_rfl
def c_is_part_number : Fn := ⟨1, 1, [(.ret (.and (.prm (.isi "int") [(.var 0)]) (.and (.not (.prm (.isi "bool") [(.var 0)])) (.chn .le .le (.cst (.int 0)) (.var 0) (.cst (.int 7))))))]⟩
theorem t_is_part_number : tab (.fn "is_part_number") = some c_is_part_number := by kernel_rfl
def c_length_of : Fn := ⟨1, 1, [(.ret (.bmt .dget (.cst (.dict [((.str "plain"), (.int 3)), ((.str "row"), (.int 3)), ((.str "fixed"), (.int 3)), ((.str "shelf"), (.int 2)), ((.str "copy"), (.int 3)), ((.str "be"), (.int 3)), ((.str "take"), (.int 4)), ((.str "set"), (.int 4)), ((.str "put"), (.int 4)), ((.str "drop"), (.int 3))])) [(.var 0), (.bmt .dget (.cst (.dict [((.str "get"), (.int 4)), ((.str "same"), (.int 4)), ((.str "alike"), (.int 4)), ((.str "mark"), (.int 3)), ((.str "tell"), (.int 2)), ((.str "if"), (.int 4))])) [(.var 0), (.cst (.int 0))])]))]⟩
theorem t_length_of : tab (.fn "length_of") = some c_length_of := by kernel_rfl
def c_is_deed : Fn := ⟨2, 1, [(.ite (.or (.not (.prm (.isi "tuple") [(.var 0)])) (.or (.cmp .eq (.var 0) (.tup [])) (.not (.prm (.isi "str") [(.sub (.var 0) (.cst (.int 0)))])))) [(.ret (.cst (.bool false)))] []), (.ite (.or (.cmp .ne (.cal "length_of" [(.sub (.var 0) (.cst (.int 0)))]) (.prm .len [(.var 0)])) (.not (.cal "is_box" [(.sub (.var 0) (.cst (.int 1)))]))) [(.ret (.cst (.bool false)))] []), (.ite (.cmp .eq (.sub (.var 0) (.cst (.int 0))) (.cst (.str "plain"))) [(.ret (.cal "is_plain" [(.sub (.var 0) (.cst (.int 2)))]))] []), (.ite (.cmp .isin (.sub (.var 0) (.cst (.int 0))) (.tup [(.cst (.str "row")), (.cst (.str "fixed"))])) [(.ret (.and (.prm (.isi "tuple") [(.sub (.var 0) (.cst (.int 2)))]) (.and (.cmp .le (.prm .len [(.sub (.var 0) (.cst (.int 2)))]) (.cst (.int 4))) (.prm .all [(.lcp (.cal "is_box" [(.var 1)]) [1] true (.val (.sub (.var 0) (.cst (.int 2)))) [])]))))] []), (.ite (.cmp .eq (.sub (.var 0) (.cst (.int 0))) (.cst (.str "if"))) [(.ret (.and (.prm (.isi "tuple") [(.sub (.var 0) (.cst (.int 2)))]) (.prm (.isi "tuple") [(.sub (.var 0) (.cst (.int 3)))])))] []), (.ite (.cmp .eq (.sub (.var 0) (.cst (.int 0))) (.cst (.str "take"))) [(.ret (.and (.cal "is_box" [(.sub (.var 0) (.cst (.int 2)))]) (.cal "is_part_number" [(.sub (.var 0) (.cst (.int 3)))])))] []), (.ite (.cmp .eq (.sub (.var 0) (.cst (.int 0))) (.cst (.str "set"))) [(.ret (.and (.cal "is_part_number" [(.sub (.var 0) (.cst (.int 2)))]) (.cal "is_box" [(.sub (.var 0) (.cst (.int 3)))])))] []), (.ret (.prm .all [(.lcp (.cal "is_box" [(.var 1)]) [1] true (.val (.slc (.var 0) (.cst (.int 2)) (.cst .none))) [])]))]⟩
theorem t_is_deed : tab (.fn "is_deed") = some c_is_deed := by kernel_rfl
def c_given_by : Fn := ⟨1, 1, [(.ret (.ite (.cmp .isin (.sub (.var 0) (.cst (.int 0))) (.cst (.tuple [(.str "plain"), (.str "row"), (.str "fixed"), (.str "shelf"), (.str "copy"), (.str "be"), (.str "take"), (.str "get"), (.str "same"), (.str "alike"), (.str "mark")]))) (.sub (.var 0) (.cst (.int 1))) (.cst .none)))]⟩
theorem t_given_by : tab (.fn "given_by") = some c_given_by := by kernel_rfl
def c_used_by : Fn := ⟨1, 1, [(.ite (.cmp .isin (.sub (.var 0) (.cst (.int 0))) (.tup [(.cst (.str "plain")), (.cst (.str "shelf"))])) [(.ret (.lst []))] []), (.ite (.cmp .isin (.sub (.var 0) (.cst (.int 0))) (.tup [(.cst (.str "row")), (.cst (.str "fixed"))])) [(.ret (.prm .list [(.sub (.var 0) (.cst (.int 2)))]))] []), (.ite (.cmp .eq (.sub (.var 0) (.cst (.int 0))) (.cst (.str "take"))) [(.ret (.lst [(.sub (.var 0) (.cst (.int 2)))]))] []), (.ite (.cmp .eq (.sub (.var 0) (.cst (.int 0))) (.cst (.str "set"))) [(.ret (.lst [(.sub (.var 0) (.cst (.int 1))), (.sub (.var 0) (.cst (.int 3)))]))] []), (.ite (.cmp .eq (.sub (.var 0) (.cst (.int 0))) (.cst (.str "if"))) [(.ret (.lst [(.sub (.var 0) (.cst (.int 1)))]))] []), (.ret (.ite (.cmp .isin (.sub (.var 0) (.cst (.int 0))) (.cst (.tuple [(.str "plain"), (.str "row"), (.str "fixed"), (.str "shelf"), (.str "copy"), (.str "be"), (.str "take"), (.str "get"), (.str "same"), (.str "alike"), (.str "mark")]))) (.prm .list [(.slc (.var 0) (.cst (.int 2)) (.cst .none))]) (.prm .list [(.slc (.var 0) (.cst (.int 1)) (.cst .none))])))]⟩
theorem t_used_by : tab (.fn "used_by") = some c_used_by := by kernel_rfl
def c_are_params : Fn := ⟨2, 1, [(.ite (.or (.not (.prm (.isi "tuple") [(.var 0)])) (.cmp .gt (.prm .len [(.var 0)]) (.cst (.int 3)))) [(.ret (.cst (.bool false)))] []), (.fo [1] true (.val (.var 0)) [(.ite (.or (.not (.prm (.isi "tuple") [(.var 1)])) (.or (.cmp .ne (.prm .len [(.var 1)]) (.cst (.int 2))) (.not (.cal "is_box" [(.sub (.var 1) (.cst (.int 0)))])))) [(.ret (.cst (.bool false)))] []), (.ite (.or (.not (.prm (.isi "str") [(.sub (.var 1) (.cst (.int 1)))])) (.cmp .notin (.sub (.var 1) (.cst (.int 1))) (.cst (.tuple [(.str "plain"), (.str "firm"), (.str "any")])))) [(.ret (.cst (.bool false)))] [])]), (.ret (.cmp .eq (.prm .set [(.lcp (.sub (.var 1) (.cst (.int 0))) [1] true (.val (.var 0)) [])]) (.prm .len [(.var 0)])))]⟩
theorem t_are_params : tab (.fn "are_params") = some c_are_params := by kernel_rfl
def c_walked : Fn := ⟨4, 1, [(.ite (.or (.not (.prm (.isi "tuple") [(.var 0)])) (.or (.cmp .ne (.prm .len [(.var 0)]) (.cst (.int 2))) (.not (.cal "are_params" [(.sub (.var 0) (.cst (.int 0)))])))) [(.rse "BadProgram" true (.prm .neg [(.cst (.int 1))]))] []), (.ite (.or (.not (.prm (.isi "tuple") [(.sub (.var 0) (.cst (.int 1)))])) (.cmp .eq (.sub (.var 0) (.cst (.int 1))) (.tup []))) [(.rse "BadProgram" true (.prm .neg [(.cst (.int 1))]))] []), (.asg 1 (.new "Walk" [])), (.exp (.mth (.var 1) "go" [(.sub (.var 0) (.cst (.int 1))), (.prm .dict [(.lcp (.tup [(.var 2), (.cst (.bool true))]) [2, 3] false (.val (.sub (.var 0) (.cst (.int 0)))) [])]), (.cst (.int 1))])), (.ret (.var 1))]⟩
theorem t_walked : tab (.fn "walked") = some c_walked := by kernel_rfl
def c_need_program : Fn := ⟨1, 1, [(.exp (.cal "walked" [(.var 0)])), (.ret (.var 0))]⟩
theorem t_need_program : tab (.fn "need_program") = some c_need_program := by kernel_rfl
def c_is_kind : Fn := ⟨1, 1, [(.ret (.and (.prm (.isi "str") [(.var 0)]) (.cmp .isin (.var 0) (.cst (.tuple [(.str "plain"), (.str "firm"), (.str "row"), (.str "shelf"), (.str "any")])))))]⟩
theorem t_is_kind : tab (.fn "is_kind") = some c_is_kind := by kernel_rfl
def c_joined_kind : Fn := ⟨2, 2, [(.ite (.or (.not (.cal "is_kind" [(.var 0)])) (.not (.cal "is_kind" [(.var 1)]))) [(.rse "BadQuestion" false (.cst (.str "two kinds are wanted")))] []), (.ite (.cmp .eq (.var 0) (.var 1)) [(.ret (.var 0))] []), (.ret (.ite (.and (.cmp .isin (.var 0) (.cst (.tuple [(.str "plain"), (.str "firm")]))) (.cmp .isin (.var 1) (.cst (.tuple [(.str "plain"), (.str "firm")])))) (.cst (.str "firm")) (.cst (.str "any"))))]⟩
theorem t_joined_kind : tab (.fn "joined_kind") = some c_joined_kind := by kernel_rfl
def c_given_kind : Fn := ⟨4, 2, [(.asg 2 (.sub (.var 0) (.cst (.int 0)))), (.ite (.cmp .isin (.var 2) (.tup [(.cst (.str "plain")), (.cst (.str "same")), (.cst (.str "alike")), (.cst (.str "mark"))])) [(.ret (.cst (.str "plain")))] []), (.ite (.cmp .isin (.var 2) (.tup [(.cst (.str "row")), (.cst (.str "shelf"))])) [(.ret (.var 2))] []), (.ite (.cmp .eq (.var 2) (.cst (.str "fixed"))) [(.ret (.ite (.prm .all [(.lcp (.cmp .isin (.sub (.var 1) (.var 3)) (.cst (.tuple [(.str "plain"), (.str "firm")]))) [3] true (.val (.sub (.var 0) (.cst (.int 2)))) [])]) (.cst (.str "firm")) (.cst (.str "any"))))] []), (.ite (.cmp .isin (.var 2) (.tup [(.cst (.str "copy")), (.cst (.str "be"))])) [(.ret (.ite (.cmp .eq (.sub (.var 1) (.sub (.var 0) (.cst (.int 2)))) (.cst (.str "plain"))) (.cst (.str "firm")) (.sub (.var 1) (.sub (.var 0) (.cst (.int 2))))))] []), (.ite (.cmp .eq (.var 2) (.cst (.str "take"))) [(.ret (.ite (.cmp .isin (.sub (.var 1) (.sub (.var 0) (.cst (.int 2)))) (.cst (.tuple [(.str "plain"), (.str "firm")]))) (.cst (.str "firm")) (.cst (.str "any"))))] []), (.ret (.ite (.cmp .eq (.var 2) (.cst (.str "get"))) (.cst (.str "any")) (.cst .none)))]⟩
theorem t_given_kind : tab (.fn "given_kind") = some c_given_kind := by kernel_rfl
def c_wrong_word : Fn := ⟨2, 2, [(.ite (.cmp .eq (.sub (.var 0) (.cst (.int 0))) (.cst (.str "set"))) [(.ret (.ite (.cmp .eq (.sub (.var 1) (.sub (.var 0) (.cst (.int 1)))) (.cst (.str "row"))) (.cst (.str "")) (.cst (.str "row"))))] []), (.ite (.cmp .notin (.sub (.var 0) (.cst (.int 0))) (.tup [(.cst (.str "put")), (.cst (.str "drop"))])) [(.ret (.cst (.str "")))] []), (.ite (.cmp .ne (.sub (.var 1) (.sub (.var 0) (.cst (.int 1)))) (.cst (.str "shelf"))) [(.ret (.cst (.str "shelf")))] []), (.ret (.ite (.and (.cmp .eq (.sub (.var 0) (.cst (.int 0))) (.cst (.str "put"))) (.cmp .notin (.sub (.var 1) (.sub (.var 0) (.cst (.int 2)))) (.cst (.tuple [(.str "plain"), (.str "firm")])))) (.cst (.str "key")) (.cst (.str ""))))]⟩
theorem t_wrong_word : tab (.fn "wrong_word") = some c_wrong_word := by kernel_rfl
def c_kinds_behind : Fn := ⟨4, 2, [(.asg 2 (.cal "given_kind" [(.var 0), (.var 1)])), (.asg 3 (.prm .dict [(.var 1)])), (.ite (.isn true (.var 2)) [(.sub 3 none (.sub (.var 0) (.cst (.int 1))) (.var 2))] []), (.ret (.var 3))]⟩
theorem t_kinds_behind : tab (.fn "kinds_behind") = some c_kinds_behind := by kernel_rfl
def c_joined_all : Fn := ⟨3, 2, [(.ret (.prm .dict [(.lcp (.tup [(.var 2), (.cal "joined_kind" [(.sub (.var 0) (.var 2)), (.sub (.var 1) (.var 2))])]) [2] true (.val (.var 0)) [(.cmp .isin (.var 2) (.var 1))])]))]⟩
theorem t_joined_all : tab (.fn "joined_all") = some c_joined_all := by kernel_rfl
def c_told_kinds : Fn := ⟨1, 1, [(.ret (.prm .tuple [(.prm .sitems [(.var 0)])]))]⟩
theorem t_told_kinds : tab (.fn "told_kinds") = some c_told_kinds := by kernel_rfl
def c_gone_through : Fn := ⟨2, 1, [(.exp (.cal "need_program" [(.var 0)])), (.asg 1 (.new "Going" [])), (.exp (.mth (.var 1) "through" [(.sub (.var 0) (.cst (.int 1))), (.prm .dict [(.sub (.var 0) (.cst (.int 0)))])])), (.ret (.var 1))]⟩
theorem t_gone_through : tab (.fn "gone_through") = some c_gone_through := by kernel_rfl
def c_kinds_at : Fn := ⟨1, 1, [(.ret (.prm .tuple [(.tfl (.cal "gone_through" [(.var 0)]) 2)]))]⟩
theorem t_kinds_at : tab (.fn "kinds_at") = some c_kinds_at := by kernel_rfl
def c__law_mixed : Fn := ⟨3, 2, [(.asg 2 (.bin .mod (.bin .mul (.bin .add (.bin .add (.bin .add (.bin .mod (.var 0) (.cst (.int 1000000007))) (.bin .mul (.bin .mul (.cst (.int 7919)) (.var 1)) (.var 1))) (.bin .mul (.cst (.int 31)) (.var 1))) (.cst (.int 7))) (.cst (.int 48271))) (.cst (.int 2147483647)))), (.ret (.bin .fdiv (.bin .mod (.bin .mul (.var 2) (.bin .add (.cst (.int 69621)) (.bin .mul (.cst (.int 2)) (.bin .mod (.var 1) (.cst (.int 1000)))))) (.cst (.int 2147483629))) (.cst (.int 7))))]⟩
theorem t__law_mixed : tab (.fn "_law_mixed") = some c__law_mixed := by kernel_rfl
def c__law_next : Fn := ⟨6, 2, [(.ite (.cmp .gt (.sub (.var 0) (.cst (.str "left"))) (.cst (.int 0))) [(.asg 5 (.bin .mod (.sub (.var 0) (.cst (.str "left"))) (.var 1))), (.sub 0 none (.cst (.str "left")) (.bin .fdiv (.sub (.var 0) (.cst (.str "left"))) (.var 1))), (.ret (.var 5))] []), (.asg 2 (.sub (.var 0) (.cst (.str "at")))), (.sub 0 none (.cst (.str "at")) (.bin .add (.var 2) (.cst (.int 1)))), (.asg 3 (.sub (.sub (.var 0) (.cst (.str "cells"))) (.bin .mod (.var 2) (.prm .len [(.sub (.var 0) (.cst (.str "cells")))])))), (.ite (.and (.cmp .ge (.var 3) (.bin .pow (.cst (.int 10)) (.cst (.int 18)))) (.cmp .lt (.var 2) (.prm .len [(.sub (.var 0) (.cst (.str "cells")))]))) [(.sub 0 none (.cst (.str "left")) (.bin .fdiv (.var 3) (.var 1))), (.ret (.bin .mod (.var 3) (.var 1)))] []), (.asg 4 (.cal "_law_mixed" [(.cal "_law_mixed" [(.var 3), (.var 2)]), (.bin .add (.var 2) (.cst (.int 40)))])), (.ret (.bin .mod (.bin .fdiv (.bin .add (.bin .mul (.var 4) (.cst (.int 2147483647))) (.cal "_law_mixed" [(.var 4), (.bin .add (.var 2) (.cst (.int 7)))])) (.cst (.int 64))) (.var 1)))]⟩
theorem t__law_next : tab (.fn "_law_next") = some c__law_next := by kernel_rfl
def c__law_begin : Fn := ⟨1, 1, [(.ret (.dct [(.cst (.str "cells")), (.bin .add (.var 0) (.lst [(.cst (.int 0))])), (.cst (.str "at")), (.cst (.int 0)), (.cst (.str "left")), (.cst (.int 0))]))]⟩
theorem t__law_begin : tab (.fn "_law_begin") = some c__law_begin := by kernel_rfl
def c__law_letters : Fn := ⟨3, 2, [(.ret (.bmt .join (.cst (.str "")) [(.lcp (.sub (.cst (.str "abcdefghijklmnopqrstuvwxyz")) (.cal "_law_next" [(.var 0), (.cst (.int 26))])) [2] true (.rng (.var 1)) [])]))]⟩
theorem t__law_letters : tab (.fn "_law_letters") = some c__law_letters := by kernel_rfl
def c__law_joins : Fn := ⟨2, 2, [(.ite (.cmp .eq (.var 0) (.var 1)) [(.ret (.var 0))] []), (.ret (.ite (.cmp .eq (.prm .sorted [(.lst [(.var 0), (.var 1)])]) (.lst [(.cst (.str "firm")), (.cst (.str "plain"))])) (.cst (.str "firm")) (.cst (.str "any"))))]⟩
theorem t__law_joins : tab (.fn "_law_joins") = some c__law_joins := by kernel_rfl
def c__law_made : Fn := ⟨4, 3, [(.asg 3 (.dct [(.cst (.str "plain")), (.tup [(.cst (.str "plain")), (.var 1), (.cst (.int 5))]), (.cst (.str "firm")), (.tup [(.cst (.str "fixed")), (.var 1), (.tup [])]), (.cst (.str "row")), (.tup [(.cst (.str "row")), (.var 1), (.tup [])]), (.cst (.str "shelf")), (.tup [(.cst (.str "shelf")), (.var 1)])])), (.ret (.bmt .dget (.var 3) [(.var 0), (.tup [(.cst (.str "be")), (.var 1), (.var 2)])]))]⟩
theorem t__law_made : tab (.fn "_law_made") = some c__law_made := by kernel_rfl
def c_Walk___init__ : Fn := ⟨1, 1, [(.fld 0 0 (.lst [])), (.fld 0 1 (.lst []))]⟩
theorem t_Walk___init__ : tab (.mt "Walk" "__init__") = some c_Walk___init__ := by kernel_rfl
def c_Walk_go : Fn := ⟨9, 4, [(.fo [4] true (.val (.var 1)) [(.asg 5 (.prm .len [(.fld 0 0)])), (.ite (.or (.cmp .eq (.var 5) (.cst (.int 30))) (.or (.cmp .gt (.var 3) (.cst (.int 3))) (.not (.cal "is_deed" [(.var 4)])))) [(.rse "BadProgram" true (.var 5))] []), (.ite (.not (.prm .all [(.lcp (.cmp .isin (.var 8) (.var 2)) [8] true (.val (.cal "used_by" [(.var 4)])) [])])) [(.rse "BadProgram" true (.var 5))] []), (.exp (.mut .append 0 (some 0) [(.var 4)])), (.exp (.mut .append 0 (some 1) [(.prm .tuple [(.prm .sorted [(.var 2)])])])), (.ite (.cmp .eq (.sub (.var 4) (.cst (.int 0))) (.cst (.str "if"))) [(.asg 6 (.mth (.var 0) "go" [(.sub (.var 4) (.cst (.int 2))), (.prm .dict [(.var 2)]), (.bin .add (.var 3) (.cst (.int 1)))])), (.asg 7 (.mth (.var 0) "go" [(.sub (.var 4) (.cst (.int 3))), (.prm .dict [(.var 2)]), (.bin .add (.var 3) (.cst (.int 1)))])), (.asg 2 (.prm .dict [(.lcp (.tup [(.var 8), (.cst (.bool true))]) [8] true (.val (.var 6)) [(.cmp .isin (.var 8) (.var 7))])]))] [(.ite (.cmp .isnot (.cal "given_by" [(.var 4)]) (.cst .none)) [(.sub 2 none (.cal "given_by" [(.var 4)]) (.cst (.bool true)))] [])])]), (.ret (.var 2))]⟩
theorem t_Walk_go : tab (.mt "Walk" "go") = some c_Walk_go := by kernel_rfl
def c_Going___init__ : Fn := ⟨1, 1, [(.fld 0 2 (.lst [])), (.fld 0 3 (.lst []))]⟩
theorem t_Going___init__ : tab (.mt "Going" "__init__") = some c_Going___init__ := by kernel_rfl
def c_Going_through : Fn := ⟨6, 3, [(.fo [3] true (.val (.var 1)) [(.asg 4 (.cal "wrong_word" [(.var 3), (.var 2)])), (.ite (.cmp .ne (.var 4) (.cst (.str ""))) [(.exp (.mut .append 0 (some 3) [(.tup [(.prm .len [(.fld 0 2)]), (.var 4)])]))] []), (.exp (.mut .append 0 (some 2) [(.cal "told_kinds" [(.var 2)])])), (.ite (.cmp .eq (.sub (.var 3) (.cst (.int 0))) (.cst (.str "if"))) [(.asg 5 (.mth (.var 0) "through" [(.sub (.var 3) (.cst (.int 2))), (.var 2)])), (.asg 2 (.cal "joined_all" [(.var 5), (.mth (.var 0) "through" [(.sub (.var 3) (.cst (.int 3))), (.var 2)])]))] [(.asg 2 (.cal "kinds_behind" [(.var 3), (.var 2)]))])]), (.ret (.var 2))]⟩
theorem t_Going_through : tab (.mt "Going" "through") = some c_Going_through := by kernel_rfl
end K48
set_option Elab.async false
set_option linter.all false
set_option maxRecDepth 100000
set_option maxHeartbeats 0
namespace K48
open PySem PySem.Spec PyProof.Rows L2 Iv
theorem run (w : World) : HandSHeadRun.RunEq R (PySem.W.view R.prog [61]) hk ob 9000 loose w :=
  PySem.W.byRow2 "special-get-raises" (P := fun w => HandSHeadRun.RunEq R (PySem.W.view R.prog [61]) hk ob 9000 loose w) (fun w => by intro os; kernel_rfl) (fun w => by intro os; kernel_rfl) w
end K48
set_option Elab.async false
set_option linter.all false
set_option maxRecDepth 100000
set_option maxHeartbeats 400000
namespace K48
open PySem (PyData Str)
open Iv
/-! draws -/
structure St where
  xs : List Int
  at_ : Nat
  left : Int
def stD (xs : List D) (a l : Int) : List (D × D) := [(.str "cells", .list xs), (.str "at", .int a), (.str "left", .int l)]
def St.d (s : St) : List (D × D) := stD (s.xs.map PyData.int) s.at_ s.left
@[simp] theorem st_cells (xs : List D) (a l : Int) : getK (stD xs a l) (.str "cells") = some (.list xs) := by simp [stD]
@[simp] theorem st_left (xs : List D) (a l : Int) : getK (stD xs a l) (.str "left") = some (.int l) := by simp [stD]
@[simp] theorem st_at (xs : List D) (a l : Int) : getK (stD xs a l) (.str "at") = some (.int a) := by simp [stD]
@[simp] theorem pu_left (xs : List D) (a l v : Int) : putK (.str "left") (.int v) (stD xs a l) = stD xs a v := by simp [stD, putK]
@[simp] theorem pu_at (xs : List D) (a l v : Int) : putK (.str "at") (.int v) (stD xs a l) = stD xs v l := by simp [stD, putK]
@[simp] theorem st_len (xs : List D) (a l : Int) : (stD xs a l).length = 3 := rfl
theorem small_of {i : Int} (h : -(2 ^ 64) < i) (h2 : i < 2 ^ 64) : small i = true := by simp [small]; omega
def mixed (c k : Int) : Int := ((c % 1000000007 + 7919 * k * k + 31 * k + 7) * 48271 % 2147483647) * (69621 + 2 * (k % 1000)) % 2147483629 / 7
theorem b_mixed (cf : CallFn) (c k : Int) (s2 : small k = true) : callF ld.sg cf 1000 [] c__law_mixed [.imm (.int c), .imm (.int k)] = some (.ret (.imm (.int (mixed c k))) [none, none]) := by
  have s3 : small 7919 = true := by decide
  have s4 : small 31 = true := by decide
  have s5 : small 48271 = true := by decide
  have s6 : small 2 = true := by decide
  have m0 : 0 ≤ k % 1000 := Int.emod_nonneg _ (by decide)
  have m1 : k % 1000 < 1000 := Int.emod_lt_of_pos _ (by decide)
  have s7 : small (69621 + 2 * (k % 1000)) = true := small_of (by omega) (by omega)
  unfold mixed
  clear m0 m1
  simp [c__law_mixed, callF, s2, s3, s4, s5, s6, s7]
theorem cn_mixed (n : Nat) (c k : Int) (h1 : 0 ≤ k) (h2 : k < 2 ^ 40) : ∃ v : Int, cn (n + 1) (.fn "_law_mixed") [.imm (.int c), .imm (.int k)] = some (.ret (.imm (.int v)) [none, none]) := by
  rw [cn_of t__law_mixed]
  exact ⟨_, b_mixed _ c k (small_of (by omega) (by omega))⟩
/-- a great one's digits are there yet -/
theorem b_next1 (cf : CallFn) (xs : List D) (a l n : Int) (h1 : 0 < n) (h2 : n < 1073741824) (hl : 0 < l) : callF ld.sg cf 1000 [0] c__law_next [.dic (stD xs a l), .imm (.int n)] = some (.ret (.imm (.int (l % n))) [some (.dic (stD xs a (l / n))), none]) := by
  simp [c__law_next, callF, hl, h1, h2, line]
/-- a great cell -/
theorem b_next2 (cf : CallFn) (xs : List D) (a l n c : Int) (h1 : 0 < n) (h2 : n < 1073741824) (hl : ¬ 0 < l) (h0 : 0 < (xs.length : Int)) (hc : L2.atI xs (a % (xs.length : Int)) = some (.int c)) (hb : 1000000000000000000 ≤ c) (ha : a < (xs.length : Int)) :
    callF ld.sg cf 1000 [0] c__law_next [.dic (stD xs a l), .imm (.int n)] = some (.ret (.imm (.int (c % n))) [some (.dic (stD xs (a + 1) (c / n))), none]) := by
  generalize hz : (xs.length : Int) = z at h0 hc ha
  simp [c__law_next, callF, hl, h1, h2, hz, h0, hc, hb, ha, line]
theorem b_next3 (cf : CallFn) (xs : List D) (a l n c u v w : Int) (h1 : 0 < n) (h2 : n < 1073741824) (hl : ¬ 0 < l) (h0 : 0 < (xs.length : Int)) (hc : L2.atI xs (a % (xs.length : Int)) = some (.int c)) (hb : ¬ (1000000000000000000 ≤ c ∧ a < (xs.length : Int)))
    (m1 : cf (.fn "_law_mixed") [.imm (.int c), .imm (.int a)] = some (.ret (.imm (.int u)) [none, none])) (m2 : cf (.fn "_law_mixed") [.imm (.int u), .imm (.int (a + 40))] = some (.ret (.imm (.int v)) [none, none])) (m3 : cf (.fn "_law_mixed") [.imm (.int v), .imm (.int (a + 7))] = some (.ret (.imm (.int w)) [none, none])) :
    callF ld.sg cf 1000 [0] c__law_next [.dic (stD xs a l), .imm (.int n)] = some (.ret (.imm (.int ((v * 2147483647 + w) / 64 % n))) [some (.dic (stD xs (a + 1) l)), none]) := by
  have s3 : small 2147483647 = true := by decide
  generalize hz : (xs.length : Int) = z at h0 hc hb
  by_cases hb1 : 1000000000000000000 ≤ c
  · have hb2 : ¬ a < z := fun h => hb ⟨hb1, h⟩
    simp [c__law_next, callF, hl, h1, h2, hz, h0, hc, hb1, hb2, line, m1, m2, m3, s3]
  · simp [c__law_next, callF, hl, h1, h2, hz, h0, hc, hb1, line, m1, m2, m3, s3]
theorem cn_next (k : Nat) (s : St) (n : Int) (hx : 0 < s.xs.length) (h1 : 0 < n) (h2 : n < 1073741824) (h3 : s.at_ < 2 ^ 39) : ∃ (v : Int) (s' : St), cn (k + 2) (.fn "_law_next") [.dic s.d, .imm (.int n)] = some (.ret (.imm (.int v)) [some (.dic s'.d), none]) ∧ 0 ≤ v ∧ v < n ∧ 0 < s'.xs.length ∧ s'.at_ ≤ s.at_ + 1 := by
  have e0 : ∀ z : Int, 0 ≤ z % n ∧ z % n < n := fun z => ⟨Int.emod_nonneg _ (by omega), Int.emod_lt_of_pos _ h1⟩
  rw [cn_of t__law_next]
  by_cases hl : 0 < s.left
  · exact ⟨s.left % n, ⟨s.xs, s.at_, s.left / n⟩, b_next1 _ _ _ _ _ h1 h2 hl, (e0 _).1, (e0 _).2, hx, by show s.at_ ≤ _; omega⟩
  · have hi : s.at_ % s.xs.length < s.xs.length := Nat.mod_lt _ hx
    have hc : L2.atI (s.xs.map PyData.int) ((s.at_ : Int) % ((s.xs.map PyData.int).length : Int)) = some (.int s.xs[s.at_ % s.xs.length]) := by
      rw [List.length_map]
      have : ((s.at_ : Int) % (s.xs.length : Int)) = ((s.at_ % s.xs.length : Nat) : Int) := by omega
      rw [this]
      exact atN (by simp [hi])
    have h0 : 0 < ((s.xs.map PyData.int).length : Int) := by rw [List.length_map]; omega
    by_cases hb : 1000000000000000000 ≤ s.xs[s.at_ % s.xs.length] ∧ (s.at_ : Int) < ((s.xs.map PyData.int).length : Int)
    · exact ⟨_, ⟨s.xs, s.at_ + 1, _⟩, b_next2 _ _ _ _ _ _ h1 h2 hl h0 hc hb.1 hb.2, (e0 _).1, (e0 _).2, hx, Nat.le_refl _⟩
    · obtain ⟨u, m1⟩ := cn_mixed k s.xs[s.at_ % s.xs.length] s.at_ (by omega) (by omega)
      obtain ⟨v, m2⟩ := cn_mixed k u (s.at_ + 40) (by omega) (by omega)
      obtain ⟨w, m3⟩ := cn_mixed k v (s.at_ + 7) (by omega) (by omega)
      exact ⟨_, ⟨s.xs, s.at_ + 1, s.left⟩, b_next3 _ _ _ _ _ _ _ _ _ h1 h2 hl h0 hc hb m1 m2 m3, (e0 _).1, (e0 _).2, hx, Nat.le_refl _⟩
theorem b_begin (cf : CallFn) (xs : List D) (h : xs.length < 1000) : callF ld.sg cf 1000 [] c__law_begin [.imm (.list xs)] = some (.ret (.dic (stD (xs ++ [.int 0]) 0 0)) [none]) := by
  have hl : xs.length + 1 ≤ line := by unfold line; omega
  simp [c__law_begin, callF, hl, mkDict, pairUp, putK, stD]
theorem cn_begin (k : Nat) (ns : List Int) (h : ns.length < 1000) : ∃ s : St, cn (k + 1) (.fn "_law_begin") [.imm (.list (ns.map PyData.int))] = some (.ret (.dic s.d) [none]) ∧ 0 < s.xs.length ∧ s.at_ = 0 := by
  refine ⟨⟨ns ++ [0], 0, 0⟩, ?_, by simp, rfl⟩
  rw [cn_of t__law_begin]
  refine (b_begin _ _ (by simpa using h)).trans ?_
  simp [St.d]
/-- draws of a caller -/
abbrev Draws (cf : CallFn) : Prop := ∀ (s : St) (n : Int), 0 < s.xs.length → 0 < n → n < 1000 → s.at_ < 2 ^ 39 → ∃ (v : Int) (s' : St), cf (.fn "_law_next") [.dic s.d, .imm (.int n)] = some (.ret (.imm (.int v)) [some (.dic s'.d), none]) ∧ 0 ≤ v ∧ v < n ∧ 0 < s'.xs.length ∧ s'.at_ ≤ s.at_ + 1
theorem draws (k : Nat) : Draws (cn (k + 2)) := fun s n h0 h1 h2 h3 => cn_next k s n h0 h1 (by omega) h3
end K48
set_option Elab.async false
set_option linter.all false
set_option maxRecDepth 100000
set_option maxHeartbeats 400000
namespace K48
open PySem (PyData Str)
open Iv
/-! names -/
def nS (cs : List Nat) : Str := ⟨cs.toArray⟩
def OkC (c : Nat) : Prop := 97 ≤ c ∧ c < 123
def OkN (cs : List Nat) : Prop := 1 ≤ cs.length ∧ cs.length ≤ 6 ∧ ∀ c ∈ cs, OkC c
abbrev LET : Str := Str.ofString "abcdefghijklmnopqrstuvwxyz"
theorem let_cps : LET.cps.toList = List.range' 97 26 := by decide +kernel
theorem let_len : LET.length = 26 := by decide +kernel
theorem let_at (r : Nat) (h : r < 26) : subD (.str LET) (.int r) = some (.str (nS [97 + r])) := by
  have e : L2.atI LET.cps.toList (r : Int) = some (97 + r) := by
    rw [let_cps]
    exact atN (by simp [h])
  rw [su_s, let_len, e]
  rfl
theorem let_at' {r : Int} (h1 : 0 ≤ r) (h2 : r < 26) : subD (.str LET) (.int r) = some (.str (nS [97 + r.toNat])) := by
  have := let_at r.toNat (by omega)
  rw [show ((r.toNat : Nat) : Int) = r by omega] at this
  exact this
theorem let_in : ∀ r : Nat, r < 26 → inD (.str (nS [97 + r])) (.str LET) = some true := by decide +kernel
theorem join_one (cs : List Nat) : PySem.Txt.join (Str.ofString "") (cs.map fun c => nS [c]) = nS cs := by
  unfold PySem.Txt.join
  rw [PySem.StrLaws.glued_eq_join]
  induction cs with
  | nil => rfl
  | cons c cs ih =>
    cases cs with
    | nil => rfl
    | cons d cs =>
      show nS [c] ++ Str.ofString "" ++ Str.join (Str.ofString "") ((d :: cs).map fun c => nS [c]) = nS (c :: d :: cs)
      rw [ih]
      show (⟨(#[c] ++ (Str.ofString "").cps) ++ (d :: cs).toArray⟩ : Str) = ⟨(c :: d :: cs).toArray⟩
      rw [show (Str.ofString "").cps = #[] by decide +kernel]
      simp
theorem strsD_map (cs : List Nat) : strsD (cs.map fun c => PyData.str (nS [c])) = some (cs.map fun c => nS [c]) := by
  induction cs with
  | nil => rfl
  | cons c cs ih => simp [strsD, ih]
theorem nS_len (cs : List Nat) : (nS cs).length = cs.length := by simp [nS, Str.length]
theorem nS_inj {a b : List Nat} : nS a = nS b ↔ a = b := by
  constructor
  · intro h
    have := congrArg (fun x : Str => x.cps.toList) h
    simpa [nS] using this
  · intro h; rw [h]
theorem app_nS (A B : List Nat) : nS A ++ nS B = nS (A ++ B) := by
  show (⟨A.toArray ++ B.toArray⟩ : Str) = ⟨(A ++ B).toArray⟩
  simp
theorem rng_len (n : Nat) : (rngL 0 (n : Int)).length = n := by simp [rngL]
/-- the comprehension of letters: existential, turn by turn -/
theorem lts_ex (cf : CallFn) (x1 : Option M) (hd : Draws cf) : ∀ (ds acc : List D) (s : St), 0 < s.xs.length → s.at_ + ds.length < 2 ^ 38 → acc.length + ds.length ≤ 100 → ∃ (cs : List Nat) (s' : St), lcpL (tests ld.sg cf []) (eval ld.sg cf (.sub (.cst (.str LET)) (.cal "_law_next" [(.var 0), (.cst (.int 26))]))) [2] true ds acc [some (.dic s.d), x1, none] = some (acc ++ cs.map (fun c => PyData.str (nS [c])), [some (.dic s'.d), x1, none]) ∧ cs.length = ds.length ∧ (∀ c ∈ cs, OkC c) ∧ 0 < s'.xs.length ∧ s'.at_ ≤ s.at_ + ds.length
  | [], acc, s, h0, h1, h2 => ⟨[], s, by simp, rfl, by simp, h0, by simp⟩
  | d :: ds, acc, s, h0, h1, h2 => by
    simp only [List.length_cons] at h1 h2
    obtain ⟨v, s1, e1, v0, v1, h0', a1⟩ := hd s 26 h0 (by decide) (by decide) (by omega)
    have e2 := let_at' v0 v1
    obtain ⟨cs, s2, e, l, ok, h0'', a2⟩ := lts_ex cf x1 hd ds (acc ++ [.str (nS [97 + v.toNat])]) s1 h0' (by omega) (by simp; omega)
    refine ⟨(97 + v.toNat) :: cs, s2, ?_, by simp [l], fun c hc => ?_, h0'', by simp; omega⟩
    · have hl : acc.length < line := by unfold line; omega
      generalize hE : (Ex.sub (.cst (.str LET)) (.cal "_law_next" [(.var 0), (.cst (.int 26))])) = E at e ⊢
      have ev : eval ld.sg cf E [some (.dic s.d), x1, some (.imm d)] = some (.ok (.imm (.str (nS [97 + v.toNat]))) [some (.dic s1.d), x1, some (.imm d)]) := by
        subst hE
        generalize LET = L at e2 ⊢
        generalize nS [97 + v.toNat] = z at e2 ⊢
        simp [-su_s, e1, e2]
      rw [lcpL, bt_one]
      have ep : putS [some (.dic s.d), x1, none] 2 (.imm d) = [some (.dic s.d), x1, some (.imm d)] := rfl
      simp only [ep, tsts_nil, ev, vw_imm]
      rw [if_pos hl]
      have ew : wipe [some (.dic s1.d), x1, some (.imm d)] [2] = [some (.dic s1.d), x1, none] := rfl
      rw [ew, e]
      simp
    · rcases List.mem_cons.mp hc with rfl | hc
      · unfold OkC; omega
      · exact ok c hc
theorem sum_one (l : List Nat) : (l.map fun _ => 1).sum = l.length := by
  induction l with
  | nil => rfl
  | cons a l ih => simp [ih]; omega
theorem join_len (cs : List Nat) (h : cs.length ≤ 6) : ((cs.map fun c => nS [c]).map (·.length)).sum + (cs.map fun c => nS [c]).length * (Str.ofString "").length ≤ 16777216 := by
  have : (cs.map fun c => nS [c]).map (·.length) = cs.map fun _ => 1 := by
    rw [List.map_map]; congr 1
  rw [this, show (Str.ofString "").length = 0 by decide +kernel, sum_one]
  omega
theorem join_nS (cs : List Nat) (h : cs.length ≤ 6) : prmD .join [.str (Str.ofString ""), .list (cs.map fun c => PyData.str (nS [c]))] = some (.imm (.str (nS cs))) := by
  have j1 := strsD_map cs
  have j2 := join_one cs
  have j3 := join_len cs h
  show (strsD _).bind _ = _
  rw [j1]
  simp only [Option.bind_some]
  rw [if_pos j3, j2]
theorem it_rngv (cf : CallFn) (x0 x2 : Option M) (n : Nat) (hn : n ≤ 6) : iter ld.sg cf (.rng (.var 1)) [x0, some (.imm (.int n)), x2] = some (.ok (rngL 0 n) [x0, some (.imm (.int n)), x2]) := by
  have r1 : -(2 ^ 62) ≤ (n : Int) ∧ (n : Int) < 2 ^ 62 := by omega
  rw [it_rng, ev_var]
  have : copy [x0, some (.imm (.int n)), x2] 1 = some (.ok (.imm (.int n)) [x0, some (.imm (.int n)), x2]) := rfl
  rw [this, obk, int_int, ob_some, if_pos r1]
theorem b_ev (cf : CallFn) (EE : Ex) (IT : It) (x1 : Option M) (d d2 : List (D × D)) (R zs : List D) (z : D) (it : iter ld.sg cf IT [some (.dic d), x1, none] = some (.ok R [some (.dic d), x1, none])) (e : lcpL (tests ld.sg cf []) (eval ld.sg cf EE) [2] true R [] [some (.dic d), x1, none] = some (zs, [some (.dic d2), x1, none])) (jj : prmD .join [.str (Str.ofString ""), .list zs] = some (.imm z)) :
    eval ld.sg cf (.bmt .join (.cst (.str "")) [(.lcp EE [2] true IT [])]) [some (.dic d), x1, none] = some (.ok (.imm z) [some (.dic d2), x1, none]) := by
  simp [it, e, jj]
theorem b_evc (cf : CallFn) (EE : Ex) (m1 : M) (d d2 : List (D × D)) (z : D) (ev : eval ld.sg cf EE [some (.dic d), some m1, none] = some (.ok (.imm z) [some (.dic d2), some m1, none])) (hv : ∀ ρ, exec ld.sg cf [0] 1000 (.ret EE) ρ = Out.ofO (eval ld.sg cf EE ρ) fun m ρ => some (.rt m ρ)) : callF ld.sg cf 1000 [0] ⟨3, 2, [(.ret EE)]⟩ [.dic d, m1] = some (.ret (.imm z) [some (.dic d2), none]) := by
  simp [callF, hv, ev]
theorem b_letters (cf : CallFn) (hd : Draws cf) (s : St) (n : Nat) (h0 : 0 < s.xs.length) (hn : n ≤ 6) (hs : s.at_ < 2 ^ 37) : ∃ (cs : List Nat) (s' : St), callF ld.sg cf 1000 [0] c__law_letters [.dic s.d, .imm (.int n)] = some (.ret (.imm (.str (nS cs))) [some (.dic s'.d), none]) ∧ cs.length = n ∧ (∀ c ∈ cs, OkC c) ∧ 0 < s'.xs.length ∧ s'.at_ ≤ s.at_ + 6 := by
  obtain ⟨cs, s', e, l, ok, h0', a⟩ := lts_ex cf (some (.imm (.int n))) hd (rngL 0 (n : Int)) [] s h0 (by rw [rng_len]; omega) (by rw [rng_len]; simp; omega)
  rw [rng_len] at l a
  refine ⟨cs, s', ?_, l, ok, h0', by omega⟩
  have jj := join_nS cs (by omega)
  simp only [List.nil_append] at e
  have it := it_rngv cf (some (.dic s.d)) none n hn
  exact b_evc cf _ _ _ _ _ (b_ev cf _ _ _ _ _ _ _ _ it e jj) (fun ρ => ex_ret_bmt _ _ _ _ _ _ _ _)
abbrev Letters (cf : CallFn) : Prop := ∀ (s : St) (n : Nat), 0 < s.xs.length → n ≤ 6 → s.at_ < 2 ^ 37 → ∃ (cs : List Nat) (s' : St), cf (.fn "_law_letters") [.dic s.d, .imm (.int n)] = some (.ret (.imm (.str (nS cs))) [some (.dic s'.d), none]) ∧ cs.length = n ∧ (∀ c ∈ cs, OkC c) ∧ 0 < s'.xs.length ∧ s'.at_ ≤ s.at_ + 6
theorem letters (k : Nat) : Letters (cn (k + 3)) := fun s n h0 h1 h2 => by
  rw [cn_of t__law_letters]
  exact b_letters (cn (k + 2)) (draws k) s n h0 h1 h2
end K48
set_option Elab.async false
set_option linter.all false
set_option maxRecDepth 100000
set_option maxHeartbeats 800000
namespace K48
open PySem (PyData Str)
open Iv
/-! ### deeds but an if -/
inductive SD where
  | plain (x : Str) (n : Int)
  | row (x : Str) (bs : List Str)
  | fixed (x : Str) (bs : List Str)
  | shelf (x : Str)
  | copy (x y : Str)
  | be (x y : Str)
  | take (x y : Str) (n : Int)
  | set (x : Str) (n : Int) (y : Str)
  | put (x y z : Str)
  | drop (x y : Str)
  | get (x y z : Str)
  | same (x y z : Str)
  | alike (x y z : Str)
  | mark (x y : Str)
  | tell (x : Str)
abbrev sT (bs : List Str) : D := PyData.tuple (bs.map PyData.str)
def SD.d : SD → D
  | .plain x n => .tuple [.str "plain", .str x, .int n]
  | .row x bs => .tuple [.str "row", .str x, sT bs]
  | .fixed x bs => .tuple [.str "fixed", .str x, sT bs]
  | .shelf x => .tuple [.str "shelf", .str x]
  | .copy x y => .tuple [.str "copy", .str x, .str y]
  | .be x y => .tuple [.str "be", .str x, .str y]
  | .take x y n => .tuple [.str "take", .str x, .str y, .int n]
  | .set x n y => .tuple [.str "set", .str x, .int n, .str y]
  | .put x y z => .tuple [.str "put", .str x, .str y, .str z]
  | .drop x y => .tuple [.str "drop", .str x, .str y]
  | .get x y z => .tuple [.str "get", .str x, .str y, .str z]
  | .same x y z => .tuple [.str "same", .str x, .str y, .str z]
  | .alike x y z => .tuple [.str "alike", .str x, .str y, .str z]
  | .mark x y => .tuple [.str "mark", .str x, .str y]
  | .tell x => .tuple [.str "tell", .str x]
/-- all boxes of a deed -/
def SD.all : SD → List Str
  | .plain x _ => [x]
  | .row x bs => x :: bs
  | .fixed x bs => x :: bs
  | .shelf x => [x]
  | .copy x y => [x, y]
  | .be x y => [x, y]
  | .take x y _ => [x, y]
  | .set x _ y => [x, y]
  | .put x y z => [x, y, z]
  | .drop x y => [x, y]
  | .get x y z => [x, y, z]
  | .same x y z => [x, y, z]
  | .alike x y z => [x, y, z]
  | .mark x y => [x, y]
  | .tell x => [x]
/-- numbers and counts that are let by -/
def SD.nOk : SD → Bool
  | .plain _ n => decide (-1000000 ≤ n) && decide (n ≤ 1000000)
  | .row _ bs => decide (bs.length ≤ 4)
  | .fixed _ bs => decide (bs.length ≤ 4)
  | .take _ _ n => decide (0 ≤ n) && decide (n ≤ 7)
  | .set _ n _ => decide (0 ≤ n) && decide (n ≤ 7)
  | _ => true
def SD.used : SD → List Str
  | .plain _ _ => []
  | .row _ bs => bs
  | .fixed _ bs => bs
  | .shelf _ => []
  | .copy _ y => [y]
  | .be _ y => [y]
  | .take _ y _ => [y]
  | .set x _ y => [x, y]
  | .put x y z => [x, y, z]
  | .drop x y => [x, y]
  | .get _ y z => [y, z]
  | .same _ y z => [y, z]
  | .alike _ y z => [y, z]
  | .mark _ y => [y]
  | .tell x => [x]
def SD.given : SD → Option Str
  | .plain x _ => some x
  | .row x _ => some x
  | .fixed x _ => some x
  | .shelf x => some x
  | .copy x _ => some x
  | .be x _ => some x
  | .take x _ _ => some x
  | .get x _ _ => some x
  | .same x _ _ => some x
  | .alike x _ _ => some x
  | .mark x _ => some x
  | _ => none
abbrev Kd := List (Str × Str)
def look (kd : Kd) (b : Str) : Option Str := (kd.find? fun p => decide (p.1 = b)).map (·.2)
def putE (kd : Kd) (b k : Str) : Kd := if kd.any (fun p => decide (p.1 = b)) then kd.map (fun p => if p.1 = b then (p.1, k) else p) else kd ++ [(b, k)]
def kin (kd : Kd) (b : Str) : Str := (look kd b).getD Str.empty
def isFirm (k : Str) : Bool := decide (k = Str.ofString "plain") || decide (k = Str.ofString "firm")
def SD.kind (kd : Kd) : SD → Option Str
  | .plain _ _ => some "plain"
  | .same _ _ _ => some "plain"
  | .alike _ _ _ => some "plain"
  | .mark _ _ => some "plain"
  | .row _ _ => some "row"
  | .shelf _ => some "shelf"
  | .fixed _ bs => some (if bs.all (fun b => isFirm (kin kd b)) then "firm" else "any")
  | .copy _ y => some (if kin kd y = Str.ofString "plain" then "firm" else kin kd y)
  | .be _ y => some (if kin kd y = Str.ofString "plain" then "firm" else kin kd y)
  | .take _ y _ => some (if isFirm (kin kd y) then "firm" else "any")
  | .get _ _ _ => some "any"
  | _ => none
def SD.word (kd : Kd) : SD → Str
  | .set x _ _ => if kin kd x = Str.ofString "row" then "" else "row"
  | .put x y _ => if kin kd x = Str.ofString "shelf" then (if isFirm (kin kd y) then "" else "key") else "shelf"
  | .drop x _ => if kin kd x = Str.ofString "shelf" then "" else "shelf"
  | _ => ""
/-! ### the texts as data -/
theorem cl_strs : ∀ bs : List Str, (∀ b ∈ bs, PyData.strOk b = true) → PyData.canLayAll0 (bs.map PyData.str) = true
  | [], _ => rfl
  | b :: bs, h => by
    simp only [List.map_cons, PyData.canLayAll0, PyData.canLay0, h b List.mem_cons_self, Bool.true_and]
    exact cl_strs bs fun b hb => h b (List.mem_cons_of_mem _ hb)
theorem dp_strs : ∀ bs : List Str, PyData.depthAll (bs.map PyData.str) = 0
  | [] => rfl
  | b :: bs => by
    simp only [List.map_cons, PyData.depthAll, PyData.depth, dp_strs bs]; rfl
theorem okT (s : String) : PyData.strOk (Str.ofString s) = true := okS_of s
theorem lay_sd (s : SD) (h : ∀ b ∈ s.all, PyData.strOk b = true) : PyData.canLay0 s.d = true := by
  cases s <;> simp [SD.all] at h <;> simp [SD.d, PyData.canLay0, PyData.canLayAll0, okT, h]
  · exact cl_strs _ h.2
  · exact cl_strs _ h.2
theorem dp_sd (s : SD) : PyData.depth s.d ≤ 2 := by
  cases s <;> simp [SD.d, PyData.depth, PyData.depthAll, dp_strs]
theorem lay_deeds : ∀ ss : List SD, (∀ s ∈ ss, ∀ b ∈ s.all, PyData.strOk b = true) → PyData.canLayAll0 (ss.map SD.d) = true
  | [], _ => rfl
  | s :: ss, h => by
    simp only [List.map_cons, PyData.canLayAll0, lay_sd s (h s List.mem_cons_self), Bool.true_and]
    exact lay_deeds ss fun t ht => h t (List.mem_cons_of_mem _ ht)
theorem dp_deeds : ∀ ss : List SD, PyData.depthAll (ss.map SD.d) ≤ 2
  | [] => by simp [PyData.depthAll]
  | s :: ss => by
    have := dp_sd s
    have := dp_deeds ss
    simp only [List.map_cons, PyData.depthAll]; omega
/-! ### defs -/
theorem filt (l : List D) : (l.filter fun _ => true) = l := List.filter_eq_self.mpr fun _ _ => rfl
abbrev Box (cf : CallFn) (b : Str) : Prop := cf (.fn "is_box") [.imm (.str b)] = some (.ret (.imm (.bool true)) [none])
theorem bb_is_box (cf : CallFn) (n : List Nat) (h : OkN n) : callF ld.sg cf 1000 [] c_is_box [.imm (PyData.str (nS n))] = some (.ret (.imm (.bool true)) [none]) := by
  have hl : (nS n).length ≤ line := by rw [nS_len]; have := h.2.1; simp [line]; omega
  have h1 : (1 : Int) ≤ ((nS n).length : Int) := by rw [nS_len]; have := h.1; omega
  have h2 : ((nS n).length : Int) ≤ 6 := by rw [nS_len]; have := h.2.1; omega
  have lc := lcp_pure (fun _ => true) (fun _ => PyData.bool true) (test := tests ld.sg cf []) (elt := eval ld.sg cf (.cmp .isin (.var 1) (.cst (.str LET)))) (tg := [1]) (one := true) (ρ := [some (.imm (PyData.str (nS n))), none]) ((nS n).cps.toList.map fun c => PyData.str ⟨#[c]⟩) [] (by simp [nS, line]; have := h.2.1; omega) fun d hd => by
    obtain ⟨c, hc, rfl⟩ := List.mem_map.mp hd
    have hc : c ∈ n := by simpa [nS] using hc
    obtain ⟨c1, c2⟩ := h.2.2 c hc
    have hin := let_in (c - 97) (by omega)
    rw [show 97 + (c - 97) = c by omega] at hin
    have hin' : inD (.str ⟨#[c]⟩) (.str LET) = some true := hin
    refine ⟨_, _, bt_one _ _ _, tsts_nil _ _ _, rfl, fun _ => ⟨.imm (.bool true), [some (.imm (PyData.str (nS n))), some (.imm (.str ⟨#[c]⟩))], ?_, rfl, ?_⟩⟩
    · generalize PyData.str (⟨#[c]⟩ : Str) = z at hin' ⊢
      generalize PyData.str (nS n) = z2
      simp [-inD_str, hin']
    · rfl
  have bl := bools_map (fun _ => true) (((nS n).cps.toList.map fun c => PyData.str ⟨#[c]⟩).filter fun _ => true)
  generalize hE : (Ex.cmp .isin (.var 1) (.cst (.str LET))) = EE at lc
  have hc : c_is_box = ⟨2, 1, [(.ret (.and (.prm (.isi "str") [(.var 0)]) (.and (.chn .le .le (.cst (.int 1)) (.prm .len [(.var 0)]) (.cst (.int 6))) (.prm .all [(.lcp EE [1] true (.val (.var 0)) [])]))))]⟩ := by rw [← hE]; rfl
  rw [hc]
  rw [filt] at lc bl
  simp only [List.nil_append] at lc
  generalize nS n = z at hl h1 h2 lc bl ⊢
  have im : itemsD (.str z) = some (z.cps.toList.map fun c => PyData.str ⟨#[c]⟩) := rfl
  generalize (z.cps.toList.map fun c => PyData.str ⟨#[c]⟩) = cs at lc bl im
  simp [-im_str, callF, hl, h1, h2, lc, bl, im]
theorem okS_nS {n : List Nat} (h : OkN n) : PyData.strOk (nS n) = true := by
  show (nS n).cps.all (· < 0x110000) = true
  simp only [nS, List.all_toArray, List.all_eq_true, decide_eq_true_eq]
  intro c hc
  have := (h.2.2 c hc).2
  omega
theorem bb_is_part_number (cf : CallFn) (n : Int) (h1 : 0 ≤ n) (h2 : n ≤ 7) : callF ld.sg cf 1000 [] c_is_part_number [.imm (.int n)] = some (.ret (.imm (.bool true)) [none]) := by
  simp [callF, c_is_part_number, h1, h2]
theorem bb_is_among (cf : CallFn) (n : Int) (h1 : -1000000 ≤ n) (h2 : n ≤ 1000000) : callF ld.sg cf 1000 [] c_is_among [.imm (.int n), .imm (.int (-1000000)), .imm (.int 1000000)] = some (.ret (.imm (.bool true)) [none, none, none]) := by
  simp [callF, c_is_among, h1, h2]
theorem bb_is_word (cf : CallFn) (n : Int) : callF ld.sg cf 1000 [] c_is_word [.imm (.int n)] = some (.ret (.imm (.bool false)) [none]) := by
  simp [callF, c_is_word]
theorem bb_is_plain (cf : CallFn) (n : Int) (h1 : cf (.fn "is_word") [.imm (.int n)] = some (.ret (.imm (.bool false)) [none])) (h2 : cf (.fn "is_among") [.imm (.int n), .imm (.int (-1000000)), .imm (.int 1000000)] = some (.ret (.imm (.bool true)) [none, none, none])) : callF ld.sg cf 1000 [] c_is_plain [.imm (.int n)] = some (.ret (.imm (.bool true)) [none]) := by
  simp [callF, c_is_plain, h1, h2]
def SD.name : SD → String
  | .plain _ _ => "plain"
  | .row _ _ => "row"
  | .fixed _ _ => "fixed"
  | .shelf _ => "shelf"
  | .copy _ _ => "copy"
  | .be _ _ => "be"
  | .take _ _ _ => "take"
  | .set _ _ _ => "set"
  | .put _ _ _ => "put"
  | .drop _ _ => "drop"
  | .get _ _ _ => "get"
  | .same _ _ _ => "same"
  | .alike _ _ _ => "alike"
  | .mark _ _ => "mark"
  | .tell _ => "tell"
def lenOf (w : String) : Int := if w = "shelf" ∨ w = "tell" then 2 else if w ∈ ["plain", "row", "fixed", "copy", "be", "drop", "mark"] then 3 else 4
theorem bb_length_of (cf : CallFn) (s : SD) : callF ld.sg cf 1000 [] c_length_of [.imm (.str s.name)] = some (.ret (.imm (.int (lenOf s.name))) [none]) := by
  cases s <;> simp [callF, c_length_of, SD.name, lenOf]
theorem bools_true {α : Type} (l : List α) : bools (l.map fun _ => PyData.bool true) = some (l.map fun _ => true) := by
  induction l with
  | nil => rfl
  | cons a l ih => simp [bools, ih]
/-- all([is_box(b) for b in bs]) -/
theorem lc_boxes (cf : CallFn) (z : M) (bs : List Str) (hl : bs.length ≤ 1000) (hb : ∀ b ∈ bs, Box cf b) : lcpL (tests ld.sg cf []) (eval ld.sg cf (.cal "is_box" [(.var 1)])) [1] true (bs.map PyData.str) [] [some z, none] = some ((bs.map PyData.str).map fun _ => PyData.bool true, [some z, none]) := by
  have lc := lcp_pure (fun _ => true) (fun _ => PyData.bool true) (test := tests ld.sg cf []) (elt := eval ld.sg cf (.cal "is_box" [(.var 1)])) (tg := [1]) (one := true) (ρ := [some z, none]) (bs.map PyData.str) [] (by simp [line]; omega) fun d hd => by
    obtain ⟨b, hb', rfl⟩ := List.mem_map.mp hd
    have h1 := hb b hb'
    refine ⟨_, _, bt_one _ _ _, tsts_nil _ _ _, rfl, fun _ => ⟨.imm (.bool true), [some z, some (.imm (.str b))], ?_, rfl, rfl⟩⟩
    simp [h1]
  rw [filt] at lc
  simpa using lc
theorem bb_is_deed (cf : CallFn) (s : SD) (ok : ∀ b ∈ s.all, PyData.strOk b = true) (hb : ∀ b ∈ s.all, Box cf b) (hn : s.nOk = true)
    (h1 : cf (.fn "length_of") [.imm (.str s.name)] = some (.ret (.imm (.int (lenOf s.name))) [none]))
    (h2 : ∀ n : Int, -1000000 ≤ n → n ≤ 1000000 → cf (.fn "is_plain") [.imm (.int n)] = some (.ret (.imm (.bool true)) [none]))
    (h3 : ∀ n : Int, 0 ≤ n → n ≤ 7 → cf (.fn "is_part_number") [.imm (.int n)] = some (.ret (.imm (.bool true)) [none])) :
    callF ld.sg cf 1000 [] c_is_deed [.imm s.d] = some (.ret (.imm (.bool true)) [none]) := by
  have e1 : ∀ xs, s.d = .tuple xs → eqD (.tuple xs) (.tuple []) = some xs.isEmpty := fun xs e => eqD_nil (Bool.and_eq_true_iff.mpr ⟨by rw [← e]; exact lay_sd s ok, by rw [← e]; have := dp_sd s; simp; omega⟩)
  cases s <;> simp only [SD.d, PyData.tuple.injEq, forall_eq', List.isEmpty_cons] at e1 ⊢ <;> simp only [SD.name, lenOf] at h1 <;> simp [SD.all] at hb <;> simp [SD.nOk] at hn
  case plain x n =>
    have := h2 n hn.1 hn.2
    simp at h1
    simp [callF, c_is_deed, h1, e1, hb, this]
  case row x bs =>
    have lc := lc_boxes cf (.imm (.tuple [.str "row", .str x, sT bs])) bs (by omega) hb.2
    have bt := bools_true (bs.map PyData.str)
    simp at h1
    have hl : ((bs.map PyData.str).length : Int) ≤ 4 := by simp; omega
    simp only [sT] at e1 lc ⊢
    generalize (bs.map PyData.str) = zs at e1 lc bt hl ⊢
    simp [callF, c_is_deed, h1, e1, hb, lc, bt, hl]
  case fixed x bs =>
    have lc := lc_boxes cf (.imm (.tuple [.str "fixed", .str x, sT bs])) bs (by omega) hb.2
    have bt := bools_true (bs.map PyData.str)
    simp at h1
    have hl : ((bs.map PyData.str).length : Int) ≤ 4 := by simp; omega
    simp only [sT] at e1 lc ⊢
    generalize (bs.map PyData.str) = zs at e1 lc bt hl ⊢
    simp [callF, c_is_deed, h1, e1, hb, lc, bt, hl]
  case take x y n =>
    have := h3 n hn.1 hn.2
    simp at h1
    simp [callF, c_is_deed, h1, e1, hb, this]
  case set x n y =>
    have := h3 n hn.1 hn.2
    simp at h1
    simp [callF, c_is_deed, h1, e1, hb, this]
  all_goals
    simp at h1
    simp [callF, c_is_deed, h1, e1, hb, cutD, HT.sIx, bools, lcpL, line]
def optS : Option Str → D
  | none => .none
  | some x => .str x
theorem bb_given_by (cf : CallFn) (s : SD) : callF ld.sg cf 1000 [] c_given_by [.imm s.d] = some (.ret (.imm (optS s.given)) [none]) := by
  cases s <;> simp [callF, c_given_by, SD.d, SD.given, optS]
theorem bb_used_by (cf : CallFn) (s : SD) : callF ld.sg cf 1000 [] c_used_by [.imm s.d] = some (.ret (.lst (s.used.map PyData.str)) [none]) := by
  cases s <;> simp [callF, c_used_by, SD.d, SD.used, cutD, HT.sIx]
abbrev kvD (kd : Kd) : List (D × D) := kd.map fun p => (PyData.str p.1, PyData.str p.2)
theorem getK_kv (kd : Kd) (b : Str) : getK (kvD kd) (.str b) = (look kd b).map PyData.str := by
  induction kd with
  | nil => rfl
  | cons p kd ih =>
    simp only [List.map_cons, getK_cons, ky_str, look, List.find?_cons, Option.some.injEq, Sum.inr.injEq] at ih ⊢
    by_cases h : p.1 = b
    · simp [h]
    · simp only [h, if_false, decide_false]
      rw [ih]
theorem look_kin {kd : Kd} {b : Str} (h : (look kd b).isSome = true) : look kd b = some (kin kd b) := by
  unfold kin
  cases e : look kd b with
  | none => rw [e] at h; cases h
  | some k => rfl
theorem sub_kv {kd : Kd} {b : Str} (h : (look kd b).isSome = true) : getK (kvD kd) (.str b) = some (.str (kin kd b)) := by
  rw [getK_kv, look_kin h]; rfl
theorem putK_kv (kd : Kd) (b k : Str) : putK (.str b) (.str k) (kvD kd) = kvD (putE kd b k) := by
  unfold putK putE
  have e : ((kvD kd).any fun p => decide (keyD p.1 = keyD (.str b))) = kd.any fun p => decide (p.1 = b) := by
    rw [List.any_map]
    congr 1
    funext p
    simp
  rw [e]
  split
  · simp only [kvD, List.map_map]
    congr 1
    funext p
    by_cases h : p.1 = b
    · simp [h]
    · simp [h]
  · simp
theorem firm_in (k : Str) : inD (.str k) (.tuple [.str "plain", .str "firm"]) = some (isFirm k) := by
  simp [isFirm, eq_comm]
theorem firm_cases (k : Str) : isFirm k = true ↔ (k = Str.ofString "plain" ∨ k = Str.ofString "firm") := by simp [isFirm]
end K48
set_option Elab.async false
set_option linter.all false
set_option maxRecDepth 100000
set_option maxHeartbeats 800000
namespace K48
open PySem (PyData Str)
open Iv
abbrev FIRM : D := PyData.tuple [.str "plain", .str "firm"]
theorem bools_f {α : Type} (f : α → Bool) (l : List α) : bools (l.map fun a => PyData.bool (f a)) = some (l.map f) := by
  induction l with
  | nil => rfl
  | cons a l ih => simp [bools, ih]
theorem firm_or (k : Str) : (decide (Str.ofString "plain" = k) || decide (Str.ofString "firm" = k)) = isFirm k := by
  unfold isFirm
  rw [decide_eq_decide.mpr (eq_comm (a := k)), decide_eq_decide.mpr (eq_comm (a := k) (b := Str.ofString "firm"))]
theorem firm_nor (k : Str) : (!decide (Str.ofString "plain" = k) && !decide (Str.ofString "firm" = k)) = !isFirm k := by
  rw [← firm_or, Bool.not_or]
/-- all([kinds[b] in FIRM_ONES for b in bs]) -/
theorem lc_firm (cf : CallFn) (z x2 : Option M) (kd : Kd) (bs : List Str) (hl : bs.length ≤ 1000) (hb : ∀ b ∈ bs, (look kd b).isSome = true) : lcpL (tests ld.sg cf []) (eval ld.sg cf (.cmp .isin (.sub (.var 1) (.var 3)) (.cst FIRM))) [3] true (bs.map PyData.str) [] [z, some (.imm (.dict (kvD kd))), x2, none] = some (bs.map fun b => PyData.bool (isFirm (kin kd b)), [z, some (.imm (.dict (kvD kd))), x2, none]) := by
  have lc := lcp_pure (fun _ => true) (fun d => match d with | .str b => PyData.bool (isFirm (kin kd b)) | d => d) (test := tests ld.sg cf []) (elt := eval ld.sg cf (.cmp .isin (.sub (.var 1) (.var 3)) (.cst FIRM))) (tg := [3]) (one := true) (ρ := [z, some (.imm (.dict (kvD kd))), x2, none]) (bs.map PyData.str) [] (by simp [line]; omega) fun d hd => by
    obtain ⟨b, hb', rfl⟩ := List.mem_map.mp hd
    have h1 := sub_kv (hb b hb')
    have h2 : inD (.str (kin kd b)) FIRM = some (isFirm (kin kd b)) := firm_in (kin kd b)
    refine ⟨_, _, bt_one _ _ _, tsts_nil _ _ _, rfl, fun _ => ⟨.imm (.bool (isFirm (kin kd b))), [z, some (.imm (.dict (kvD kd))), x2, some (.imm (.str b))], ?_, rfl, rfl⟩⟩
    generalize kvD kd = kv at h1 ⊢
    generalize kin kd b = kk at h1 h2 ⊢
    generalize FIRM = F at h2 ⊢
    simp [-inD_tup, h1, h2]
  rw [filt] at lc
  rw [lc, List.nil_append, List.map_map]
  rfl
theorem bb_given_kind (cf : CallFn) (s : SD) (kd : Kd) (hu : ∀ b ∈ s.used, (look kd b).isSome = true) (hn : s.nOk = true) : callF ld.sg cf 1000 [] c_given_kind [.imm s.d, .imm (.dict (kvD kd))] = some (.ret (.imm (optS (s.kind kd))) [none, none]) := by
  cases s <;> simp [SD.used] at hu <;> simp [SD.nOk] at hn
  case fixed x bs =>
    have lc := lc_firm cf (some (.imm (.tuple [.str "fixed", .str x, sT bs]))) (some (.imm (.str "fixed"))) kd bs (by omega) hu
    have bl := bools_f (fun b => isFirm (kin kd b)) bs
    have al : (bs.map fun b => isFirm (kin kd b)).all id = bs.all fun b => isFirm (kin kd b) := by rw [List.all_map]; rfl
    generalize hE : (Ex.cmp .isin (.sub (.var 1) (.var 3)) (.cst FIRM)) = EE at lc
    have hc : c_given_kind = ⟨4, 2, [(.asg 2 (.sub (.var 0) (.cst (.int 0)))), (.ite (.cmp .isin (.var 2) (.tup [(.cst (.str "plain")), (.cst (.str "same")), (.cst (.str "alike")), (.cst (.str "mark"))])) [(.ret (.cst (.str "plain")))] []), (.ite (.cmp .isin (.var 2) (.tup [(.cst (.str "row")), (.cst (.str "shelf"))])) [(.ret (.var 2))] []), (.ite (.cmp .eq (.var 2) (.cst (.str "fixed"))) [(.ret (.ite (.prm .all [(.lcp EE [3] true (.val (.sub (.var 0) (.cst (.int 2)))) [])]) (.cst (.str "firm")) (.cst (.str "any"))))] []), (.ite (.cmp .isin (.var 2) (.tup [(.cst (.str "copy")), (.cst (.str "be"))])) [(.ret (.ite (.cmp .eq (.sub (.var 1) (.sub (.var 0) (.cst (.int 2)))) (.cst (.str "plain"))) (.cst (.str "firm")) (.sub (.var 1) (.sub (.var 0) (.cst (.int 2))))))] []), (.ite (.cmp .eq (.var 2) (.cst (.str "take"))) [(.ret (.ite (.cmp .isin (.sub (.var 1) (.sub (.var 0) (.cst (.int 2)))) (.cst (.tuple [(.str "plain"), (.str "firm")]))) (.cst (.str "firm")) (.cst (.str "any"))))] []), (.ret (.ite (.cmp .eq (.var 2) (.cst (.str "get"))) (.cst (.str "any")) (.cst .none)))]⟩ := by rw [← hE]; rfl
    rw [hc]
    simp only [SD.d, SD.kind, optS, sT] at lc ⊢
    generalize (bs.map fun b => isFirm (kin kd b)) = bb at bl al
    generalize (bs.map fun b => PyData.bool (isFirm (kin kd b))) = zs at lc bl
    generalize kvD kd = kv at lc ⊢
    generalize bs.map PyData.str = ys at lc ⊢
    generalize (bs.all fun b => isFirm (kin kd b)) = t at al ⊢
    cases t <;> simp [callF, lc, bl, al]
  case copy x y =>
    have h1 := sub_kv hu
    simp only [SD.d, SD.kind, optS]
    generalize kvD kd = kv at h1 ⊢
    generalize kin kd y = k at h1 ⊢
    by_cases h : k = Str.ofString "plain"
    · simp [callF, c_given_kind, h1, h]
    · simp [callF, c_given_kind, h1, h]
  case be x y =>
    have h1 := sub_kv hu
    simp only [SD.d, SD.kind, optS]
    generalize kvD kd = kv at h1 ⊢
    generalize kin kd y = k at h1 ⊢
    by_cases h : k = Str.ofString "plain"
    · simp [callF, c_given_kind, h1, h]
    · simp [callF, c_given_kind, h1, h]
  case take x y n =>
    have h1 := sub_kv hu
    simp only [SD.d, SD.kind, optS]
    generalize kvD kd = kv at h1 ⊢
    generalize kin kd y = k at h1 ⊢
    cases h : isFirm k <;> simp [callF, c_given_kind, h1, firm_or, h]
  all_goals simp [callF, c_given_kind, SD.d, SD.kind, optS]
theorem bb_wrong_word (cf : CallFn) (s : SD) (kd : Kd) (hu : ∀ b ∈ s.used, (look kd b).isSome = true) : callF ld.sg cf 1000 [] c_wrong_word [.imm s.d, .imm (.dict (kvD kd))] = some (.ret (.imm (.str (s.word kd))) [none, none]) := by
  cases s <;> simp [SD.used] at hu
  case set x n y =>
    have h1 := sub_kv hu.1
    simp only [SD.d, SD.word]
    generalize kvD kd = kv at h1 ⊢
    generalize kin kd x = k at h1 ⊢
    by_cases h : k = Str.ofString "row"
    · simp [callF, c_wrong_word, h1, h]
    · simp [callF, c_wrong_word, h1, h]
  case put x y z =>
    have h1 := sub_kv hu.1
    have h2 := sub_kv hu.2.1
    simp only [SD.d, SD.word]
    generalize kvD kd = kv at h1 h2 ⊢
    generalize kin kd x = k at h1 ⊢
    generalize kin kd y = k2 at h2 ⊢
    by_cases h : k = Str.ofString "shelf"
    · cases h4 : isFirm k2 <;> simp [callF, c_wrong_word, h1, h2, firm_nor, h, h4]
    · simp [callF, c_wrong_word, h1, h]
  case drop x y =>
    have h1 := sub_kv hu.1
    simp only [SD.d, SD.word]
    generalize kvD kd = kv at h1 ⊢
    generalize kin kd x = k at h1 ⊢
    by_cases h : k = Str.ofString "shelf"
    · simp [callF, c_wrong_word, h1, h]
    · simp [callF, c_wrong_word, h1, h]
  all_goals simp [callF, c_wrong_word, SD.d, SD.word]
def stepK (kd : Kd) (s : SD) : Kd := match s.kind kd, s.given with
  | some k, some x => putE kd x k
  | _, _ => kd
theorem bb_kinds_behind (cf : CallFn) (s : SD) (kd : Kd) (hl : kd.length < 1000) (h1 : cf (.fn "given_kind") [.imm s.d, .imm (.dict (kvD kd))] = some (.ret (.imm (optS (s.kind kd))) [none, none])) : callF ld.sg cf 1000 [] c_kinds_behind [.imm s.d, .imm (.dict (kvD kd))] = some (.ret (.dic (kvD (stepK kd s))) [none, none]) := by
  have hl' : (kvD kd).length < line := by simp [line]; omega
  cases s <;> simp only [SD.d, SD.kind, SD.given, optS, stepK] at h1 ⊢ <;> first
    | (simp only [← putK_kv]
       generalize kvD kd = kv at h1 hl' ⊢
       simp [callF, c_kinds_behind, h1, hl']
       done)
    | (generalize kvD kd = kv at h1 hl' ⊢
       simp [callF, c_kinds_behind, h1, hl'])
/-- the pairs of a dict of kinds -/
abbrev itD (kd : Kd) : List D := kd.map fun p => PyData.tuple [.str p.1, .str p.2]
theorem it_kv (kd : Kd) : ((kvD kd).map fun p => PyData.tuple [p.1, p.2]) = itD kd := by rw [List.map_map]; rfl
theorem hasDict_it : ∀ kd : Kd, PyData.hasDictAll (itD kd) = false
  | [] => rfl
  | p :: kd => by simp only [List.map_cons, PyData.hasDictAll, PyData.hasDict, hasDict_it kd]; rfl
theorem sortOk_it (kd : Kd) : sortOk (itD kd) = true := by
  unfold sortOk
  have a1 : ((itD kd).all fun d => (itD kd).all fun e => PySem.W.alike d e) = true := by
    simp only [List.all_map, List.all_eq_true, Function.comp]
    intro p _ q _
    simp [PySem.W.alike, PySem.W.alikeAll]
  have a3 : ((itD kd).all fun d => decide (d.depth ≤ 40)) = true := by
    simp only [List.all_map, List.all_eq_true, Function.comp]
    intro p _
    simp [PyData.depth, PyData.depthAll]
  simp only [Bool.and_eq_true, Bool.or_eq_true]
  refine ⟨⟨⟨a1, .inl ?_⟩, by rw [hasDict_it]; rfl⟩, a3⟩
  rw [List.all_eq_true]
  intro d hd
  obtain ⟨p, _, rfl⟩ := List.mem_map.mp hd
  rfl
abbrev tk (kd : Kd) : D := PyData.tuple (sortD (itD kd))
theorem bb_told_kinds (cf : CallFn) (kd : Kd) : callF ld.sg cf 1000 [] c_told_kinds [.imm (.dict (kvD kd))] = some (.ret (.imm (tk kd)) [none]) := by
  have h : prmD .sitems [.dict (kvD kd)] = some (.lst (sortD (itD kd))) := by
    have := pr_sitems (kvs := kvD kd) (by rw [it_kv]; exact sortOk_it kd)
    rw [it_kv] at this
    exact this
  unfold tk
  generalize sortD (itD kd) = z at h ⊢
  generalize kvD kd = kv at h ⊢
  simp [callF, c_told_kinds, h]
/-! ### deeds with ifs -/
inductive PD where
  | one (s : SD)
  | iff (c : Str) (a b : List PD)
mutual
def PD.d : PD → D
  | .one s => s.d
  | .iff c a b => .tuple [.str "if", .str c, .tuple (dsD a), .tuple (dsD b)]
def dsD : List PD → List D
  | [] => []
  | p :: ps => p.d :: dsD ps
end
mutual
def PD.sz : PD → Nat
  | .one _ => 1
  | .iff _ a b => 1 + szL a + szL b
def szL : List PD → Nat
  | [] => 0
  | p :: ps => p.sz + szL ps
end
mutual
def PD.dp : PD → Nat
  | .one _ => 0
  | .iff _ a b => 1 + max (dpL a) (dpL b)
def dpL : List PD → Nat
  | [] => 0
  | p :: ps => max p.dp (dpL ps)
end
abbrev keysE (kd : Kd) : List Str := kd.map (·.1)
theorem putE_new {kd : Kd} {x k : Str} (h : x ∉ keysE kd) : putE kd x k = kd ++ [(x, k)] := by
  unfold putE
  rw [if_neg]
  intro hh
  simp only [List.any_eq_true, decide_eq_true_eq] at hh
  obtain ⟨p, hp, e⟩ := hh
  exact h (e ▸ List.mem_map_of_mem hp)
theorem pairs_kv : ∀ (l acc : Kd), (keysE (acc ++ l)).Nodup → pairsK (itD l) (kvD acc) = some (kvD (acc ++ l))
  | [], acc, _ => by simp [pairsK]
  | n :: l, acc, nd => by
    have hn : n.1 ∉ keysE acc := fun h => by
      simp only [keysE, List.map_append, List.map_cons] at nd
      have := (List.nodup_append.mp nd).2.2 n.1 h n.1 List.mem_cons_self
      exact this rfl
    have ih := pairs_kv l (acc ++ [n]) (by simpa using nd)
    simp only [List.map_cons, pairsK, ky_str, Option.isSome_some, if_true]
    rw [putK_kv, putE_new hn, ih]
    simp
/-! ### kinds joined -/
def isKd (k : Str) : Bool := decide (k = Str.ofString "plain") || (decide (k = Str.ofString "firm") || (decide (k = Str.ofString "row") || (decide (k = Str.ofString "shelf") || decide (k = Str.ofString "any"))))
def joinK (a b : Str) : Str := if a = b then a else if isFirm a && isFirm b then "firm" else "any"
def joinE (x y : Kd) : Kd := ((keysE x).filter fun b => (look y b).isSome).map fun b => (b, joinK (kin x b) (kin y b))
theorem isKd_in (k : Str) : inD (.str k) (.tuple [.str "plain", .str "firm", .str "row", .str "shelf", .str "any"]) = some (isKd k) := by
  simp [isKd, eq_comm (a := k)]
theorem bb_is_kind (cf : CallFn) (k : Str) : callF ld.sg cf 1000 [] c_is_kind [.imm (.str k)] = some (.ret (.imm (.bool (isKd k))) [none]) := by
  have h := isKd_in k
  generalize hT : (PyData.tuple [.str "plain", .str "firm", .str "row", .str "shelf", .str "any"]) = T at h
  have hc : c_is_kind = ⟨1, 1, [(.ret (.and (.prm (.isi "str") [(.var 0)]) (.cmp .isin (.var 0) (.cst T))))]⟩ := by rw [← hT]; rfl
  rw [hc]
  clear hc hT
  simp [callF, h]
theorem bb_joined_kind (cf : CallFn) (a b : Str) (h : ∀ k, cf (.fn "is_kind") [.imm (.str k)] = some (.ret (.imm (.bool (isKd k))) [none])) (ha : isKd a = true) (hb : isKd b = true) : callF ld.sg cf 1000 [] c_joined_kind [.imm (.str a), .imm (.str b)] = some (.ret (.imm (.str (joinK a b))) [none, none]) := by
  have h1 := h a
  have h2 := h b
  rw [ha] at h1
  rw [hb] at h2
  have f1 := firm_in a
  have f2 := firm_in b
  generalize hT : (PyData.tuple [.str "plain", .str "firm"]) = T at f1 f2
  have hc : c_joined_kind = ⟨2, 2, [(.ite (.or (.not (.cal "is_kind" [(.var 0)])) (.not (.cal "is_kind" [(.var 1)]))) [(.rse "BadQuestion" false (.cst (.str "two kinds are wanted")))] []), (.ite (.cmp .eq (.var 0) (.var 1)) [(.ret (.var 0))] []), (.ret (.ite (.and (.cmp .isin (.var 0) (.cst T)) (.cmp .isin (.var 1) (.cst T))) (.cst (.str "firm")) (.cst (.str "any"))))]⟩ := by rw [← hT]; rfl
  rw [hc]
  clear hc hT
  unfold joinK
  by_cases e : a = b
  · simp [callF, h1, h2, e]
  · generalize isFirm a = x at f1 ⊢
    generalize isFirm b = y at f2 ⊢
    cases x <;> cases y <;> simp [callF, h1, h2, e, f1, f2]
/-- what a dict of kinds is -/
structure KdOk (kd : Kd) : Prop where
  nd : (keysE kd).Nodup
  kk : ∀ p ∈ kd, isKd p.2 = true
theorem KdOk.kin {kd : Kd} (h : KdOk kd) {b : Str} (hb : (look kd b).isSome = true) : isKd (kin kd b) = true := by
  unfold K48.kin
  unfold look at hb ⊢
  cases hf : kd.find? (fun p => decide (p.1 = b)) with
  | none => rw [hf] at hb; cases hb
  | some p => exact h.kk p (List.mem_of_find?_eq_some hf)
theorem look_key {kd : Kd} {b : Str} (h : b ∈ keysE kd) : (look kd b).isSome = true := by
  unfold look
  obtain ⟨p, hp, rfl⟩ := List.mem_map.mp h
  rw [Option.isSome_map, List.find?_isSome]
  exact ⟨p, hp, by simp⟩
theorem joinK_kd {a b : Str} (ha : isKd a = true) : isKd (joinK a b) = true := by
  unfold joinK
  split
  · exact ha
  · split <;> decide +kernel
theorem keys_join (x y : Kd) : keysE (joinE x y) = (keysE x).filter fun b => (look y b).isSome := by
  unfold joinE
  simp only [keysE, List.map_map]
  exact List.map_id' _
theorem KdOk.join {x y : Kd} (hx : KdOk x) : KdOk (joinE x y) := by
  refine ⟨by rw [keys_join]; exact hx.nd.filter _, fun p hp => ?_⟩
  obtain ⟨b, hb, rfl⟩ := List.mem_map.mp hp
  exact joinK_kd (hx.kin (look_key (List.mem_filter.mp hb).1))
theorem keys_putE (kd : Kd) (b k : Str) : keysE (putE kd b k) = if b ∈ keysE kd then keysE kd else keysE kd ++ [b] := by
  by_cases h : b ∈ keysE kd
  · rw [if_pos h]
    unfold putE
    rw [if_pos (by
      obtain ⟨p, hp, rfl⟩ := List.mem_map.mp h
      simp only [List.any_eq_true, decide_eq_true_eq]
      exact ⟨p, hp, rfl⟩)]
    simp only [keysE, List.map_map]
    refine List.map_congr_left fun p _ => ?_
    simp only [Function.comp]
    split <;> rfl
  · rw [if_neg h, putE_new h]
    simp
theorem KdOk.put {kd : Kd} {b k : Str} (h : KdOk kd) (hk : isKd k = true) : KdOk (putE kd b k) := by
  refine ⟨?_, fun p hp => ?_⟩
  · rw [keys_putE]
    split
    · exact h.nd
    · rename_i n
      exact List.nodup_append.mpr ⟨h.nd, by simp, fun a ha c hc e => n (by simp at hc; rw [← hc, ← e]; exact ha)⟩
  · unfold putE at hp
    split at hp
    · obtain ⟨q, hq, rfl⟩ := List.mem_map.mp hp
      split
      · exact hk
      · exact h.kk q hq
    · rcases List.mem_append.mp hp with hp | hp
      · exact h.kk p hp
      · simp at hp
        subst hp
        exact hk
theorem KdOk.step {kd : Kd} {s : SD} (h : KdOk kd) (hu : ∀ b ∈ s.used, (look kd b).isSome = true) : KdOk (stepK kd s) := by
  unfold stepK
  split
  · rename_i k x hk hx
    refine h.put ?_
    have fi : ∀ (c : Bool), isKd (if c then ("firm" : Str) else "any") = true := fun c => by cases c <;> decide +kernel
    cases s <;> simp only [SD.kind, Option.some.injEq] at hk <;> first | (cases hk; done) | (subst hk; first | decide +kernel | skip)
    · exact fi _
    · split
      · decide +kernel
      · exact h.kin (hu _ (by simp [SD.used]))
    · split
      · decide +kernel
      · exact h.kin (hu _ (by simp [SD.used]))
    · exact fi _
  · exact h
def pJ (y : Kd) : D → Bool
  | .str b => (look y b).isSome
  | _ => false
def fJ (x y : Kd) : D → D
  | .str b => .tuple [.str b, .str (joinK (kin x b) (kin y b))]
  | d => d
theorem bb_joined_all (cf : CallFn) (x y : Kd) (m : M) (hm : m = .dic (kvD y) ∨ m = .imm (.dict (kvD y))) (hx : KdOk x) (hy : KdOk y) (hl : x.length < 1000) (h : ∀ a b, isKd a = true → isKd b = true → cf (.fn "joined_kind") [.imm (.str a), .imm (.str b)] = some (.ret (.imm (.str (joinK a b))) [none, none])) :
    callF ld.sg cf 1000 [] c_joined_all [.imm (.dict (kvD x)), m] = some (.ret (.dic (kvD (joinE x y))) [none, none]) := by
  have lc := lcp_pure (pJ y) (fJ x y) (test := tests ld.sg cf [(.cmp .isin (.var 2) (.var 1))]) (elt := eval ld.sg cf (.tup [(.var 2), (.cal "joined_kind" [(.sub (.var 0) (.var 2)), (.sub (.var 1) (.var 2))])])) (tg := [2]) (one := true) (ρ := [some (.imm (.dict (kvD x))), some m, none]) ((keysE x).map PyData.str) [] (by simp [line]; omega) fun d hd => by
    obtain ⟨b, hb, rfl⟩ := List.mem_map.mp hd
    have lx := look_key hb
    have g1 := getK_kv y b
    refine ⟨[some (.imm (.dict (kvD x))), some m, some (.imm (.str b))], [some (.imm (.dict (kvD x))), some m, some (.imm (.str b))], rfl, ?_, rfl, fun hp => ?_⟩
    · have e : (getK (kvD y) (.str b)).isSome = (look y b).isSome := by rw [g1]; simp
      show _ = some (R.ok (look y b).isSome _)
      rw [← e]
      generalize kvD x = kx
      generalize kvD y = ky at hm ⊢
      rcases hm with rfl | rfl
      · cases hg : (getK ky (.str b)).isSome <;> simp [hg]
      · cases hg : (getK ky (.str b)).isSome <;> simp [hg]
    · have ly : (look y b).isSome = true := hp
      have sx := sub_kv lx
      have sy := sub_kv ly
      have hj := h (kin x b) (kin y b) (hx.kin lx) (hy.kin ly)
      refine ⟨.imm (.tuple [.str b, .str (joinK (kin x b) (kin y b))]), [some (.imm (.dict (kvD x))), some m, some (.imm (.str b))], ?_, rfl, rfl⟩
      generalize joinK (kin x b) (kin y b) = j at hj ⊢
      generalize kin x b = a1 at sx hj
      generalize kin y b = a2 at sy hj
      generalize kvD x = kx at sx ⊢
      generalize kvD y = ky at hm sy ⊢
      rcases hm with rfl | rfl <;> simp [sx, sy, hj]
  have em : (((keysE x).map PyData.str).filter (pJ y)).map (fJ x y) = itD (joinE x y) := by
    unfold joinE itD
    rw [List.filter_map, List.map_map, List.map_map]
    rfl
  rw [em] at lc
  have pk := pairs_kv (joinE x y) [] (by simpa using (hx.join (y := y)).nd)
  simp only [List.map_nil, List.nil_append] at pk lc
  have ei : ((kvD x).map fun p => p.1) = (keysE x).map PyData.str := by simp [List.map_map]
  have it : itemsD (.dict (kvD x)) = some ((keysE x).map PyData.str) := by rw [im_dic, ei]
  generalize hE : (Ex.tup [(.var 2), (.cal "joined_kind" [(.sub (.var 0) (.var 2)), (.sub (.var 1) (.var 2))])]) = EE at lc
  generalize hF : ([(.cmp .isin (.var 2) (.var 1))] : List Ex) = FF at lc
  have hc : c_joined_all = ⟨3, 2, [(.ret (.prm .dict [(.lcp EE [2] true (.val (.var 0)) FF)]))]⟩ := by rw [← hE, ← hF]; rfl
  rw [hc]
  clear hc hE hF em ei
  generalize itD (joinE x y) = jj at lc pk
  generalize kvD (joinE x y) = kj at pk ⊢
  generalize (keysE x).map PyData.str = ks at lc it
  generalize kvD x = kx at lc it ⊢
  simp [-im_dic, callF, it, lc, pk]
end K48
set_option Elab.async false
set_option linter.all false
set_option maxRecDepth 100000
set_option maxHeartbeats 800000
namespace K48
open PySem (PyData Str)
open Iv
/-! ### Going.through, with ifs -/
mutual
def kd1 : PD → Kd → Kd
  | .one s, kd => stepK kd s
  | .iff _ a b, kd => joinE (kdL a kd) (kdL b kd)
def kdL : List PD → Kd → Kd
  | [], kd => kd
  | p :: ps, kd => kdL ps (kd1 p kd)
end
def wr1 (s : SD) (kd : Kd) (rows wr : List D) : List D := if s.word kd = Str.ofString "" then wr else wr ++ [.tuple [.int rows.length, .str (s.word kd)]]
mutual
def rw1 : PD → Kd → List D × List D → List D × List D
  | .one s, kd, r => (r.1 ++ [tk kd], wr1 s kd r.1 r.2)
  | .iff _ a b, kd, r => rwL b kd (rwL a kd (r.1 ++ [tk kd], r.2))
def rwL : List PD → Kd → List D × List D → List D × List D
  | [], _, r => r
  | p :: ps, kd, r => rwL ps (kd1 p kd) (rw1 p kd r)
end
mutual
def ok1 : PD → Kd → Prop
  | .one s, kd => (∀ b ∈ s.used, (look kd b).isSome = true) ∧ s.nOk = true
  | .iff _ a b, kd => okL a kd ∧ okL b kd
def okL : List PD → Kd → Prop
  | [], _ => True
  | p :: ps, kd => ok1 p kd ∧ okL ps (kd1 p kd)
end
mutual
theorem kd1_ok : ∀ (p : PD) {kd : Kd}, KdOk kd → ok1 p kd → KdOk (kd1 p kd)
  | .one s, kd, h, ok => by simp only [ok1] at ok; simp only [kd1]; exact h.step ok.1
  | .iff _ a b, kd, h, ok => by simp only [ok1] at ok; simp only [kd1]; exact (kdL_ok a h ok.1).join
theorem kdL_ok : ∀ (ps : List PD) {kd : Kd}, KdOk kd → okL ps kd → KdOk (kdL ps kd)
  | [], kd, h, _ => by simp only [kdL]; exact h
  | p :: ps, kd, h, ok => by simp only [okL] at ok; simp only [kdL]; exact kdL_ok ps (kd1_ok p h ok.1) ok.2
end
theorem step_len (kd : Kd) (s : SD) : (stepK kd s).length ≤ kd.length + 1 := by
  unfold stepK
  split
  · unfold putE
    split <;> simp
  · omega
theorem join_len' (x y : Kd) : (joinE x y).length ≤ x.length := by
  unfold joinE
  rw [List.length_map]
  exact Nat.le_trans (List.length_filter_le _ _) (by simp)
mutual
theorem kd1_len : ∀ (p : PD) (kd : Kd), (kd1 p kd).length ≤ kd.length + p.sz
  | .one s, kd => by simp only [kd1, PD.sz]; exact step_len kd s
  | .iff _ a b, kd => by
    simp only [kd1, PD.sz]
    have := kdL_len a kd
    have := join_len' (kdL a kd) (kdL b kd)
    omega
theorem kdL_len : ∀ (ps : List PD) (kd : Kd), (kdL ps kd).length ≤ kd.length + szL ps
  | [], kd => by simp [kdL, szL]
  | p :: ps, kd => by
    simp only [kdL, szL]
    have := kd1_len p kd
    have := kdL_len ps (kd1 p kd)
    omega
end
theorem wr1_len (s : SD) (kd : Kd) (rows wr : List D) : (wr1 s kd rows wr).length ≤ wr.length + 1 := by
  unfold wr1
  split <;> simp
mutual
theorem rw1_len : ∀ (p : PD) (kd : Kd) (r : List D × List D), (rw1 p kd r).1.length = r.1.length + p.sz ∧ (rw1 p kd r).2.length ≤ r.2.length + p.sz
  | .one s, kd, r => by
    simp only [rw1, PD.sz]
    exact ⟨by simp, wr1_len s kd r.1 r.2⟩
  | .iff _ a b, kd, r => by
    simp only [rw1, PD.sz]
    have h1 := rwL_len a kd (r.1 ++ [tk kd], r.2)
    have h2 := rwL_len b kd (rwL a kd (r.1 ++ [tk kd], r.2))
    simp at h1
    omega
theorem rwL_len : ∀ (ps : List PD) (kd : Kd) (r : List D × List D), (rwL ps kd r).1.length = r.1.length + szL ps ∧ (rwL ps kd r).2.length ≤ r.2.length + szL ps
  | [], kd, r => by simp [rwL, szL]
  | p :: ps, kd, r => by
    simp only [rwL, szL]
    have h1 := rw1_len p kd r
    have h2 := rwL_len ps (kd1 p kd) (rw1 p kd r)
    omega
end
structure KindsCf (cf : CallFn) : Prop where
  ww : ∀ (s : SD) (kd : Kd), (∀ b ∈ s.used, (look kd b).isSome = true) → cf (.fn "wrong_word") [.imm s.d, .imm (.dict (kvD kd))] = some (.ret (.imm (.str (s.word kd))) [none, none])
  wi : ∀ (c : Str) (A B : List D) (kd : Kd), cf (.fn "wrong_word") [.imm (.tuple [.str "if", .str c, .tuple A, .tuple B]), .imm (.dict (kvD kd))] = some (.ret (.imm (.str "")) [none, none])
  tk : ∀ kd : Kd, cf (.fn "told_kinds") [.imm (.dict (kvD kd))] = some (.ret (.imm (tk kd)) [none])
  kb : ∀ (s : SD) (kd : Kd), (∀ b ∈ s.used, (look kd b).isSome = true) → s.nOk = true → kd.length < 1000 → cf (.fn "kinds_behind") [.imm s.d, .imm (.dict (kvD kd))] = some (.ret (.dic (kvD (stepK kd s))) [none, none])
  ja : ∀ (x y : Kd) (m : M), (m = .dic (kvD y) ∨ m = .imm (.dict (kvD y))) → KdOk x → KdOk y → x.length < 1000 → cf (.fn "joined_all") [.imm (.dict (kvD x)), m] = some (.ret (.dic (kvD (joinE x y))) [none, none])
abbrev thBody : List Sm := [(.asg 4 (.cal "wrong_word" [(.var 3), (.var 2)])), (.ite (.cmp .ne (.var 4) (.cst (.str ""))) [(.exp (.mut .append 0 (some 3) [(.tup [(.prm .len [(.fld 0 2)]), (.var 4)])]))] []), (.exp (.mut .append 0 (some 2) [(.cal "told_kinds" [(.var 2)])])), (.ite (.cmp .eq (.sub (.var 3) (.cst (.int 0))) (.cst (.str "if"))) [(.asg 5 (.mth (.var 0) "through" [(.sub (.var 3) (.cst (.int 2))), (.var 2)])), (.asg 2 (.cal "joined_all" [(.var 5), (.mth (.var 0) "through" [(.sub (.var 3) (.cst (.int 3))), (.var 2)])]))] [(.asg 2 (.cal "kinds_behind" [(.var 3), (.var 2)]))])]
def gIns (rows wr : List D) : M := .ins "Going" [(2, .lst rows), (3, .lst wr)]
def DicM (m : M) (kd : Kd) : Prop := m = .dic (kvD kd) ∨ m = .imm (.dict (kvD kd))
theorem d_word (s : SD) : ∃ r, s.d = .tuple (.str s.name :: r) := by cases s <;> exact ⟨_, rfl⟩
theorem name_if (s : SD) : ¬ (Str.ofString s.name = Str.ofString "if") := by cases s <;> simp [SD.name]
theorem b_thOne (cf : CallFn) (K : KindsCf cf) (s : SD) (kd : Kd) (rows wr : List D) (x1 x4 x5 : Option M) (m2 : M) (hm : DicM m2 kd) (hu : ∀ b ∈ s.used, (look kd b).isSome = true) (hn : s.nOk = true) (hl : kd.length < 1000) (hr : rows.length < 1000) (hw : wr.length < 1000) :
    ∃ y4, execs ld.sg cf [0] 1000 thBody [some (gIns rows wr), x1, some m2, some (.imm s.d), x4, x5] = some (.nx [some (gIns (rows ++ [tk kd]) (wr1 s kd rows wr)), x1, some (.dic (kvD (stepK kd s))), some (.imm s.d), y4, x5]) := by
  have w1 := K.ww s kd hu
  have w2 := K.tk kd
  have w3 := K.kb s kd hu hn hl
  obtain ⟨r, er⟩ := d_word s
  have ni := name_if s
  have l1 : rows.length < line := by unfold line; omega
  have l2 : wr.length < line := by unfold line; omega
  have sb : subD s.d (.int 0) = some (.str s.name) := by rw [er]; simp
  refine ⟨some (.imm (.str (s.word kd))), ?_⟩
  unfold gIns wr1
  unfold DicM at hm
  generalize tk kd = t at w2 ⊢
  generalize kvD (stepK kd s) = k2 at w3 ⊢
  generalize kvD kd = k1 at w1 w2 w3 hm
  generalize s.word kd = w at w1 ⊢
  generalize Str.ofString s.name = nm at sb ni
  generalize s.d = dd at w1 w3 sb ⊢
  by_cases h : w = Str.ofString ""
  · rcases hm with rfl | rfl <;> simp [w1, w2, w3, sb, ni, h, l1]
  · rcases hm with rfl | rfl <;> simp [w1, w2, w3, sb, ni, h, l1, l2]
theorem b_thIf (cf : CallFn) (c : Str) (A B : List D) (kv k1 kj : List (D × D)) (t : D) (rows wr r1 w1 r2 w2 : List D) (x1 x4 x5 : Option M) (m2 ma mb : M) (hm : m2 = .dic kv ∨ m2 = .imm (.dict kv)) (hr : rows.length < line)
    (ww : cf (.fn "wrong_word") [.imm (.tuple [.str "if", .str c, .tuple A, .tuple B]), .imm (.dict kv)] = some (.ret (.imm (.str "")) [none, none])) (tt : cf (.fn "told_kinds") [.imm (.dict kv)] = some (.ret (.imm t) [none]))
    (h1 : cf (.mt "Going" "through") [gIns (rows ++ [t]) wr, .imm (.tuple A), .imm (.dict kv)] = some (.ret ma [some (gIns r1 w1), none, none])) (hma : ma = .dic k1 ∨ ma = .imm (.dict k1))
    (h2 : cf (.mt "Going" "through") [gIns r1 w1, .imm (.tuple B), .imm (.dict kv)] = some (.ret mb [some (gIns r2 w2), none, none])) (h3 : cf (.fn "joined_all") [.imm (.dict k1), mb] = some (.ret (.dic kj) [none, none])) :
    ∃ y4 y5, execs ld.sg cf [0] 1000 thBody [some (gIns rows wr), x1, some m2, some (.imm (.tuple [.str "if", .str c, .tuple A, .tuple B])), x4, x5] = some (.nx [some (gIns r2 w2), x1, some (.dic kj), some (.imm (.tuple [.str "if", .str c, .tuple A, .tuple B])), y4, y5]) := by
  have hk : FK.mt "Going" "through" ∈ ld.sg.keys := by simpa using k_Going_through
  refine ⟨some (.imm (.str "")), some (.imm (.dict k1)), ?_⟩
  unfold gIns at h1 h2 ⊢
  rcases hm with rfl | rfl <;> rcases hma with rfl | rfl <;> simp [ww, tt, h1, h2, h3, hr, hk]
/-- through, for lists of a depth -/
def ThrAt (cf : CallFn) (n : Nat) : Prop := ∀ (ps : List PD) (kd : Kd) (rows wr : List D) (m2 : M), dpL ps ≤ n → okL ps kd → KdOk kd → DicM m2 kd → kd.length + szL ps < 900 → rows.length + szL ps < 900 → wr.length + szL ps < 900 →
  ∃ m, cf (.mt "Going" "through") [gIns rows wr, .imm (.tuple (dsD ps)), m2] = some (.ret m [some (gIns (rwL ps kd (rows, wr)).1 (rwL ps kd (rows, wr)).2), none, none]) ∧ DicM m (kdL ps kd)
theorem b_thTurn (cf : CallFn) (K : KindsCf cf) (n : Nat) (hT : ∀ j, j < n → ThrAt cf j) (p : PD) (kd : Kd) (rows wr : List D) (x1 x4 x5 : Option M) (m2 : M) (hd : p.dp ≤ n) (ok : ok1 p kd) (hk : KdOk kd) (hm : DicM m2 kd) (h1 : kd.length + p.sz < 900) (h2 : rows.length + p.sz < 900) (h3 : wr.length + p.sz < 900) :
    ∃ y4 y5 m', execs ld.sg cf [0] 1000 thBody [some (gIns rows wr), x1, some m2, some (.imm p.d), x4, x5] = some (.nx [some (gIns (rw1 p kd (rows, wr)).1 (rw1 p kd (rows, wr)).2), x1, some m', some (.imm p.d), y4, y5]) ∧ DicM m' (kd1 p kd) := by
  cases p with
  | one s =>
    simp only [ok1] at ok
    simp only [PD.sz] at h1 h2 h3
    obtain ⟨y4, e⟩ := b_thOne cf K s kd rows wr x1 x4 x5 m2 hm ok.1 ok.2 (by omega) (by omega) (by omega)
    simp only [PD.d, rw1, kd1]
    exact ⟨y4, x5, _, e, .inl rfl⟩
  | iff c a b =>
    simp only [ok1] at ok
    simp only [PD.sz] at h1 h2 h3
    simp only [PD.dp] at hd
    have T := hT (n - 1) (by omega)
    have la := rwL_len a kd (rows ++ [tk kd], wr)
    simp only [List.length_append, List.length_cons, List.length_nil] at la
    obtain ⟨ma, e1, hma⟩ := T a kd (rows ++ [tk kd]) wr (.imm (.dict (kvD kd))) (by omega) ok.1 hk (.inr rfl) (by omega) (by simp; omega) (by omega)
    obtain ⟨mb, e2, hmb⟩ := T b kd (rwL a kd (rows ++ [tk kd], wr)).1 (rwL a kd (rows ++ [tk kd], wr)).2 (.imm (.dict (kvD kd))) (by omega) ok.2 hk (.inr rfl) (by omega) (by omega) (by omega)
    have e3 := K.ja (kdL a kd) (kdL b kd) mb hmb (kdL_ok a hk ok.1) (kdL_ok b hk ok.2) (by have := kdL_len a kd; omega)
    obtain ⟨y4, y5, e⟩ := b_thIf cf c (dsD a) (dsD b) (kvD kd) (kvD (kdL a kd)) (kvD (joinE (kdL a kd) (kdL b kd))) (tk kd) rows wr _ _ _ _ x1 x4 x5 m2 ma mb hm (by unfold line; omega) (K.wi c _ _ kd) (K.tk kd) e1 hma e2 e3
    simp only [PD.d, rw1, kd1]
    exact ⟨y4, y5, _, e, .inl rfl⟩
theorem b_thLoop (cf : CallFn) (K : KindsCf cf) (n : Nat) (hT : ∀ j, j < n → ThrAt cf j) (x1 : Option M) : ∀ (ps : List PD) (kd : Kd) (rows wr : List D) (x3 x4 x5 : Option M) (m2 : M), dpL ps ≤ n → okL ps kd → KdOk kd → DicM m2 kd → kd.length + szL ps < 900 → rows.length + szL ps < 900 → wr.length + szL ps < 900 →
    ∃ y3 y4 y5 m2', forL (execs ld.sg cf [0] 1000 thBody) [3] true (dsD ps) [some (gIns rows wr), x1, some m2, x3, x4, x5] = some (.nx [some (gIns (rwL ps kd (rows, wr)).1 (rwL ps kd (rows, wr)).2), x1, some m2', y3, y4, y5]) ∧ DicM m2' (kdL ps kd)
  | [], kd, rows, wr, x3, x4, x5, m2, _, _, _, hm, _, _, _ => ⟨x3, x4, x5, m2, by simp only [dsD, rwL]; rfl, by simp only [kdL]; exact hm⟩
  | p :: ps, kd, rows, wr, x3, x4, x5, m2, hd, ok, hk, hm, h1, h2, h3 => by
    simp only [szL] at h1 h2 h3
    simp only [dpL] at hd
    simp only [okL] at ok
    obtain ⟨y4, y5, m', e, hm'⟩ := b_thTurn cf K n hT p kd rows wr x1 x4 x5 m2 (by omega) ok.1 hk hm (by omega) (by omega) (by omega)
    have l1 := kd1_len p kd
    have l2 := rw1_len p kd (rows, wr)
    simp only at l2
    obtain ⟨y3', y4', y5', m2', e2, hm2⟩ := b_thLoop cf K n hT x1 ps (kd1 p kd) (rw1 p kd (rows, wr)).1 (rw1 p kd (rows, wr)).2 (some (.imm p.d)) y4 y5 m' (by omega) ok.2 (kd1_ok p hk ok.1) hm' (by omega) (by omega) (by omega)
    refine ⟨y3', y4', y5', m2', ?_, by simp only [kdL]; exact hm2⟩
    simp only [dsD, rwL]
    rw [forL, bt_one]
    have ep : putS [some (gIns rows wr), x1, some m2, x3, x4, x5] 3 (.imm p.d) = [some (gIns rows wr), x1, some m2, some (.imm p.d), x4, x5] := rfl
    simp only [ep, e]
    exact e2
theorem bb_through (cf : CallFn) (K : KindsCf cf) (n : Nat) (hT : ∀ j, j < n → ThrAt cf j) (ps : List PD) (kd : Kd) (rows wr : List D) (m2 : M) (hd : dpL ps ≤ n) (ok : okL ps kd) (hk : KdOk kd) (hm : DicM m2 kd) (h1 : kd.length + szL ps < 900) (h2 : rows.length + szL ps < 900) (h3 : wr.length + szL ps < 900) :
    ∃ m, callF ld.sg cf 1000 [0] c_Going_through [gIns rows wr, .imm (.tuple (dsD ps)), m2] = some (.ret m [some (gIns (rwL ps kd (rows, wr)).1 (rwL ps kd (rows, wr)).2), none, none]) ∧ DicM m (kdL ps kd) := by
  obtain ⟨y3, y4, y5, m2', e, hm'⟩ := b_thLoop cf K n hT (some (.imm (.tuple (dsD ps)))) ps kd rows wr none none none m2 hd ok hk hm h1 h2 h3
  refine ⟨m2', ?_, hm'⟩
  generalize hB : thBody = B at e
  have hc : c_Going_through = ⟨6, 3, [(.fo [3] true (.val (.var 1)) B), (.ret (.var 2))]⟩ := by rw [← hB]; rfl
  rw [hc]
  clear hc hB hm hm'
  generalize gIns (rwL ps kd (rows, wr)).1 (rwL ps kd (rows, wr)).2 = g at e ⊢
  generalize gIns rows wr = g0 at e ⊢
  generalize dsD ps = zs at e ⊢
  simp [callF, e]
theorem bb_ginit (cf : CallFn) : callF ld.sg cf 1000 [0] c_Going___init__ [.ins "Going" []] = some (.ret (.imm .none) [some (gIns [] [])]) := by
  simp [callF, c_Going___init__, setFld, gIns]
end K48
set_option Elab.async false
set_option linter.all false
set_option maxRecDepth 100000
set_option maxHeartbeats 800000
namespace K48
open PySem (PyData Str)
open Iv
/-! ### Walk.go -/
abbrev bxD (l : List Str) : List (D × D) := l.map fun n => (PyData.str n, PyData.bool true)
def addB (l : List Str) (x : Str) : List Str := if x ∈ l then l else l ++ [x]
theorem getK_bx (l : List Str) (b : Str) : (getK (bxD l) (.str b)).isSome = decide (b ∈ l) := by
  induction l with
  | nil => rfl
  | cons p l ih =>
    simp only [List.map_cons, getK_cons, ky_str, Option.some.injEq, Sum.inr.injEq]
    by_cases h : p = b
    · simp [h]
    · rw [if_neg h, ih]
      simp [List.mem_cons, eq_comm (a := b), h]
theorem putK_bx (l : List Str) (x : Str) : putK (.str x) (.bool true) (bxD l) = bxD (addB l x) := by
  unfold putK addB
  have e : ((bxD l).any fun p => decide (keyD p.1 = keyD (.str x))) = decide (x ∈ l) := by
    rw [List.any_map, Bool.eq_iff_iff]
    simp [eq_comm (a := x)]
  rw [e]
  by_cases h : x ∈ l
  · simp only [h, decide_true, if_true]
    rw [List.map_map]
    refine List.map_congr_left fun p _ => ?_
    by_cases h2 : p = x
    · simp [h2]
    · simp [h2]
  · simp [h]
theorem strs_bx (l : List Str) : strsD ((bxD l).map (·.1)) = some l := by
  induction l with
  | nil => rfl
  | cons n l ih => simp only [List.map_cons, strsD, ih]; rfl
def stepB (l : List Str) (s : SD) : List Str := match s.given with
  | some x => addB l x
  | none => l
structure WalkCf (cf : CallFn) : Prop where
  ub : ∀ s : SD, cf (.fn "used_by") [.imm s.d] = some (.ret (.lst (s.used.map PyData.str)) [none])
  gb : ∀ s : SD, cf (.fn "given_by") [.imm s.d] = some (.ret (.imm (optS s.given)) [none])
  ui : ∀ (c : Str) (A B : List D), cf (.fn "used_by") [.imm (.tuple [.str "if", .str c, .tuple A, .tuple B])] = some (.ret (.lst [.str c]) [none])
abbrev goBody : List Sm := [(.asg 5 (.prm .len [(.fld 0 0)])), (.ite (.or (.cmp .eq (.var 5) (.cst (.int 30))) (.or (.cmp .gt (.var 3) (.cst (.int 3))) (.not (.cal "is_deed" [(.var 4)])))) [(.rse "BadProgram" true (.var 5))] []), (.ite (.not (.prm .all [(.lcp (.cmp .isin (.var 8) (.var 2)) [8] true (.val (.cal "used_by" [(.var 4)])) [])])) [(.rse "BadProgram" true (.var 5))] []), (.exp (.mut .append 0 (some 0) [(.var 4)])), (.exp (.mut .append 0 (some 1) [(.prm .tuple [(.prm .sorted [(.var 2)])])])), (.ite (.cmp .eq (.sub (.var 4) (.cst (.int 0))) (.cst (.str "if"))) [(.asg 6 (.mth (.var 0) "go" [(.sub (.var 4) (.cst (.int 2))), (.prm .dict [(.var 2)]), (.bin .add (.var 3) (.cst (.int 1)))])), (.asg 7 (.mth (.var 0) "go" [(.sub (.var 4) (.cst (.int 3))), (.prm .dict [(.var 2)]), (.bin .add (.var 3) (.cst (.int 1)))])), (.asg 2 (.prm .dict [(.lcp (.tup [(.var 8), (.cst (.bool true))]) [8] true (.val (.var 6)) [(.cmp .isin (.var 8) (.var 7))])]))] [(.ite (.cmp .isnot (.cal "given_by" [(.var 4)]) (.cst .none)) [(.sub 2 none (.cal "given_by" [(.var 4)]) (.cst (.bool true)))] [])])]
def wIns (ds kn : List D) : M := .ins "Walk" [(0, .lst ds), (1, .lst kn)]
theorem lc_known (cf : CallFn) (x0 x1 x3 x4 x5 x6 x7 : Option M) (l bs : List Str) (hl : bs.length ≤ 1000) (hb : ∀ b ∈ bs, b ∈ l) :
    lcpL (tests ld.sg cf []) (eval ld.sg cf (.cmp .isin (.var 8) (.var 2))) [8] true (bs.map PyData.str) [] [x0, x1, some (.dic (bxD l)), x3, x4, x5, x6, x7, none] = some ((bs.map PyData.str).map fun _ => PyData.bool true, [x0, x1, some (.dic (bxD l)), x3, x4, x5, x6, x7, none]) := by
  have lc := lcp_pure (fun _ => true) (fun _ => PyData.bool true) (test := tests ld.sg cf []) (elt := eval ld.sg cf (.cmp .isin (.var 8) (.var 2))) (tg := [8]) (one := true) (ρ := [x0, x1, some (.dic (bxD l)), x3, x4, x5, x6, x7, none]) (bs.map PyData.str) [] (by simp [line]; omega) fun d hd => by
    obtain ⟨b, hb', rfl⟩ := List.mem_map.mp hd
    have h1 : (getK (bxD l) (.str b)).isSome = true := by rw [getK_bx]; simpa using hb b hb'
    refine ⟨_, _, bt_one _ _ _, tsts_nil _ _ _, rfl, fun _ => ⟨.imm (.bool true), [x0, x1, some (.dic (bxD l)), x3, x4, x5, x6, x7, some (.imm (.str b))], ?_, rfl, rfl⟩⟩
    generalize bxD l = kv at h1 ⊢
    simp [h1]
  rw [filt] at lc
  simpa using lc
theorem used_len (s : SD) (hn : s.nOk = true) : s.used.length ≤ 4 := by
  cases s <;> simp [SD.nOk] at hn <;> simp [SD.used] <;> omega
theorem b_goOne (cf : CallFn) (W : WalkCf cf) (s : SD) (l : List Str) (ds kn : List D) (dp : Int) (hdp : dp ≤ 3) (x1 x5 x6 x7 : Option M) (hd : cf (.fn "is_deed") [.imm s.d] = some (.ret (.imm (.bool true)) [none])) (hn : s.nOk = true) (hu : ∀ b ∈ s.used, b ∈ l) (hl : l.length < 60) (hr : ds.length < 30) (hw : kn.length < 1000) :
    ∃ t y5, execs ld.sg cf [0] 1000 goBody [some (wIns ds kn), x1, some (.dic (bxD l)), some (.imm (.int dp)), some (.imm s.d), x5, x6, x7, none] = some (.nx [some (wIns (ds ++ [s.d]) (kn ++ [t])), x1, some (.dic (bxD (stepB l s))), some (.imm (.int dp)), some (.imm s.d), y5, x6, x7, none]) := by
  have w1 := W.ub s
  have w2 := W.gb s
  have lc := lc_known cf (some (wIns ds kn)) x1 (some (.imm (.int dp))) (some (.imm s.d)) (some (.imm (.int ds.length))) x6 x7 l s.used (by have := used_len s hn; omega) hu
  have bt := bools_true (s.used.map PyData.str)
  obtain ⟨r, er⟩ := d_word s
  have ni := name_if s
  have sb : subD s.d (.int 0) = some (.str s.name) := by rw [er]; simp
  have l1 : ds.length < line := by unfold line; omega
  have l2 : kn.length < line := by unfold line; omega
  have l3 : ¬ ((ds.length : Int) = 30) := by omega
  have l5 : ¬ (3 < dp) := by omega
  have l4 : (bxD l).length < line := by simp [line]; omega
  have so : prmD .sorted [.dict (bxD l)] = some (.lst ((sortS l).map .str)) := by
    show (strsD ((bxD l).map (·.1))).bind _ = _
    rw [strs_bx, ob_some, if_pos (by omega)]
  refine ⟨.tuple ((sortS l).map .str), some (.imm (.int ds.length)), ?_⟩
  have gv : (s.given = none ∧ stepB l s = l) ∨ ∃ x, s.given = some x ∧ bxD (stepB l s) = putK (.str x) (.bool true) (bxD l) := by
    unfold stepB
    cases s.given with
    | none => exact .inl ⟨rfl, rfl⟩
    | some x => exact .inr ⟨x, rfl, (putK_bx l x).symm⟩
  generalize hE : (Ex.cmp .isin (.var 8) (.var 2)) = EE at lc
  have hg : goBody = [(.asg 5 (.prm .len [(.fld 0 0)])), (.ite (.or (.cmp .eq (.var 5) (.cst (.int 30))) (.or (.cmp .gt (.var 3) (.cst (.int 3))) (.not (.cal "is_deed" [(.var 4)])))) [(.rse "BadProgram" true (.var 5))] []), (.ite (.not (.prm .all [(.lcp EE [8] true (.val (.cal "used_by" [(.var 4)])) [])])) [(.rse "BadProgram" true (.var 5))] []), (.exp (.mut .append 0 (some 0) [(.var 4)])), (.exp (.mut .append 0 (some 1) [(.prm .tuple [(.prm .sorted [(.var 2)])])])), (.ite (.cmp .eq (.sub (.var 4) (.cst (.int 0))) (.cst (.str "if"))) [(.asg 6 (.mth (.var 0) "go" [(.sub (.var 4) (.cst (.int 2))), (.prm .dict [(.var 2)]), (.bin .add (.var 3) (.cst (.int 1)))])), (.asg 7 (.mth (.var 0) "go" [(.sub (.var 4) (.cst (.int 3))), (.prm .dict [(.var 2)]), (.bin .add (.var 3) (.cst (.int 1)))])), (.asg 2 (.prm .dict [(.lcp (.tup [(.var 8), (.cst (.bool true))]) [8] true (.val (.var 6)) [(.cmp .isin (.var 8) (.var 7))])]))] [(.ite (.cmp .isnot (.cal "given_by" [(.var 4)]) (.cst .none)) [(.sub 2 none (.cal "given_by" [(.var 4)]) (.cst (.bool true)))] [])])] := by rw [← hE]
  rw [hg]
  clear hg hE er
  unfold wIns at lc ⊢
  generalize (sortS l).map PyData.str = so' at so ⊢
  generalize (s.used.map PyData.str) = us at w1 lc bt
  generalize Str.ofString s.name = nm at sb ni
  rcases gv with ⟨g1, g2⟩ | ⟨x, g1, g2⟩
  · rw [g2]
    rw [g1] at w2
    simp only [optS] at w2
    generalize bxD l = kv at lc so l4 ⊢
    generalize s.d = dd at hd w1 w2 lc sb ⊢
    simp [hd, w1, w2, lc, bt, so, sb, ni, l1, l2, l3, l5]
  · rw [g2]
    rw [g1] at w2
    simp only [optS] at w2
    generalize bxD l = kv at lc so l4 ⊢
    generalize s.d = dd at hd w1 w2 lc sb ⊢
    simp [hd, w1, w2, lc, bt, so, sb, ni, l1, l2, l3, l5, l4]
theorem pairs_bx : ∀ (l acc : List Str), (acc ++ l).Nodup → pairsK (l.map fun n => PyData.tuple [.str n, .bool true]) (bxD acc) = some (bxD (acc ++ l))
  | [], acc, _ => by simp [pairsK]
  | n :: l, acc, nd => by
    have hn : n ∉ acc := fun h => by
      have := (List.nodup_append.mp nd).2.2 n h n List.mem_cons_self
      exact this rfl
    have ih := pairs_bx l (acc ++ [n]) (by simpa using nd)
    simp only [List.map_cons, pairsK, ky_str, Option.isSome_some, if_true]
    rw [putK_bx, show addB acc n = acc ++ [n] from if_neg hn, ih]
    simp
def inL (l : List Str) : D → Bool
  | .str b => decide (b ∈ l)
  | _ => false
def trD (d : D) : D := .tuple [d, .bool true]
theorem lc_both (cf : CallFn) (x0 x1 x2 x3 x4 x5 x6 : Option M) (l1 l2 : List Str) (hl : l1.length ≤ 1000) :
    lcpL (tests ld.sg cf [(.cmp .isin (.var 8) (.var 7))]) (eval ld.sg cf (.tup [(.var 8), (.cst (.bool true))])) [8] true (l1.map PyData.str) [] [x0, x1, x2, x3, x4, x5, x6, some (.dic (bxD l2)), none] = some ((l1.filter fun b => decide (b ∈ l2)).map (fun b => PyData.tuple [.str b, .bool true]), [x0, x1, x2, x3, x4, x5, x6, some (.dic (bxD l2)), none]) := by
  have lc := lcp_pure (inL l2) trD (test := tests ld.sg cf [(.cmp .isin (.var 8) (.var 7))]) (elt := eval ld.sg cf (.tup [(.var 8), (.cst (.bool true))])) (tg := [8]) (one := true) (ρ := [x0, x1, x2, x3, x4, x5, x6, some (.dic (bxD l2)), none]) (l1.map PyData.str) [] (by simp [line]; omega) fun d hd => by
    obtain ⟨b, hb', rfl⟩ := List.mem_map.mp hd
    have h1 := getK_bx l2 b
    refine ⟨[x0, x1, x2, x3, x4, x5, x6, some (.dic (bxD l2)), some (.imm (.str b))], [x0, x1, x2, x3, x4, x5, x6, some (.dic (bxD l2)), some (.imm (.str b))], rfl, ?_, rfl, fun _ => ⟨.imm (trD (.str b)), [x0, x1, x2, x3, x4, x5, x6, some (.dic (bxD l2)), some (.imm (.str b))], ?_, rfl, rfl⟩⟩
    · show _ = some (R.ok (decide (b ∈ l2)) _)
      rw [← h1]
      generalize bxD l2 = kv
      cases hg : (getK kv (.str b)).isSome <;> simp [hg]
    · unfold trD
      simp
  rw [lc]
  simp only [List.nil_append, List.filter_map, List.map_map]
  rfl
theorem b_goIf (cf : CallFn) (c : Str) (A B : List D) (l l1 l2 : List Str) (t : D) (ds kn d1 k1 d2 k2 : List D) (dp : Int) (x1 x5 x6 x7 : Option M) (hdp : dp ≤ 3) (hl : l.length < 60) (h1l : l1.length < 60) (hr : ds.length < 30) (hw : kn.length < 1000) (nd : l1.Nodup) (hc : c ∈ l)
    (ht : t = .tuple ((sortS l).map .str)) (hd : cf (.fn "is_deed") [.imm (.tuple [.str "if", .str c, .tuple A, .tuple B])] = some (.ret (.imm (.bool true)) [none])) (w1 : cf (.fn "used_by") [.imm (.tuple [.str "if", .str c, .tuple A, .tuple B])] = some (.ret (.lst [.str c]) [none]))
    (h1 : cf (.mt "Walk" "go") [wIns (ds ++ [.tuple [.str "if", .str c, .tuple A, .tuple B]]) (kn ++ [t]), .imm (.tuple A), .dic (bxD l), .imm (.int (dp + 1))] = some (.ret (.dic (bxD l1)) [some (wIns d1 k1), none, none, none]))
    (h2 : cf (.mt "Walk" "go") [wIns d1 k1, .imm (.tuple B), .dic (bxD l), .imm (.int (dp + 1))] = some (.ret (.dic (bxD l2)) [some (wIns d2 k2), none, none, none])) :
    ∃ y5 y6 y7, execs ld.sg cf [0] 1000 goBody [some (wIns ds kn), x1, some (.dic (bxD l)), some (.imm (.int dp)), some (.imm (.tuple [.str "if", .str c, .tuple A, .tuple B])), x5, x6, x7, none] = some (.nx [some (wIns d2 k2), x1, some (.dic (bxD (l1.filter fun b => decide (b ∈ l2)))), some (.imm (.int dp)), some (.imm (.tuple [.str "if", .str c, .tuple A, .tuple B])), y5, y6, y7, none]) := by
  have lc := lc_known cf (some (wIns ds kn)) x1 (some (.imm (.int dp))) (some (.imm (.tuple [.str "if", .str c, .tuple A, .tuple B]))) (some (.imm (.int ds.length))) x6 x7 l [c] (by simp) (by simpa using hc)
  have lb := lc_both cf (some (wIns d2 k2)) x1 (some (.dic (bxD l))) (some (.imm (.int dp))) (some (.imm (.tuple [.str "if", .str c, .tuple A, .tuple B]))) (some (.imm (.int ds.length))) (some (.imm (.dict (bxD l1)))) l1 l2 (by omega)
  have pk := pairs_bx (l1.filter fun b => decide (b ∈ l2)) [] (by rw [List.nil_append]; exact nd.filter _)
  simp only [List.map_nil, List.nil_append] at pk
  have ei : ((bxD l1).map fun p => p.1) = l1.map PyData.str := by simp [List.map_map]
  have it : itemsD (.dict (bxD l1)) = some (l1.map PyData.str) := by rw [im_dic, ei]
  have m1 : ds.length < line := by unfold line; omega
  have m2 : kn.length < line := by unfold line; omega
  have m3 : ¬ ((ds.length : Int) = 30) := by omega
  have m5 : ¬ (3 < dp) := by omega
  have so : prmD .sorted [.dict (bxD l)] = some (.lst ((sortS l).map .str)) := by
    show (strsD ((bxD l).map (·.1))).bind _ = _
    rw [strs_bx, ob_some, if_pos (by omega)]
  have hk : FK.mt "Walk" "go" ∈ ld.sg.keys := by simpa using k_Walk_go
  refine ⟨some (.imm (.int ds.length)), some (.imm (.dict (bxD l1))), some (.dic (bxD l2)), ?_⟩
  generalize hE : (Ex.cmp .isin (.var 8) (.var 2)) = EE at lc
  generalize hF : (Ex.tup [(.var 8), (.cst (.bool true))]) = FF at lb
  generalize hG : ([(.cmp .isin (.var 8) (.var 7))] : List Ex) = GG at lb
  have hg : goBody = [(.asg 5 (.prm .len [(.fld 0 0)])), (.ite (.or (.cmp .eq (.var 5) (.cst (.int 30))) (.or (.cmp .gt (.var 3) (.cst (.int 3))) (.not (.cal "is_deed" [(.var 4)])))) [(.rse "BadProgram" true (.var 5))] []), (.ite (.not (.prm .all [(.lcp EE [8] true (.val (.cal "used_by" [(.var 4)])) [])])) [(.rse "BadProgram" true (.var 5))] []), (.exp (.mut .append 0 (some 0) [(.var 4)])), (.exp (.mut .append 0 (some 1) [(.prm .tuple [(.prm .sorted [(.var 2)])])])), (.ite (.cmp .eq (.sub (.var 4) (.cst (.int 0))) (.cst (.str "if"))) [(.asg 6 (.mth (.var 0) "go" [(.sub (.var 4) (.cst (.int 2))), (.prm .dict [(.var 2)]), (.bin .add (.var 3) (.cst (.int 1)))])), (.asg 7 (.mth (.var 0) "go" [(.sub (.var 4) (.cst (.int 3))), (.prm .dict [(.var 2)]), (.bin .add (.var 3) (.cst (.int 1)))])), (.asg 2 (.prm .dict [(.lcp FF [8] true (.val (.var 6)) GG)]))] [(.ite (.cmp .isnot (.cal "given_by" [(.var 4)]) (.cst .none)) [(.sub 2 none (.cal "given_by" [(.var 4)]) (.cst (.bool true)))] [])])] := by rw [← hE, ← hF, ← hG]
  rw [hg]
  clear hg hE hF hG ei
  simp only [List.map_cons, List.map_nil] at lc
  unfold wIns at lc lb h1 h2 ⊢
  subst ht
  generalize (sortS l).map PyData.str = so' at so h1 ⊢
  generalize bxD (l1.filter fun b => decide (b ∈ l2)) = kj at pk ⊢
  generalize ((l1.filter fun b => decide (b ∈ l2)).map fun b => PyData.tuple [.str b, .bool true]) = js at lb pk
  generalize l1.map PyData.str = ls at it lb
  generalize bxD l = kv at lc lb so h1 h2 ⊢
  generalize bxD l1 = kv1 at it lb h1 ⊢
  generalize bxD l2 = kv2 at lb h2 ⊢
  simp [-im_dic, hd, w1, lc, lb, so, m1, m2, m3, m5, h1, h2, hk, it, pk, bools]
/-! ### the walk of deeds with ifs -/
mutual
def bx1 : PD → List Str → List Str
  | .one s, l => stepB l s
  | .iff _ a b, l => (bxL a l).filter fun x => decide (x ∈ bxL b l)
def bxL : List PD → List Str → List Str
  | [], l => l
  | p :: ps, l => bxL ps (bx1 p l)
end
mutual
def wok1 : PD → List Str → Prop
  | .one s, l => (∀ b ∈ s.used, b ∈ l) ∧ s.nOk = true
  | .iff c a b, l => c ∈ l ∧ wokL a l ∧ wokL b l
def wokL : List PD → List Str → Prop
  | [], _ => True
  | p :: ps, l => wok1 p l ∧ wokL ps (bx1 p l)
end
theorem addB_nd {l : List Str} {x : Str} (h : l.Nodup) : (addB l x).Nodup := by
  unfold addB
  split
  · exact h
  · rename_i n
    exact List.nodup_append.mpr ⟨h, by simp, fun a ha c hc e => n (by simp at hc; rw [← hc, ← e]; exact ha)⟩
theorem stepB_nd {l : List Str} {s : SD} (h : l.Nodup) : (stepB l s).Nodup := by
  unfold stepB
  split
  · exact addB_nd h
  · exact h
theorem stepB_len (l : List Str) (s : SD) : (stepB l s).length ≤ l.length + 1 := by
  unfold stepB
  split
  · unfold addB
    split <;> simp
  · omega
mutual
theorem bx1_nd : ∀ (p : PD) {l : List Str}, l.Nodup → (bx1 p l).Nodup
  | .one s, l, h => by simp only [bx1]; exact stepB_nd h
  | .iff _ a b, l, h => by simp only [bx1]; exact (bxL_nd a h).filter _
theorem bxL_nd : ∀ (ps : List PD) {l : List Str}, l.Nodup → (bxL ps l).Nodup
  | [], l, h => by simp only [bxL]; exact h
  | p :: ps, l, h => by simp only [bxL]; exact bxL_nd ps (bx1_nd p h)
end
mutual
theorem bx1_len : ∀ (p : PD) (l : List Str), (bx1 p l).length ≤ l.length + p.sz
  | .one s, l => by simp only [bx1, PD.sz]; exact stepB_len l s
  | .iff _ a b, l => by
    simp only [bx1, PD.sz]
    have := bxL_len a l
    have := List.length_filter_le (fun x => decide (x ∈ bxL b l)) (bxL a l)
    omega
theorem bxL_len : ∀ (ps : List PD) (l : List Str), (bxL ps l).length ≤ l.length + szL ps
  | [], l => by simp [bxL, szL]
  | p :: ps, l => by
    simp only [bxL, szL]
    have := bx1_len p l
    have := bxL_len ps (bx1 p l)
    omega
end
/-- what is looked at in each deed: is_deed lets it by -/
def ide1 (cf : CallFn) (p : PD) : Prop := cf (.fn "is_deed") [.imm p.d] = some (.ret (.imm (.bool true)) [none])
def GoAt (S : List PD → Prop) (cf : CallFn) (n : Nat) : Prop := ∀ (ps : List PD) (l : List Str) (ds kn : List D) (dp : Int), S ps → dpL ps ≤ n → dp + dpL ps ≤ 3 → wokL ps l → l.Nodup → l.length + szL ps < 50 → ds.length + szL ps ≤ 30 → kn.length + szL ps < 900 →
  ∃ ds' kn', cf (.mt "Walk" "go") [wIns ds kn, .imm (.tuple (dsD ps)), .dic (bxD l), .imm (.int dp)] = some (.ret (.dic (bxD (bxL ps l))) [some (wIns ds' kn'), none, none, none]) ∧ ds'.length = ds.length + szL ps ∧ kn'.length = kn.length + szL ps
/-- S: what is known of each list of deeds; of its parts, too -/
structure Sub (S : List PD → Prop) (cf : CallFn) : Prop where
  hd : ∀ p ps, S (p :: ps) → ide1 cf p
  tl : ∀ p ps, S (p :: ps) → S ps
  a : ∀ c a b ps, S (.iff c a b :: ps) → S a ∧ S b
theorem b_goTurn (S : List PD → Prop) (cf : CallFn) (W : WalkCf cf) (hS : Sub S cf) (n : Nat) (hT : ∀ j, j < n → GoAt S cf j) (p : PD) (ps : List PD) (l : List Str) (ds kn : List D) (dp : Int) (x1 x5 x6 x7 : Option M) (s : S (p :: ps)) (hd : p.dp ≤ n) (hdp : dp + p.dp ≤ 3) (ok : wok1 p l) (nd : l.Nodup) (h1 : l.length + p.sz < 50) (h2 : ds.length + p.sz ≤ 30) (h3 : kn.length + p.sz < 900) :
    ∃ ds' kn' y5 y6 y7, execs ld.sg cf [0] 1000 goBody [some (wIns ds kn), x1, some (.dic (bxD l)), some (.imm (.int dp)), some (.imm p.d), x5, x6, x7, none] = some (.nx [some (wIns ds' kn'), x1, some (.dic (bxD (bx1 p l))), some (.imm (.int dp)), some (.imm p.d), y5, y6, y7, none]) ∧ ds'.length = ds.length + p.sz ∧ kn'.length = kn.length + p.sz := by
  cases p with
  | one q =>
    simp only [wok1] at ok
    simp only [PD.sz] at h1 h2 h3 ⊢
    simp only [PD.dp] at hdp
    have i := hS.hd _ _ s
    simp only [ide1, PD.d] at i
    obtain ⟨t, y5, e⟩ := b_goOne cf W q l ds kn dp (by omega) x1 x5 x6 x7 i ok.2 ok.1 (by omega) (by omega) (by omega)
    simp only [PD.d, bx1]
    exact ⟨_, _, y5, x6, x7, e, by simp, by simp⟩
  | iff c a b =>
    simp only [wok1] at ok
    simp only [PD.sz] at h1 h2 h3 ⊢
    simp only [PD.dp] at hd hdp
    have i := hS.hd _ _ s
    simp only [ide1, PD.d] at i
    have sab := hS.a _ _ _ _ s
    have T := hT (n - 1) (by omega)
    obtain ⟨d1, k1, e1, q1, q2⟩ := T a l (ds ++ [.tuple [.str "if", .str c, .tuple (dsD a), .tuple (dsD b)]]) (kn ++ [.tuple ((sortS l).map .str)]) (dp + 1) sab.1 (by omega) (by omega) ok.2.1 nd (by omega) (by simp; omega) (by simp; omega)
    simp only [List.length_append, List.length_cons, List.length_nil] at q1 q2
    obtain ⟨d2, k2, e2, q3, q4⟩ := T b l d1 k1 (dp + 1) sab.2 (by omega) (by omega) ok.2.2 nd (by omega) (by omega) (by omega)
    obtain ⟨y5, y6, y7, e⟩ := b_goIf cf c (dsD a) (dsD b) l (bxL a l) (bxL b l) _ ds kn d1 k1 d2 k2 dp x1 x5 x6 x7 (by omega) (by omega) (by have := bxL_len a l; omega) (by omega) (by omega) (bxL_nd a nd) ok.1 rfl i (W.ui c _ _) e1 e2
    simp only [PD.d, bx1]
    exact ⟨_, _, y5, y6, y7, e, by omega, by omega⟩
theorem b_goLoop (S : List PD → Prop) (cf : CallFn) (W : WalkCf cf) (hS : Sub S cf) (n : Nat) (hT : ∀ j, j < n → GoAt S cf j) (x1 : Option M) (dp : Int) : ∀ (ps : List PD) (l : List Str) (ds kn : List D) (x4 x5 x6 x7 : Option M), S ps → dpL ps ≤ n → dp + dpL ps ≤ 3 → wokL ps l → l.Nodup → l.length + szL ps < 50 → ds.length + szL ps ≤ 30 → kn.length + szL ps < 900 →
    ∃ ds' kn' y4 y5 y6 y7, forL (execs ld.sg cf [0] 1000 goBody) [4] true (dsD ps) [some (wIns ds kn), x1, some (.dic (bxD l)), some (.imm (.int dp)), x4, x5, x6, x7, none] = some (.nx [some (wIns ds' kn'), x1, some (.dic (bxD (bxL ps l))), some (.imm (.int dp)), y4, y5, y6, y7, none]) ∧ ds'.length = ds.length + szL ps ∧ kn'.length = kn.length + szL ps
  | [], l, ds, kn, x4, x5, x6, x7, _, _, _, _, _, _, _, _ => ⟨ds, kn, x4, x5, x6, x7, by simp only [dsD, bxL]; rfl, by simp [szL], by simp [szL]⟩
  | p :: ps, l, ds, kn, x4, x5, x6, x7, s, hd, hdp, ok, nd, h1, h2, h3 => by
    simp only [szL] at h1 h2 h3 ⊢
    simp only [dpL] at hd hdp
    simp only [wokL] at ok
    obtain ⟨d1, k1, y5, y6, y7, e, q1, q2⟩ := b_goTurn S cf W hS n hT p ps l ds kn dp x1 x5 x6 x7 s (by omega) (by omega) ok.1 nd (by omega) (by omega) (by omega)
    have l1 := bx1_len p l
    obtain ⟨d2, k2, y4', y5', y6', y7', e2, q3, q4⟩ := b_goLoop S cf W hS n hT x1 dp ps (bx1 p l) d1 k1 (some (.imm p.d)) y5 y6 y7 (hS.tl _ _ s) (by omega) (by omega) ok.2 (bx1_nd p nd) (by omega) (by omega) (by omega)
    refine ⟨d2, k2, y4', y5', y6', y7', ?_, by omega, by omega⟩
    simp only [dsD, bxL]
    rw [forL, bt_one]
    have ep : putS [some (wIns ds kn), x1, some (.dic (bxD l)), some (.imm (.int dp)), x4, x5, x6, x7, none] 4 (.imm p.d) = [some (wIns ds kn), x1, some (.dic (bxD l)), some (.imm (.int dp)), some (.imm p.d), x5, x6, x7, none] := rfl
    simp only [ep, e]
    exact e2
theorem bb_go (S : List PD → Prop) (cf : CallFn) (W : WalkCf cf) (hS : Sub S cf) (n : Nat) (hT : ∀ j, j < n → GoAt S cf j) (ps : List PD) (l : List Str) (ds kn : List D) (dp : Int) (s : S ps) (hd : dpL ps ≤ n) (hdp : dp + dpL ps ≤ 3) (ok : wokL ps l) (nd : l.Nodup) (h1 : l.length + szL ps < 50) (h2 : ds.length + szL ps ≤ 30) (h3 : kn.length + szL ps < 900) :
    ∃ ds' kn', callF ld.sg cf 1000 [0] c_Walk_go [wIns ds kn, .imm (.tuple (dsD ps)), .dic (bxD l), .imm (.int dp)] = some (.ret (.dic (bxD (bxL ps l))) [some (wIns ds' kn'), none, none, none]) ∧ ds'.length = ds.length + szL ps ∧ kn'.length = kn.length + szL ps := by
  obtain ⟨d1, k1, y4, y5, y6, y7, e, q1, q2⟩ := b_goLoop S cf W hS n hT (some (.imm (.tuple (dsD ps)))) dp ps l ds kn none none none none s hd hdp ok nd h1 h2 h3
  refine ⟨d1, k1, ?_, q1, q2⟩
  generalize hB : goBody = B at e
  have hc : c_Walk_go = ⟨9, 4, [(.fo [4] true (.val (.var 1)) B), (.ret (.var 2))]⟩ := by rw [← hB]; rfl
  rw [hc]
  clear hc hB q1 q2
  generalize wIns d1 k1 = w at e ⊢
  generalize wIns ds kn = w0 at e ⊢
  generalize dsD ps = zs at e ⊢
  generalize bxD (bxL ps l) = kv' at e ⊢
  generalize bxD l = kv at e ⊢
  simp [callF, e]
theorem bb_winit (cf : CallFn) : callF ld.sg cf 1000 [0] c_Walk___init__ [.ins "Walk" []] = some (.ret (.imm .none) [some (wIns [] [])]) := by
  simp [callF, c_Walk___init__, setFld, wIns]
end K48
set_option Elab.async false
set_option linter.all false
set_option maxRecDepth 100000
set_option maxHeartbeats 800000
namespace K48
open PySem (PyData Str)
open Iv
/-! ### params -/
def pk (k : Str) : Prop := k = Str.ofString "plain" ∨ k = Str.ofString "firm" ∨ k = Str.ofString "any"
theorem cnt_nodup (xs : List Str) (nd : xs.Nodup) : ∀ i, i ≤ xs.length → cnt xs i = i
  | 0, _ => rfl
  | i + 1, h => by
    have ih := cnt_nodup xs nd i (by omega)
    rw [cnt, ih, if_neg]
    intro hh
    simp only [List.any_eq_true, beq_iff_eq] at hh
    obtain ⟨x, hx, e⟩ := hh
    have hi : i < xs.length := by omega
    have e2 : xs.getD i Str.empty = xs[i] := by simp [List.getD, hi]
    rw [e2] at e
    obtain ⟨j, hj, ej⟩ := List.mem_take_iff_getElem.mp hx
    rw [e] at ej
    have := (List.getElem_inj (h₀ := by omega) (h₁ := hi) nd).mp ej
    omega
theorem strs_map (l : List Str) : strsD (l.map PyData.str) = some l := by
  induction l with
  | nil => rfl
  | cons n l ih => simp only [List.map_cons, strsD, ih]; rfl
theorem bb_are_params (cf : CallFn) (kd : Kd) (hl : kd.length ≤ 3) (hb : ∀ p ∈ kd, Box cf p.1 ∧ pk p.2) (nd : (keysE kd).Nodup) : callF ld.sg cf 1000 [] c_are_params [.imm (.tuple (itD kd))] = some (.ret (.imm (.bool true)) [none]) := by
  generalize hB : [(Sm.ite (.or (.not (.prm (.isi "tuple") [(.var 1)])) (.or (.cmp .ne (.prm .len [(.var 1)]) (.cst (.int 2))) (.not (.cal "is_box" [(.sub (.var 1) (.cst (.int 0)))])))) [(.ret (.cst (.bool false)))] []), (.ite (.or (.not (.prm (.isi "str") [(.sub (.var 1) (.cst (.int 1)))])) (.cmp .notin (.sub (.var 1) (.cst (.int 1))) (.cst (.tuple [(.str "plain"), (.str "firm"), (.str "any")])))) [(.ret (.cst (.bool false)))] [])] = B
  have hc : c_are_params = ⟨2, 1, [(.ite (.or (.not (.prm (.isi "tuple") [(.var 0)])) (.cmp .gt (.prm .len [(.var 0)]) (.cst (.int 3)))) [(.ret (.cst (.bool false)))] []), (.fo [1] true (.val (.var 0)) B), (.ret (.cmp .eq (.prm .set [(.lcp (.sub (.var 1) (.cst (.int 0))) [1] true (.val (.var 0)) [])]) (.prm .len [(.var 0)])))]⟩ := by rw [← hB]; rfl
  obtain ⟨ρ', e, y, er⟩ := for_st (S := Unit) (fun _ _ ρ => ∃ y, ρ = [some (.imm (.tuple (itD kd))), y]) (fun _ _ => ()) (b := execs ld.sg cf [] 1000 B) (tg := [1]) (one := true) (itD kd) 0 () [some (.imm (.tuple (itD kd))), none] ⟨none, rfl⟩ fun j _ ρ d _ hj hr => by
    obtain ⟨y, rfl⟩ := hr
    have hd := List.mem_of_getElem? hj
    obtain ⟨p, hp, rfl⟩ := List.mem_map.mp hd
    obtain ⟨h1, h2⟩ := hb p hp
    refine ⟨_, [some (.imm (.tuple (itD kd))), some (.imm (.tuple [.str p.1, .str p.2]))], bt_one _ _ _, .inl ?_, _, rfl⟩
    subst hB
    generalize PyData.tuple (itD kd) = z
    rcases h2 with h | h | h <;> simp [h, h1]
  subst er
  have lc := lcp_pure (fun _ => true) (fun d => match d with | .tuple (x :: _) => x | d => d) (test := tests ld.sg cf []) (elt := eval ld.sg cf (.sub (.var 1) (.cst (.int 0)))) (tg := [1]) (one := true) (ρ := [some (.imm (.tuple (itD kd))), none]) (itD kd) [] (by simp [line]; omega) fun d hd => by
    obtain ⟨p, hp, rfl⟩ := List.mem_map.mp hd
    refine ⟨_, _, bt_one _ _ _, tsts_nil _ _ _, rfl, fun _ => ⟨.imm (.str p.1), [some (.imm (.tuple (itD kd))), some (.imm (.tuple [.str p.1, .str p.2]))], ?_, rfl, rfl⟩⟩
    generalize PyData.tuple (itD kd) = z
    simp
  rw [filt] at lc
  have em : ((itD kd).map fun d => match d with | .tuple (x :: _) => x | d => d) = (keysE kd).map PyData.str := by
    rw [List.map_map, List.map_map]; rfl
  simp only [List.nil_append] at lc
  rw [em] at lc
  have st : prmD .set [.list ((keysE kd).map PyData.str)] = some (.imm (.int (itD kd).length)) := by
    show (strsD _).bind _ = _
    rw [strs_map, ob_some, if_pos (by simp; omega)]
    rw [cnt_nodup _ nd _ (Nat.le_refl _)]
    simp
  have hgt : ¬ (3 < ((itD kd).length : Int)) := by simp; omega
  generalize (keysE kd).map PyData.str = ns at lc st
  generalize itD kd = pp at e lc st hgt ⊢
  rw [hc]
  clear hB hc
  simp [callF, e, lc, st, hgt]
theorem two_it : ∀ kd : Kd, two (itD kd) = false
  | [] => rfl
  | [_] => rfl
  | [_, _] => rfl
  | _ :: _ :: _ :: _ => rfl
def progD (kd : Kd) (zs : List D) : D := .tuple [.tuple (itD kd), .tuple zs]
theorem bb_walked (cf : CallFn) (kd : Kd) (zs : List D) (e1 : eqD (.tuple zs) (.tuple []) = some false) (hl : kd.length ≤ 3) (nd : (keysE kd).Nodup) (w2 m : M) (h1 : cf (.fn "are_params") [.imm (.tuple (itD kd))] = some (.ret (.imm (.bool true)) [none]))
    (h2 : cf (.mt "Walk" "__init__") [.ins "Walk" []] = some (.ret (.imm .none) [some (wIns [] [])])) (h3 : cf (.mt "Walk" "go") [wIns [] [], .imm (.tuple (zs)), .dic (bxD (keysE kd)), .imm (.int 1)] = some (.ret m [some w2, none, none, none])) :
    callF ld.sg cf 1000 [] c_walked [.imm (progD kd zs)] = some (.ret w2 [none]) := by
  have lc := lcp_pure (fun _ => true) (fun d => match d with | .tuple (x :: _) => .tuple [x, .bool true] | d => d) (test := tests ld.sg cf []) (elt := eval ld.sg cf (.tup [(.var 2), (.cst (.bool true))])) (tg := [2, 3]) (one := false) (ρ := [some (.imm (progD kd zs)), some (wIns [] []), none, none]) (itD kd) [] (by simp [line]; omega) fun d hd => by
    obtain ⟨p, hp, rfl⟩ := List.mem_map.mp hd
    refine ⟨[some (.imm (progD kd zs)), some (wIns [] []), some (.imm (.str p.1)), some (.imm (.str p.2))], _, rfl, tsts_nil _ _ _, rfl, fun _ => ⟨.imm (.tuple [.str p.1, .bool true]), [some (.imm (progD kd zs)), some (wIns [] []), some (.imm (.str p.1)), some (.imm (.str p.2))], ?_, rfl, rfl⟩⟩
    generalize progD kd zs = z
    generalize wIns [] [] = w
    simp
  rw [filt] at lc
  have em : ((itD kd).map fun d => match d with | .tuple (x :: _) => PyData.tuple [x, .bool true] | d => d) = (keysE kd).map fun n => PyData.tuple [.str n, .bool true] := by
    rw [List.map_map, List.map_map]; rfl
  simp only [List.nil_append] at lc
  rw [em] at lc
  have pk := pairs_bx (keysE kd) [] (by simpa using nd)
  simp only [List.map_nil, List.nil_append] at pk
  have hk : FK.mt "Walk" "go" ∈ ld.sg.keys := by simpa using k_Walk_go
  have cw : ∀ x0 x2 x3, clsOf [x0, some (wIns [] []), x2, x3] (.ref 1 none) = some "Walk" := fun x0 x2 x3 => rfl
  unfold progD at lc ⊢
  generalize bxD (keysE kd) = kv at h3 pk
  generalize ((keysE kd).map fun n => PyData.tuple [.str n, .bool true]) = ts at lc pk
  generalize itD kd = pp at h1 lc ⊢
  generalize wIns [] [] = W at h2 h3 lc cw
  simp [-cls_ref, callF, c_walked, h1, h2, h3, e1, lc, pk, cw, hk]
theorem bb_need (cf : CallFn) (d : D) (w : M) (h : cf (.fn "walked") [.imm d] = some (.ret w [none])) : callF ld.sg cf 1000 [] c_need_program [.imm d] = some (.ret (.imm d) [none]) := by
  simp [callF, c_need_program, h]
theorem bb_gone (cf : CallFn) (kd : Kd) (zs : List D) (nd : (keysE kd).Nodup) (g2 m : M) (h1 : cf (.fn "need_program") [.imm (progD kd zs)] = some (.ret (.imm (progD kd zs)) [none]))
    (h2 : cf (.mt "Going" "__init__") [.ins "Going" []] = some (.ret (.imm .none) [some (gIns [] [])])) (h3 : cf (.mt "Going" "through") [gIns [] [], .imm (.tuple (zs)), .dic (kvD kd)] = some (.ret m [some g2, none, none])) :
    callF ld.sg cf 1000 [] c_gone_through [.imm (progD kd zs)] = some (.ret g2 [none]) := by
  have pk := pairs_kv kd [] (by simpa using nd)
  simp only [List.map_nil, List.nil_append] at pk
  have t2 := two_it kd
  have hk : FK.mt "Going" "through" ∈ ld.sg.keys := by simpa using k_Going_through
  have cw : ∀ x0, clsOf [x0, some (gIns [] [])] (.ref 1 none) = some "Going" := fun x0 => rfl
  unfold progD at h1 ⊢
  generalize kvD kd = kv at h3 pk
  generalize itD kd = pp at h1 pk t2 ⊢
  generalize gIns [] [] = W at h2 h3 cw
  simp [-cls_ref, callF, c_gone_through, h1, h2, h3, pk, t2, cw, hk]
theorem bb_kinds_at (cf : CallFn) (d : D) (rows wr : List D) (h : cf (.fn "gone_through") [.imm d] = some (.ret (gIns rows wr) [none])) : callF ld.sg cf 1000 [] c_kinds_at [.imm d] = some (.ret (.imm (.tuple rows)) [none]) := by
  unfold gIns at h
  simp [callF, c_kinds_at, h]
def Bxs (x : Str) : Prop := ∃ n, OkN n ∧ x = nS n
theorem Bxs.ok {x : Str} (h : Bxs x) : PyData.strOk x = true := by
  obtain ⟨n, h, rfl⟩ := h
  exact okS_nS h
theorem cn_is_box (k : Nat) {x : Str} (h : Bxs x) : Box (cn (k + 1)) x := by
  obtain ⟨n, h, rfl⟩ := h
  show cn (k + 1) (.fn "is_box") [.imm (.str (nS n))] = _
  rw [cn_of t_is_box]; exact bb_is_box _ n h
theorem cn_is_deed (k : Nat) (s : SD) (hb : ∀ b ∈ s.all, Bxs b) (hn : s.nOk = true) : cn (k + 3) (.fn "is_deed") [.imm s.d] = some (.ret (.imm (.bool true)) [none]) := by
  rw [cn_of t_is_deed]
  refine bb_is_deed _ s (fun b h => (hb b h).ok) (fun b h => cn_is_box (k + 1) (hb b h)) hn ?_ (fun n h1 h2 => ?_) fun n h1 h2 => ?_
  · rw [cn_of t_length_of]; exact bb_length_of _ s
  · rw [cn_of t_is_plain]
    refine bb_is_plain _ n ?_ ?_
    · rw [cn_of t_is_word]; exact bb_is_word _ n
    · rw [cn_of t_is_among]; exact bb_is_among _ n h1 h2
  · rw [cn_of t_is_part_number]; exact bb_is_part_number _ n h1 h2
/-! ### an if, looked at -/
theorem bb_is_deed_if (cf : CallFn) (c : Str) (A B : List D) (sh : PySem.SeqAt.shaped (.tuple [.str "if", .str c, .tuple A, .tuple B]) = true) (hb : Box cf c) (h1 : cf (.fn "length_of") [.imm (.str "if")] = some (.ret (.imm (.int 4)) [none])) : callF ld.sg cf 1000 [] c_is_deed [.imm (.tuple [.str "if", .str c, .tuple A, .tuple B])] = some (.ret (.imm (.bool true)) [none]) := by
  have e1 := eqD_nil sh
  simp only [List.isEmpty_cons] at e1
  simp [callF, c_is_deed, h1, e1, hb]
theorem bb_length_if (cf : CallFn) : callF ld.sg cf 1000 [] c_length_of [.imm (.str "if")] = some (.ret (.imm (.int 4)) [none]) := by
  simp [callF, c_length_of]
theorem bb_used_if (cf : CallFn) (c : Str) (A B : List D) : callF ld.sg cf 1000 [] c_used_by [.imm (.tuple [.str "if", .str c, .tuple A, .tuple B])] = some (.ret (.lst [.str c]) [none]) := by
  simp [callF, c_used_by]
theorem bb_wrong_if (cf : CallFn) (c : Str) (A B : List D) (kv : List (D × D)) : callF ld.sg cf 1000 [] c_wrong_word [.imm (.tuple [.str "if", .str c, .tuple A, .tuple B]), .imm (.dict kv)] = some (.ret (.imm (.str "")) [none, none]) := by
  simp [callF, c_wrong_word]
mutual
def pOk1 : PD → Prop
  | .one s => (∀ b ∈ s.all, Bxs b) ∧ s.nOk = true
  | .iff c a b => Bxs c ∧ pOkL a ∧ pOkL b
def pOkL : List PD → Prop
  | [] => True
  | p :: ps => pOk1 p ∧ pOkL ps
end
mutual
theorem lay1 : ∀ p : PD, pOk1 p → PyData.canLay0 p.d = true
  | .one s, h => by simp only [pOk1] at h; simp only [PD.d]; exact lay_sd s fun b hb => (h.1 b hb).ok
  | .iff c a b, h => by
    simp only [pOk1] at h
    have h1 := layL a h.2.1
    have h2 := layL b h.2.2
    have h3 := h.1.ok
    have h4 : PyData.strOk (Str.ofString "if") = true := okT "if"
    simp only [PD.d, PyData.canLay0, PyData.canLayAll0, h1, h2, h3, h4, Bool.and_self]
theorem layL : ∀ ps : List PD, pOkL ps → PyData.canLayAll0 (dsD ps) = true
  | [], _ => by simp [dsD, PyData.canLayAll0]
  | p :: ps, h => by
    simp only [pOkL] at h
    simp only [dsD, PyData.canLayAll0, lay1 p h.1, layL ps h.2, Bool.and_self]
end
mutual
theorem dep1 : ∀ p : PD, PyData.depth p.d ≤ 2 + 2 * p.dp
  | .one s => by simp only [PD.d, PD.dp]; have := dp_sd s; omega
  | .iff c a b => by
    have h1 := depL a
    have h2 := depL b
    simp only [PD.d, PD.dp, PyData.depth, PyData.depthAll]
    omega
theorem depL : ∀ ps : List PD, PyData.depthAll (dsD ps) ≤ 2 + 2 * dpL ps
  | [] => by simp [dsD, PyData.depthAll]
  | p :: ps => by
    have h1 := dep1 p
    have h2 := depL ps
    simp only [dsD, dpL, PyData.depthAll]
    omega
end
theorem cn_ide (k : Nat) (p : PD) (h : pOk1 p) (hd : p.dp ≤ 3) : ide1 (cn (k + 3)) p := by
  unfold ide1
  cases p with
  | one s => simp only [pOk1] at h; simp only [PD.d]; exact cn_is_deed k s h.1 h.2
  | iff c a b =>
    have sh : PySem.SeqAt.shaped (PD.iff c a b).d = true := Bool.and_eq_true_iff.mpr ⟨lay1 _ h, by have := dep1 (.iff c a b); simp; omega⟩
    simp only [pOk1] at h
    simp only [PD.d] at sh ⊢
    rw [cn_of t_is_deed]
    exact bb_is_deed_if _ c _ _ sh (cn_is_box (k + 1) h.1) (by rw [cn_of t_length_of]; exact bb_length_if _)
def SS (ps : List PD) : Prop := pOkL ps ∧ dpL ps ≤ 3
theorem subS (k : Nat) : Sub SS (cn (k + 3)) where
  hd := fun p ps h => by
    obtain ⟨h1, h2⟩ := h
    simp only [pOkL, dpL] at h1 h2
    exact cn_ide k p h1.1 (by omega)
  tl := fun p ps h => by
    obtain ⟨h1, h2⟩ := h
    simp only [pOkL, dpL] at h1 h2
    exact ⟨h1.2, by omega⟩
  a := fun c a b ps h => by
    obtain ⟨h1, h2⟩ := h
    simp only [pOkL, pOk1, dpL, PD.dp] at h1 h2
    exact ⟨⟨h1.1.2.1, by omega⟩, ⟨h1.1.2.2, by omega⟩⟩
theorem walkCf (k : Nat) : WalkCf (cn (k + 1)) := ⟨fun s => by rw [cn_of t_used_by]; exact bb_used_by _ s, fun s => by rw [cn_of t_given_by]; exact bb_given_by _ s, fun c A B => by rw [cn_of t_used_by]; exact bb_used_if _ c A B⟩
theorem cn_joined_kind (k : Nat) {a b : Str} (ha : isKd a = true) (hb : isKd b = true) : cn (k + 2) (.fn "joined_kind") [.imm (.str a), .imm (.str b)] = some (.ret (.imm (.str (joinK a b))) [none, none]) := by
  rw [cn_of t_joined_kind]
  exact bb_joined_kind _ a b (fun k' => by rw [cn_of t_is_kind]; exact bb_is_kind _ k') ha hb
theorem kindsCf (k : Nat) : KindsCf (cn (k + 3)) := ⟨fun s kd hu => by rw [cn_of t_wrong_word]; exact bb_wrong_word _ s kd hu, fun c A B kd => by rw [cn_of t_wrong_word]; exact bb_wrong_if _ c A B _, fun kd => by rw [cn_of t_told_kinds]; exact bb_told_kinds _ kd, fun s kd hu hn hl => by
  rw [cn_of t_kinds_behind]
  exact bb_kinds_behind _ s kd hl (by rw [cn_of t_given_kind]; exact bb_given_kind _ s kd hu hn), fun x y m hm hx hy hl => by
  rw [cn_of t_joined_all]
  exact bb_joined_all _ x y m hm hx hy hl fun a b ha hb => cn_joined_kind k ha hb⟩
theorem cn_thr (k : Nat) : ∀ n j, j ≤ n → ThrAt (cn (k + 4 + n)) j
  | n, j, hj => fun ps kd rows wr m2 hd ok hk hm h1 h2 h3 => by
    have e : k + 4 + n = (k + 3 + n) + 1 := by omega
    rw [e, cn_of t_Going_through]
    refine bb_through _ (by have := kindsCf (k + n); rw [show k + n + 3 = k + 3 + n by omega] at this; exact this) n (fun i hi => ?_) ps kd rows wr m2 (by omega) ok hk hm h1 h2 h3
    cases n with
    | zero => omega
    | succ n =>
      have := cn_thr k n i (by omega)
      rw [show k + 4 + n = k + 3 + (n + 1) by omega] at this
      exact this
theorem cn_go (k : Nat) : ∀ n j, j ≤ n → GoAt SS (cn (k + 4 + n)) j
  | n, j, hj => fun ps l ds kn dp s hd hdp ok nd h1 h2 h3 => by
    have e : k + 4 + n = (k + 3 + n) + 1 := by omega
    rw [e, cn_of t_Walk_go]
    have w := walkCf (k + 2 + n)
    rw [show k + 2 + n + 1 = k + 3 + n by omega] at w
    have sb := subS (k + n)
    rw [show k + n + 3 = k + 3 + n by omega] at sb
    refine bb_go SS _ w sb n (fun i hi => ?_) ps l ds kn dp s (by omega) hdp ok nd h1 h2 h3
    cases n with
    | zero => omega
    | succ n =>
      have := cn_go k n i (by omega)
      rw [show k + 4 + n = k + 3 + (n + 1) by omega] at this
      exact this
structure Prg (kd : Kd) (ps : List PD) : Prop where
  par : ∀ p ∈ kd, Bxs p.1 ∧ pk p.2
  nd : (keysE kd).Nodup
  len : kd.length ≤ 3
  ne : ps ≠ []
  few : szL ps ≤ 30
  deep : dpL ps ≤ 2
  dd : pOkL ps
  wk : wokL ps (keysE kd)
  th : okL ps kd
theorem pk_kd {k : Str} (h : pk k) : isKd k = true := by
  rcases h with rfl | rfl | rfl <;> decide +kernel
theorem cn_need (k : Nat) {kd : Kd} {ps : List PD} (P : Prg kd ps) : cn (k + 8) (.fn "need_program") [.imm (progD kd (dsD ps))] = some (.ret (.imm (progD kd (dsD ps))) [none]) := by
  have hlen := P.len
  have hfew := P.few
  have hdeep := P.deep
  have a1 : cn (k + 6) (.fn "are_params") [.imm (.tuple (itD kd))] = some (.ret (.imm (.bool true)) [none]) := by
    rw [cn_of t_are_params]
    exact bb_are_params _ kd P.len (fun p hp => ⟨cn_is_box (k + 4) (P.par p hp).1, (P.par p hp).2⟩) P.nd
  have a2 : cn (k + 6) (.mt "Walk" "__init__") [.ins "Walk" []] = some (.ret (.imm .none) [some (wIns [] [])]) := by
    rw [cn_of t_Walk___init__]
    exact bb_winit _
  have kl : (keysE kd).length = kd.length := by simp
  obtain ⟨d1, k1, a3, _, _⟩ := cn_go k 2 2 (by omega) ps (keysE kd) [] [] 1 ⟨P.dd, by omega⟩ (by omega) (by omega) P.wk P.nd (by omega) (by simp; omega) (by simp; omega)
  have e1 : eqD (.tuple (dsD ps)) (.tuple []) = some false := by
    have := eqD_nil (xs := dsD ps) (Bool.and_eq_true_iff.mpr ⟨layL ps P.dd, by have := depL ps; simp [PyData.depth]; omega⟩)
    rw [this]
    cases hp : ps with
    | nil => exact absurd hp P.ne
    | cons a l => simp [dsD]
  have a4 : cn (k + 7) (.fn "walked") [.imm (progD kd (dsD ps))] = some (.ret (wIns d1 k1) [none]) := by
    rw [cn_of t_walked]
    exact bb_walked _ kd (dsD ps) e1 P.len P.nd _ _ a1 a2 a3
  rw [cn_of t_need_program]
  exact bb_need _ _ _ a4
theorem cn_gone (k : Nat) {kd : Kd} {ps : List PD} (P : Prg kd ps) : cn (k + 9) (.fn "gone_through") [.imm (progD kd (dsD ps))] = some (.ret (gIns (rwL ps kd ([], [])).1 (rwL ps kd ([], [])).2) [none]) := by
  have hlen := P.len
  have hfew := P.few
  have hdeep := P.deep
  rw [cn_of t_gone_through]
  have a2 : cn (k + 8) (.mt "Going" "__init__") [.ins "Going" []] = some (.ret (.imm .none) [some (gIns [] [])]) := by
    rw [cn_of t_Going___init__]
    exact bb_ginit _
  obtain ⟨m, a3, _⟩ := cn_thr (k + 2) 2 2 (by omega) ps kd [] [] (.dic (kvD kd)) (by omega) P.th ⟨P.nd, fun p hp => pk_kd (P.par p hp).2⟩ (.inl rfl) (by omega) (by simp; omega) (by simp; omega)
  exact bb_gone _ kd (dsD ps) P.nd _ m (cn_need k P) a2 a3
theorem cn_kinds_at (k : Nat) {kd : Kd} {ps : List PD} (P : Prg kd ps) : cn (k + 10) (.fn "kinds_at") [.imm (progD kd (dsD ps))] = some (.ret (.imm (.tuple (rwL ps kd ([], [])).1)) [none]) := by
  rw [cn_of t_kinds_at]
  exact bb_kinds_at _ _ _ _ (cn_gone k P)
theorem layAll {zs : List D} : PyData.canLayAll0 zs = true ↔ ∀ z ∈ zs, PyData.canLay0 z = true := by
  induction zs with
  | nil => simp [PyData.canLayAll0]
  | cons z zs ih => simp [PyData.canLayAll0, ih]
theorem dpAll {zs : List D} {n : Nat} : PyData.depthAll zs ≤ n ↔ ∀ z ∈ zs, PyData.depth z ≤ n := by
  induction zs with
  | nil => simp [PyData.depthAll]
  | cons z zs ih =>
    simp only [PyData.depthAll, List.mem_cons, forall_eq_or_imp, ← ih]
    omega
theorem shaped_tk (kd : Kd) (h : ∀ p ∈ kd, PyData.strOk p.1 = true ∧ PyData.strOk p.2 = true) : PySem.SeqAt.shaped (tk kd) = true := by
  have mem : ∀ z ∈ sortD (itD kd), PyData.canLay0 z = true ∧ PyData.depth z ≤ 1 := fun z hz => by
    unfold sortD at hz
    rw [List.mem_mergeSort] at hz
    obtain ⟨p, hp, rfl⟩ := List.mem_map.mp hz
    obtain ⟨h1, h2⟩ := h p hp
    simp [PyData.canLay0, PyData.canLayAll0, PyData.depth, PyData.depthAll, h1, h2]
  unfold PySem.SeqAt.shaped
  have d1 := dpAll.mpr fun z hz => (mem z hz).2
  have l1 := layAll.mpr fun z hz => (mem z hz).1
  refine Bool.and_eq_true_iff.mpr ⟨?_, ?_⟩
  · rw [PyData.canLay0]; exact l1
  · rw [PyData.depth]
    exact decide_eq_true (by omega)
theorem eqD_self {d : D} (h : PySem.SeqAt.shaped d = true) : eqD d d = some true := by
  have e : PyData.eqv d d = true := PySem.SeqAt.eqv_refl d (by unfold PySem.SeqAt.shaped at h; exact (Bool.and_eq_true_iff.mp h).1)
  unfold eqD
  split
  · simp
  · simp [h, e]
end K48
set_option Elab.async false
set_option linter.all false
set_option maxRecDepth 100000
set_option maxHeartbeats 800000
namespace K48
open PySem (PyData Str)
open Iv
/-! ### the law's own defs -/
def kinds5 : List Str := ["plain", "firm", "row", "shelf", "any"]
theorem sort2 {α : Type} (le : α → α → Bool) (a b : α) : [a, b].mergeSort le = if le a b then [a, b] else [b, a] := by
  rw [List.mergeSort]
  simp [List.MergeSort.Internal.splitInTwo, List.merge]
theorem srt2 (a b : Str) : prmD .sorted [.list [.str a, .str b]] = some (.lst (if PySem.W.dataLe false id (.str a) (.str b) then [.str a, .str b] else [.str b, .str a])) := by
  rw [pr_sortL]
  · unfold sortD
    rw [sort2]
  · simp [sortOk, PySem.W.alike, PyData.hasDictAll, PyData.hasDict, PyData.depth]
theorem bb_joins (cf : CallFn) : ∀ a ∈ kinds5, ∀ b ∈ kinds5, callF ld.sg cf 1000 [] c__law_joins [.imm (.str a), .imm (.str b)] = some (.ret (.imm (.str (joinK a b))) [none, none]) := by
  have key : ∀ a ∈ kinds5, ∀ b ∈ kinds5, a ≠ b → (eqD (.list (if PySem.W.dataLe false id (.str a) (.str b) then [PyData.str a, PyData.str b] else [PyData.str b, PyData.str a])) (.list [.str "firm", .str "plain"])) = some (isFirm a && isFirm b) := by decide +kernel
  intro a ha b hb
  have h := srt2 a b
  unfold joinK
  by_cases e : a = b
  · simp [callF, c__law_joins, e]
  · have k := key a ha b hb e
    generalize (if PySem.W.dataLe false id (.str a) (.str b) then [PyData.str a, PyData.str b] else [PyData.str b, PyData.str a]) = zs at h k
    cases hf : (isFirm a && isFirm b) <;> rw [hf] at k <;> simp [callF, c__law_joins, e, h, k, hf]
def madeS (k b o : Str) : SD := if k = Str.ofString "plain" then .plain b 5 else if k = Str.ofString "firm" then .fixed b [] else if k = Str.ofString "row" then .row b [] else if k = Str.ofString "shelf" then .shelf b else .be b o
theorem bb_made (cf : CallFn) (k b o : Str) : callF ld.sg cf 1000 [] c__law_made [.imm (.str k), .imm (.str b), .imm (.str o)] = some (.ret (.imm (madeS k b o).d) [none, none, none]) := by
  unfold madeS
  by_cases h1 : k = Str.ofString "plain"
  · simp [callF, c__law_made, h1, SD.d, mkDict, pairUp, putK]
  · by_cases h2 : k = Str.ofString "firm"
    · simp [callF, c__law_made, h2, SD.d, mkDict, pairUp, putK]
    · by_cases h3 : k = Str.ofString "row"
      · simp [callF, c__law_made, h3, SD.d, mkDict, pairUp, putK]
      · by_cases h4 : k = Str.ofString "shelf"
        · simp [callF, c__law_made, h4, SD.d, mkDict, pairUp, putK]
        · have g1 : ¬ Str.ofString "plain" = k := fun z => h1 z.symm
          have g2 : ¬ Str.ofString "firm" = k := fun z => h2 z.symm
          have g3 : ¬ Str.ofString "row" = k := fun z => h3 z.symm
          have g4 : ¬ Str.ofString "shelf" = k := fun z => h4 z.symm
          simp [callF, c__law_made, h1, h2, h3, h4, SD.d, mkDict, pairUp, putK, g1, g2, g3, g4]
def isK (d : D) : Bool := match d with
  | .str k => isKd k
  | _ => false
theorem bb_is_kindD (cf : CallFn) (d : D) : callF ld.sg cf 1000 [] c_is_kind [.imm d] = some (.ret (.imm (.bool (isK d))) [none]) := by
  cases d with
  | str k => exact bb_is_kind cf k
  | _ => simp [callF, c_is_kind, isK]
theorem bb_joined_bad (cf : CallFn) (a b : D) (h : ∀ d, cf (.fn "is_kind") [.imm d] = some (.ret (.imm (.bool (isK d))) [none])) (hab : isK a = false ∨ isK b = false) : callF ld.sg cf 1000 [] c_joined_kind [.imm a, .imm b] = some (.exc ⟨"BadQuestion", .none⟩ [none, none]) := by
  have h1 := h a
  have h2 := h b
  rcases hab with e | e
  · rw [e] at h1
    simp [callF, c_joined_kind, h1]
  · rw [e] at h2
    cases ha : isK a <;> rw [ha] at h1 <;> simp [callF, c_joined_kind, h1, h2]
theorem bb_word (cf : CallFn) (ds : List D) (n : Nat) (caps : List Nat) (cb : Ex) (h : cf .lm [.thk ds n caps cb] = some (.exc ⟨"BadQuestion", .none⟩ [some (.thk ds n caps cb)])) : callF ld.sg cf 1000 [] c__law_word [.thk ds n caps cb] = some (.ret (.imm (.str "question")) [none]) := by
  have l3 : 3 ≤ line := by decide
  simp [callF, c__law_word, h, hdl_eq, subX, l3, lcpL, line]
def LAM : Ex := .cal "joined_kind" [(.sub (.var 17) (.cst (.int 0))), (.sub (.var 17) (.cst (.int 1)))]
theorem b_lam (cf : CallFn) (a b : D) (h : cf (.fn "joined_kind") [.imm a, .imm b] = some (.exc ⟨"BadQuestion", .none⟩ [none, none])) : ∃ ρ, eval ld.sg cf LAM (capR 18 [17] [.tuple [a, b]]) = some (.exc ⟨"BadQuestion", .none⟩ ρ) := by
  refine ⟨capR 18 [17] [.tuple [a, b]], ?_⟩
  simp [LAM, capR, List.replicate, h]
theorem cn_word (k : Nat) (a b : D) (hab : isK a = false ∨ isK b = false) : cn (k + 4) (.fn "_law_word") [.thk [.tuple [a, b]] 18 [17] LAM] = some (.ret (.imm (.str "question")) [none]) := by
  rw [cn_of t__law_word]
  refine bb_word _ _ _ _ _ ?_
  obtain ⟨ρ, e⟩ := b_lam (cn (k + 2)) a b (by
    rw [cn_of t_joined_kind]
    exact bb_joined_bad _ a b (fun d => by rw [cn_of t_is_kind]; exact bb_is_kindD _ d) hab)
  show callN ld.sg tab 1000 (k + 2 + 1) .lm [.thk [.tuple [a, b]] 18 [17] LAM] = _
  have e' : eval ld.sg (callN ld.sg tab 1000 (k + 2)) LAM (capR 18 [17] [.tuple [a, b]]) = some (.exc ⟨"BadQuestion", .none⟩ ρ) := e
  simp only [callN, e']
end K48
set_option Elab.async false
set_option linter.all false
set_option maxRecDepth 100000
set_option maxHeartbeats 1600000
namespace K48
open PySem (PyData Str)
open Iv
/-! ### the law's programs -/
structure Three (t o b : Str) : Prop where
  bt : Bxs t
  bo : Bxs o
  bb : Bxs b
  n1 : t ≠ o
  n2 : t ≠ b
  n3 : o ≠ b
def kd0 (t o : Str) : Kd := [(t, "plain"), (o, "any")]
def prg (t o b k1 k2 : Str) : List PD := [.iff t [.one (madeS k1 b o)] [.one (madeS k2 b o)], .one (.tell b)]
section
variable {t o b : Str} (F : Three t o b)
include F
theorem step_made : ∀ k ∈ kinds5, stepK (kd0 t o) (madeS k b o) = kd0 t o ++ [(b, k)] := by
  obtain ⟨_, _, _, n1, n2, n3⟩ := F
  intro k hk
  simp only [kinds5, List.mem_cons, List.not_mem_nil, or_false] at hk
  rcases hk with rfl | rfl | rfl | rfl | rfl <;> simp [madeS, stepK, SD.kind, SD.given, putE, kd0, kin, look, n1, n2, n3]
theorem join_made (k1 k2 : Str) : joinE (kd0 t o ++ [(b, k1)]) (kd0 t o ++ [(b, k2)]) = kd0 t o ++ [(b, joinK k1 k2)] := by
  obtain ⟨_, _, _, n1, n2, n3⟩ := F
  simp [joinE, kd0, kin, look, joinK, n1, n2, n3, n1.symm, n2.symm, n3.symm]
theorem made_given (k : Str) : (madeS k b o).given = some b := by
  unfold madeS
  split
  · rfl
  · split
    · rfl
    · split
      · rfl
      · split <;> rfl
theorem made_used (k : Str) : ∀ x ∈ (madeS k b o).used, x = o := by
  unfold madeS
  split
  · simp [SD.used]
  · split
    · simp [SD.used]
    · split
      · simp [SD.used]
      · split <;> simp [SD.used]
theorem made_all (k : Str) : (∀ x ∈ (madeS k b o).all, Bxs x) ∧ (madeS k b o).nOk = true := by
  have h1 := F.bb
  have h2 := F.bo
  unfold madeS
  split
  · exact ⟨by simpa [SD.all] using h1, rfl⟩
  · split
    · exact ⟨by simpa [SD.all] using h1, rfl⟩
    · split
      · exact ⟨by simpa [SD.all] using h1, rfl⟩
      · split
        · exact ⟨by simpa [SD.all] using h1, rfl⟩
        · exact ⟨by simp [SD.all]; exact ⟨h1, h2⟩, rfl⟩
theorem prgOk {k1 k2 : Str} (h1 : k1 ∈ kinds5) (h2 : k2 ∈ kinds5) : Prg (kd0 t o) (prg t o b k1 k2) := by
  have s1 := step_made F k1 h1
  have s2 := step_made F k2 h2
  have j := join_made F k1 k2
  have g1 := made_given F k1
  have g2 := made_given F k2
  have u1 := made_used F k1
  have u2 := made_used F k2
  have a1 := made_all F k1
  have a2 := made_all F k2
  obtain ⟨bt, bo, bb, n1, n2, n3⟩ := F
  have lo : (look (kd0 t o) o).isSome = true := by simp [look, kd0, n1]
  refine ⟨?_, ?_, by simp [kd0], by simp [prg], by simp [prg, szL, PD.sz], by simp [prg, dpL, PD.dp], ?_, ?_, ?_⟩
  · intro p hp
    simp only [kd0, List.mem_cons, List.not_mem_nil, or_false] at hp
    rcases hp with rfl | rfl
    · exact ⟨bt, .inl rfl⟩
    · exact ⟨bo, .inr (.inr rfl)⟩
  · simp [kd0, n1]
  · simp only [prg, pOkL, pOk1]
    exact ⟨⟨bt, ⟨a1, trivial⟩, a2, trivial⟩, ⟨by simpa [SD.all] using bb, rfl⟩, trivial⟩
  · simp only [prg, wokL, wok1, bx1, bxL]
    refine ⟨⟨by simp [kd0], ⟨⟨fun x hx => ?_, a1.2⟩, trivial⟩, ⟨fun x hx => ?_, a2.2⟩, trivial⟩, ⟨fun x hx => ?_, rfl⟩, trivial⟩
    · rw [u1 x hx]; simp [kd0]
    · rw [u2 x hx]; simp [kd0]
    · simp only [SD.used, List.mem_cons, List.not_mem_nil, or_false] at hx
      subst hx
      have ad : ∀ l : List Str, x ∈ addB l x := fun l => by unfold addB; split <;> simp_all
      simp only [stepB, g1, g2, List.mem_filter, decide_eq_true_eq]
      exact ⟨ad _, ad _⟩
  · simp only [prg, okL, ok1, kd1, kdL, s1, s2, j]
    refine ⟨⟨⟨⟨fun x hx => ?_, a1.2⟩, trivial⟩, ⟨fun x hx => ?_, a2.2⟩, trivial⟩, ⟨fun x hx => ?_, rfl⟩, trivial⟩
    · rw [u1 x hx]; exact lo
    · rw [u2 x hx]; exact lo
    · simp only [SD.used, List.mem_cons, List.not_mem_nil, or_false] at hx
      subst hx
      exact look_key (by simp)
theorem row3 {k1 k2 : Str} (h1 : k1 ∈ kinds5) (h2 : k2 ∈ kinds5) : L2.atI (rwL (prg t o b k1 k2) (kd0 t o) ([], [])).1 3 = some (tk (kd0 t o ++ [(b, joinK k1 k2)])) := by
  have s1 := step_made F k1 h1
  have s2 := step_made F k2 h2
  have j := join_made F k1 k2
  simp only [prg, rwL, rw1, kd1, kdL, s1, s2, j]
  generalize tk (kd0 t o ++ [(b, joinK k1 k2)]) = z
  generalize tk (kd0 t o) = y
  simp
end
theorem joinK_comm (a b : Str) : joinK a b = joinK b a := by
  unfold joinK
  by_cases h : a = b
  · rw [h]
  · rw [if_neg h, if_neg (Ne.symm h), Bool.and_comm]
theorem kind_ok : ∀ k ∈ kinds5, isKd k = true ∧ PyData.strOk k = true := by decide +kernel
theorem joinK_ok {a b : Str} (ha : a ∈ kinds5) : PyData.strOk (joinK a b) = true := by
  unfold joinK
  split
  · exact (kind_ok a ha).2
  · split <;> exact okT _
/-! ### the law's turns -/
abbrev TB : List Sm := [(.asg 14 (.cal "_law_joins" [(.var 6), (.var 10)])), (.ite (.or (.cmp .ne (.cal "joined_kind" [(.var 6), (.var 10)]) (.var 14)) (.cmp .ne (.cal "joined_kind" [(.var 10), (.var 6)]) (.var 14))) [(.ret (.cst (.bool false)))] []), (.asg 15 (.tup [(.tup [(.cst (.str "if")), (.var 7), (.tup [(.cal "_law_made" [(.var 6), (.var 9), (.var 8)])]), (.tup [(.cal "_law_made" [(.var 10), (.var 9), (.var 8)])])]), (.tup [(.cst (.str "tell")), (.var 9)])])), (.asg 16 (.cal "kinds_at" [(.tup [(.tup [(.tup [(.var 7), (.cst (.str "plain"))]), (.tup [(.var 8), (.cst (.str "any"))])]), (.var 15)])])), (.ite (.cmp .ne (.sub (.var 16) (.cst (.int 3))) (.prm .tuple [(.prm .sorted [(.lst [(.tup [(.var 7), (.cst (.str "plain"))]), (.tup [(.var 8), (.cst (.str "any"))]), (.tup [(.var 9), (.var 14)])])])])) [(.ret (.cst (.bool false)))] [])]
theorem b_two (cf : CallFn) (one two t o b J : Str) (M1 M2 T : D) (rows zs : List D) (x0 x1 x2 x3 x4 x5 x11 x12 x13 x14 x15 x16 x17 : Option M)
    (j : cf (.fn "_law_joins") [.imm (.str one), .imm (.str two)] = some (.ret (.imm (.str J)) [none, none])) (k1 : cf (.fn "joined_kind") [.imm (.str one), .imm (.str two)] = some (.ret (.imm (.str J)) [none, none])) (k2 : cf (.fn "joined_kind") [.imm (.str two), .imm (.str one)] = some (.ret (.imm (.str J)) [none, none]))
    (m1 : cf (.fn "_law_made") [.imm (.str one), .imm (.str b), .imm (.str o)] = some (.ret (.imm M1) [none, none, none])) (m2 : cf (.fn "_law_made") [.imm (.str two), .imm (.str b), .imm (.str o)] = some (.ret (.imm M2) [none, none, none]))
    (ka : cf (.fn "kinds_at") [.imm (.tuple [.tuple [.tuple [.str t, .str "plain"], .tuple [.str o, .str "any"]], .tuple [.tuple [.str "if", .str t, .tuple [M1], .tuple [M2]], .tuple [.str "tell", .str b]]])] = some (.ret (.imm (.tuple rows)) [none]))
    (a3 : L2.atI rows 3 = some T) (so : prmD .sorted [.list [.tuple [.str t, .str "plain"], .tuple [.str o, .str "any"], .tuple [.str b, .str J]]] = some (.lst zs)) (eq : eqD T (.tuple zs) = some true) :
    ∃ y14 y15 y16, execs ld.sg cf [] 1000 TB [x0, x1, x2, x3, x4, x5, some (.imm (.str one)), some (.imm (.str t)), some (.imm (.str o)), some (.imm (.str b)), some (.imm (.str two)), x11, x12, x13, x14, x15, x16, x17] = some (.nx [x0, x1, x2, x3, x4, x5, some (.imm (.str one)), some (.imm (.str t)), some (.imm (.str o)), some (.imm (.str b)), some (.imm (.str two)), x11, x12, x13, y14, y15, y16, x17]) := by
  refine ⟨some (.imm (.str J)), some (.imm (.tuple [.tuple [.str "if", .str t, .tuple [M1], .tuple [M2]], .tuple [.str "tell", .str b]])), some (.imm (.tuple rows)), ?_⟩
  simp [j, k1, k2, m1, m2, ka, a3, so, eq]
abbrev PB : List Sm := [(.ite (.cmp .ne (.lam "_law_word" 18 [17] LAM) (.cst (.str "question"))) [(.ret (.cst (.bool false)))] [])]
theorem b_pair (cf : CallFn) (a b : D) (x0 x1 x2 x3 x4 x5 x6 x7 x8 x9 x10 x11 x12 x13 x14 x15 x16 : Option M) (h : cf (.fn "_law_word") [.thk [.tuple [a, b]] 18 [17] LAM] = some (.ret (.imm (.str "question")) [none])) :
    execs ld.sg cf [] 1000 PB [x0, x1, x2, x3, x4, x5, x6, x7, x8, x9, x10, x11, x12, x13, x14, x15, x16, some (.imm (.tuple [a, b]))] = some (.nx [x0, x1, x2, x3, x4, x5, x6, x7, x8, x9, x10, x11, x12, x13, x14, x15, x16, some (.imm (.tuple [a, b]))]) := by
  skip
  simp [h]
theorem b_none (cf : CallFn) (a b : D) (x0 x1 x2 x3 x4 x5 x7 x8 x9 x10 x12 x13 x14 x15 x16 x17 : Option M) (h1 : cf (.fn "_law_word") [.thk [.tuple [a, b]] 18 [17] LAM] = some (.ret (.imm (.str "question")) [none])) (h2 : cf (.fn "_law_word") [.thk [.tuple [b, a]] 18 [17] LAM] = some (.ret (.imm (.str "question")) [none])) (h3 : cf (.fn "_law_word") [.thk [.tuple [b, b]] 18 [17] LAM] = some (.ret (.imm (.str "question")) [none])) :
    ∃ y17, execs ld.sg cf [] 1000 [(.fo [17] true (.val (.tup [(.tup [(.var 6), (.var 11)]), (.tup [(.var 11), (.var 6)]), (.tup [(.var 11), (.var 11)])])) PB)] [x0, x1, x2, x3, x4, x5, some (.imm a), x7, x8, x9, x10, some (.imm b), x12, x13, x14, x15, x16, x17] = some (.nx [x0, x1, x2, x3, x4, x5, some (.imm a), x7, x8, x9, x10, some (.imm b), x12, x13, x14, x15, x16, y17]) := by
  have e1 := b_pair cf a b x0 x1 x2 x3 x4 x5 (some (.imm a)) x7 x8 x9 x10 (some (.imm b)) x12 x13 x14 x15 x16 h1
  have e2 := b_pair cf b a x0 x1 x2 x3 x4 x5 (some (.imm a)) x7 x8 x9 x10 (some (.imm b)) x12 x13 x14 x15 x16 h2
  have e3 := b_pair cf b b x0 x1 x2 x3 x4 x5 (some (.imm a)) x7 x8 x9 x10 (some (.imm b)) x12 x13 x14 x15 x16 h3
  refine ⟨some (.imm (.tuple [b, b])), ?_⟩
  generalize PB = Q at e1 e2 e3 ⊢
  simp [forL, e1, e2, e3]
end K48
set_option Elab.async false
set_option linter.all false
set_option maxRecDepth 100000
set_option maxHeartbeats 1600000
namespace K48
open PySem (PyData Str)
open Iv
structure LawCf (cf : CallFn) : Prop where
  js : ∀ a ∈ kinds5, ∀ b ∈ kinds5, cf (.fn "_law_joins") [.imm (.str a), .imm (.str b)] = some (.ret (.imm (.str (joinK a b))) [none, none])
  jk : ∀ a ∈ kinds5, ∀ b ∈ kinds5, cf (.fn "joined_kind") [.imm (.str a), .imm (.str b)] = some (.ret (.imm (.str (joinK a b))) [none, none])
  md : ∀ k b o : Str, cf (.fn "_law_made") [.imm (.str k), .imm (.str b), .imm (.str o)] = some (.ret (.imm (madeS k b o).d) [none, none, none])
  ka : ∀ {kd : Kd} {ps : List PD}, Prg kd ps → cf (.fn "kinds_at") [.imm (progD kd (dsD ps))] = some (.ret (.imm (.tuple (rwL ps kd ([], [])).1)) [none])
  wd : ∀ a b : D, isK a = false ∨ isK b = false → cf (.fn "_law_word") [.thk [.tuple [a, b]] 18 [17] LAM] = some (.ret (.imm (.str "question")) [none])
  dr : Draws cf
def kD : List D := kinds5.map PyData.str
def oddL : List D := [.none, .str "", .str "Plain", .str "cell", .int 5, .bool true, .list [.str "row"], .tuple [.str "row"], .str "any ", .str "rows", .dict [], .str "fir", .int 0, .str "word"]
theorem odd_no : ∀ d ∈ oddL, isK d = false := by
  intro d hd
  simp only [oddL, List.mem_cons, List.not_mem_nil, or_false] at hd
  rcases hd with rfl | rfl | rfl | rfl | rfl | rfl | rfl | rfl | rfl | rfl | rfl | rfl | rfl | rfl <;> first | rfl | decide +kernel
section
variable {t o b : Str} (F : Three t o b) (cf : CallFn) (C : LawCf cf)
include F C
theorem turn2 {one two : Str} (h1 : one ∈ kinds5) (h2 : two ∈ kinds5) (x0 x1 x2 x3 x4 x5 x11 x12 x13 x14 x15 x16 x17 : Option M) :
    ∃ y14 y15 y16, execs ld.sg cf [] 1000 TB [x0, x1, x2, x3, x4, x5, some (.imm (.str one)), some (.imm (.str t)), some (.imm (.str o)), some (.imm (.str b)), some (.imm (.str two)), x11, x12, x13, x14, x15, x16, x17] = some (.nx [x0, x1, x2, x3, x4, x5, some (.imm (.str one)), some (.imm (.str t)), some (.imm (.str o)), some (.imm (.str b)), some (.imm (.str two)), x11, x12, x13, y14, y15, y16, x17]) := by
  have P := prgOk F h1 h2
  have ka := C.ka P
  have k2 := C.jk two h2 one h1
  rw [joinK_comm] at k2
  refine b_two cf one two t o b (joinK one two) _ _ _ _ (sortD (itD (kd0 t o ++ [(b, joinK one two)]))) x0 x1 x2 x3 x4 x5 x11 x12 x13 x14 x15 x16 x17 (C.js one h1 two h2) (C.jk one h1 two h2) k2 (C.md one b o) (C.md two b o) ?_ (row3 F h1 h2) (pr_sortL (zs := itD (kd0 t o ++ [(b, joinK one two)])) (sortOk_it _)) ?_
  · have e : progD (kd0 t o) (dsD (prg t o b one two)) = .tuple [.tuple [.tuple [.str t, .str "plain"], .tuple [.str o, .str "any"]], .tuple [.tuple [.str "if", .str t, .tuple [(madeS one b o).d], .tuple [(madeS two b o).d]], .tuple [.str "tell", .str b]]] := by
      simp [progD, prg, dsD, PD.d, itD, kd0, SD.d]
    rw [← e]
    exact ka
  · refine eqD_self (shaped_tk _ fun p hp => ?_)
    simp only [kd0, List.cons_append, List.nil_append, List.mem_cons, List.not_mem_nil, or_false] at hp
    rcases hp with rfl | rfl | rfl
    · exact ⟨F.bt.ok, okT _⟩
    · exact ⟨F.bo.ok, okT _⟩
    · exact ⟨F.bb.ok, joinK_ok h1⟩
theorem loop2 {one : Str} (h1 : one ∈ kinds5) (x0 x1 x2 x3 x4 x5 x10 x11 x12 x13 x14 x15 x16 x17 : Option M) :
    ∃ y10 y14 y15 y16, forL (execs ld.sg cf [] 1000 TB) [10] true kD [x0, x1, x2, x3, x4, x5, some (.imm (.str one)), some (.imm (.str t)), some (.imm (.str o)), some (.imm (.str b)), x10, x11, x12, x13, x14, x15, x16, x17] = some (.nx [x0, x1, x2, x3, x4, x5, some (.imm (.str one)), some (.imm (.str t)), some (.imm (.str o)), some (.imm (.str b)), y10, x11, x12, x13, y14, y15, y16, x17]) := by
  obtain ⟨ρ', e, y10, y14, y15, y16, rfl⟩ := for_st (S := Unit) (fun _ _ ρ => ∃ y10 y14 y15 y16, ρ = [x0, x1, x2, x3, x4, x5, some (.imm (.str one)), some (.imm (.str t)), some (.imm (.str o)), some (.imm (.str b)), y10, x11, x12, x13, y14, y15, y16, x17]) (fun _ _ => ()) (b := execs ld.sg cf [] 1000 TB) (tg := [10]) (one := true) kD 0 () _ ⟨x10, x14, x15, x16, rfl⟩ fun j _ ρ d _ hj hr => by
    obtain ⟨y10, y14, y15, y16, rfl⟩ := hr
    obtain ⟨two, h2, rfl⟩ := List.mem_map.mp (List.mem_of_getElem? hj)
    obtain ⟨z14, z15, z16, e⟩ := turn2 F cf C h1 h2 x0 x1 x2 x3 x4 x5 x11 x12 x13 y14 y15 y16 x17
    exact ⟨_, _, bt_one _ _ _, .inl e, _, _, _, _, rfl⟩
  exact ⟨y10, y14, y15, y16, e⟩
omit F in
theorem loopN {one : D} (ds : List D) (hd : ∀ d ∈ ds, isK d = false) (x0 x1 x2 x3 x4 x5 x7 x8 x9 x10 x11 x12 x13 x14 x15 x16 x17 : Option M) :
    ∃ y11 y17, forL (execs ld.sg cf [] 1000 [(.fo [17] true (.val (.tup [(.tup [(.var 6), (.var 11)]), (.tup [(.var 11), (.var 6)]), (.tup [(.var 11), (.var 11)])])) PB)]) [11] true ds [x0, x1, x2, x3, x4, x5, some (.imm one), x7, x8, x9, x10, x11, x12, x13, x14, x15, x16, x17] = some (.nx [x0, x1, x2, x3, x4, x5, some (.imm one), x7, x8, x9, x10, y11, x12, x13, x14, x15, x16, y17]) := by
  obtain ⟨ρ', e, y11, y17, rfl⟩ := for_st (S := Unit) (fun _ _ ρ => ∃ y11 y17, ρ = [x0, x1, x2, x3, x4, x5, some (.imm one), x7, x8, x9, x10, y11, x12, x13, x14, x15, x16, y17]) (fun _ _ => ()) (b := execs ld.sg cf [] 1000 [(.fo [17] true (.val (.tup [(.tup [(.var 6), (.var 11)]), (.tup [(.var 11), (.var 6)]), (.tup [(.var 11), (.var 11)])])) PB)]) (tg := [11]) (one := true) ds 0 () _ ⟨x11, x17, rfl⟩ fun j _ ρ d _ hj hr => by
    obtain ⟨y11, y17, rfl⟩ := hr
    have hn := hd d (List.mem_of_getElem? hj)
    obtain ⟨z17, e⟩ := b_none cf one d x0 x1 x2 x3 x4 x5 x7 x8 x9 x10 x12 x13 x14 x15 x16 y17 (C.wd _ _ (.inr hn)) (C.wd _ _ (.inl hn)) (C.wd _ _ (.inl hn))
    exact ⟨_, _, bt_one _ _ _, .inl e, _, _, rfl⟩
  exact ⟨y11, y17, e⟩
end
abbrev NX : Ex := .lst [(.cst (.str "")), (.sub (.var 5) (.cal "_law_next" [(.var 1), (.prm .len [(.var 5)])])), (.sub (.var 5) (.cal "_law_next" [(.var 1), (.prm .len [(.var 5)])]))]
theorem b_ob (cf : CallFn) (T N : List Sm) (ks odd : List D) (d d1 d2 : List (D × D)) (v1 v2 : Int) (z1 z2 : D) (o6 : D) (x0 x2 x3 x7 x8 x9 x10 x11 x12 x13 x14 x15 x16 x17 y10 y11 y14 y15 y16 y17 : Option M)
    (e1 : forL (execs ld.sg cf [] 1000 T) [10] true ks [x0, some (.dic d), x2, x3, some (.imm (.list ks)), some (.lst odd), some (.imm o6), x7, x8, x9, x10, x11, x12, x13, x14, x15, x16, x17] = some (.nx [x0, some (.dic d), x2, x3, some (.imm (.list ks)), some (.lst odd), some (.imm o6), x7, x8, x9, y10, x11, x12, x13, y14, y15, y16, x17]))
    (n1 : cf (.fn "_law_next") [.dic d, .imm (.int odd.length)] = some (.ret (.imm (.int v1)) [some (.dic d1), none])) (n2 : cf (.fn "_law_next") [.dic d1, .imm (.int odd.length)] = some (.ret (.imm (.int v2)) [some (.dic d2), none])) (a1 : L2.atI odd v1 = some z1) (a2 : L2.atI odd v2 = some z2)
    (e2 : forL (execs ld.sg cf [] 1000 N) [11] true [.str "", z1, z2] [x0, some (.dic d2), x2, x3, some (.imm (.list ks)), some (.lst odd), some (.imm o6), x7, x8, x9, y10, x11, x12, x13, y14, y15, y16, x17] = some (.nx [x0, some (.dic d2), x2, x3, some (.imm (.list ks)), some (.lst odd), some (.imm o6), x7, x8, x9, y10, y11, x12, x13, y14, y15, y16, y17])) :
    execs ld.sg cf [] 1000 [(.fo [10] true (.val (.var 4)) T), (.fo [11] true (.val NX) N)] [x0, some (.dic d), x2, x3, some (.imm (.list ks)), some (.lst odd), some (.imm o6), x7, x8, x9, x10, x11, x12, x13, x14, x15, x16, x17] = some (.nx [x0, some (.dic d2), x2, x3, some (.imm (.list ks)), some (.lst odd), some (.imm o6), x7, x8, x9, y10, y11, x12, x13, y14, y15, y16, y17]) := by
  simp [e1, n1, n2, a1, a2, e2]
abbrev OB : List Sm := [(.fo [10] true (.val (.var 4)) TB), (.fo [11] true (.val NX) [(.fo [17] true (.val (.tup [(.tup [(.var 6), (.var 11)]), (.tup [(.var 11), (.var 6)]), (.tup [(.var 11), (.var 11)])])) PB)])]
theorem odd_at {v : Int} (h0 : 0 ≤ v) (h1 : v < 14) : ∃ z, L2.atI oddL v = some z ∧ isK z = false := by
  have hl : v.toNat < oddL.length := by simp [oddL]; omega
  refine ⟨oddL[v.toNat], ?_, odd_no _ (List.getElem_mem _)⟩
  have := atN (List.getElem?_eq_getElem hl)
  rw [show ((v.toNat : Nat) : Int) = v by omega] at this
  exact this
theorem outerTurn {t o b : Str} (F : Three t o b) (cf : CallFn) (C : LawCf cf) {one : Str} (h1 : one ∈ kinds5) (s : St) (h0 : 0 < s.xs.length) (hs : s.at_ < 2 ^ 38) (x0 x2 x3 x10 x11 x12 x13 x14 x15 x16 x17 : Option M) :
    ∃ (s' : St) (y10 y11 y14 y15 y16 y17 : Option M), execs ld.sg cf [] 1000 OB [x0, some (.dic s.d), x2, x3, some (.imm (.list kD)), some (.lst oddL), some (.imm (.str one)), some (.imm (.str t)), some (.imm (.str o)), some (.imm (.str b)), x10, x11, x12, x13, x14, x15, x16, x17] = some (.nx [x0, some (.dic s'.d), x2, x3, some (.imm (.list kD)), some (.lst oddL), some (.imm (.str one)), some (.imm (.str t)), some (.imm (.str o)), some (.imm (.str b)), y10, y11, x12, x13, y14, y15, y16, y17]) ∧ 0 < s'.xs.length ∧ s'.at_ ≤ s.at_ + 2 := by
  obtain ⟨y10, y14, y15, y16, e1⟩ := loop2 F cf C h1 x0 (some (.dic s.d)) x2 x3 (some (.imm (.list kD))) (some (.lst oddL)) x10 x11 x12 x13 x14 x15 x16 x17
  obtain ⟨v1, s1, n1, p1, p2, q1, r1⟩ := C.dr s 14 h0 (by decide) (by decide) (by omega)
  obtain ⟨v2, s2, n2, p3, p4, q2, r2⟩ := C.dr s1 14 q1 (by decide) (by decide) (by omega)
  obtain ⟨z1, a1, i1⟩ := odd_at p1 p2
  obtain ⟨z2, a2, i2⟩ := odd_at p3 p4
  obtain ⟨y11, y17, e2⟩ := loopN cf C (one := .str one) [.str "", z1, z2] (by
    intro d hd
    simp only [List.mem_cons, List.not_mem_nil, or_false] at hd
    rcases hd with rfl | rfl | rfl
    · decide +kernel
    · exact i1
    · exact i2) x0 (some (.dic s2.d)) x2 x3 (some (.imm (.list kD))) (some (.lst oddL)) (some (.imm (.str t))) (some (.imm (.str o))) (some (.imm (.str b))) y10 x11 x12 x13 y14 y15 y16 x17
  have ol : (oddL.length : Int) = 14 := rfl
  exact ⟨s2, y10, y11, y14, y15, y16, y17, b_ob cf TB _ kD oddL s.d s1.d s2.d v1 v2 z1 z2 (.str one) x0 x2 x3 _ _ _ x10 x11 x12 x13 x14 x15 x16 x17 y10 y11 y14 y15 y16 y17 e1 (by rw [ol]; exact n1) (by rw [ol]; exact n2) a1 a2 e2, q2, by omega⟩
theorem outer {t o b : Str} (F : Three t o b) (cf : CallFn) (C : LawCf cf) (s : St) (h0 : 0 < s.xs.length) (hs : s.at_ < 2 ^ 37) (x0 x2 x3 : Option M) :
    ∃ ρ', forL (execs ld.sg cf [] 1000 OB) [6] true kD [x0, some (.dic s.d), x2, x3, some (.imm (.list kD)), some (.lst oddL), none, some (.imm (.str t)), some (.imm (.str o)), some (.imm (.str b)), none, none, none, none, none, none, none, none] = some (.nx ρ') := by
  obtain ⟨ρ', e, _⟩ := for_st (S := Unit) (fun j _ ρ => ∃ (s' : St) (y6 y10 y11 y14 y15 y16 y17 : Option M), 0 < s'.xs.length ∧ s'.at_ ≤ s.at_ + 2 * j ∧ j ≤ 5 ∧ ρ = [x0, some (.dic s'.d), x2, x3, some (.imm (.list kD)), some (.lst oddL), y6, some (.imm (.str t)), some (.imm (.str o)), some (.imm (.str b)), y10, y11, none, none, y14, y15, y16, y17]) (fun _ _ => ()) (b := execs ld.sg cf [] 1000 OB) (tg := [6]) (one := true) kD 0 () _ ⟨s, none, none, none, none, none, none, none, h0, by omega, by omega, rfl⟩ fun j _ ρ d _ hj hr => by
    obtain ⟨s1, y6, y10, y11, y14, y15, y16, y17, g0, g1, g2, rfl⟩ := hr
    have hj5 : j < 5 := by
      have := (List.getElem?_eq_some_iff.mp hj).1
      simpa [kD, kinds5] using this
    obtain ⟨one, h1, rfl⟩ := List.mem_map.mp (List.mem_of_getElem? hj)
    obtain ⟨s2, z10, z11, z14, z15, z16, z17, e, k0, k1⟩ := outerTurn F cf C h1 s1 g0 (by omega) x0 x2 x3 y10 y11 none none y14 y15 y16 y17
    exact ⟨_, _, bt_one _ _ _, .inl e, s2, _, z10, z11, z14, z15, z16, z17, k0, by omega, by omega, rfl⟩
  exact ⟨ρ', e⟩
end K48
set_option Elab.async false
set_option linter.all false
set_option maxRecDepth 100000
set_option maxHeartbeats 1600000
namespace K48
open PySem (PyData Str)
open Iv
def ro (x0 : Option M) (s : St) (x2 x3 x13 : Option M) : Rho := [x0, some (.dic s.d), x2, x3, none, none, none, none, none, none, none, none, none, x13, none, none, none, none]
abbrev NE : Ex := .bin .add (.var 13) (.cal "_law_letters" [(.var 1), (.cal "_law_next" [(.var 1), (.cst (.int 6))])])
theorem nm_ev (cf : CallFn) (x0 x2 x3 : Option M) (d d1 d2 : List (D × D)) (a b : Str) (v : Int) (hl : a.length + b.length ≤ line) (e1 : cf (.fn "_law_next") [.dic d, .imm (.int 6)] = some (.ret (.imm (.int v)) [some (.dic d1), none])) (e2 : cf (.fn "_law_letters") [.dic d1, .imm (.int v)] = some (.ret (.imm (.str b)) [some (.dic d2), none])) :
    eval ld.sg cf NE [x0, some (.dic d), x2, x3, none, none, none, none, none, none, none, none, none, some (.imm (.str a)), none, none, none, none] = some (.ok (.imm (.str (a ++ b))) [x0, some (.dic d2), x2, x3, none, none, none, none, none, none, none, none, none, some (.imm (.str a)), none, none, none, none]) := by
  simp [e1, e2, hl]
theorem nm_ex (cf : CallFn) (x0 x2 x3 : Option M) (hd : Draws cf) (hL : Letters cf) : ∀ (cs : List Nat) (acc : List D) (s : St), (∀ c ∈ cs, OkC c) → 0 < s.xs.length → s.at_ + 7 * cs.length < 2 ^ 36 → acc.length + cs.length < 100 →
    ∃ (ns : List (List Nat)) (s' : St), lcpL (tests ld.sg cf []) (eval ld.sg cf NE) [13] true (cs.map fun c => PyData.str (nS [c])) acc (ro x0 s x2 x3 none) = some (acc ++ ns.map (fun n => PyData.str (nS n)), ro x0 s' x2 x3 none) ∧ ns.map (·.head?) = cs.map some ∧ (∀ n ∈ ns, OkN n) ∧ 0 < s'.xs.length ∧ s'.at_ ≤ s.at_ + 7 * cs.length
  | [], acc, s, _, h0, _, _ => ⟨[], s, by simp, rfl, by simp, h0, by simp⟩
  | c :: cs, acc, s, hc, h0, hs, hl => by
    simp only [List.length_cons] at hs hl
    obtain ⟨v, s1, e1, v0, v1, h1, a1⟩ := hd s 6 h0 (by decide) (by decide) (by omega)
    obtain ⟨ls, s2, e2, l2, ok2, h2, a2⟩ := hL s1 v.toNat h1 (by omega) (by omega)
    rw [show ((v.toNat : Nat) : Int) = v by omega] at e2
    obtain ⟨ns, s3, e3, hh, ok3, h3, a3⟩ := nm_ex cf x0 x2 x3 hd hL cs (acc ++ [.str (nS (c :: ls))]) s2 (fun c h => hc c (List.mem_cons_of_mem _ h)) h2 (by omega) (by simp; omega)
    refine ⟨(c :: ls) :: ns, s3, ?_, by simp [hh], fun n hn => ?_, h3, by simp only [List.length_cons]; omega⟩
    · have ev := nm_ev cf x0 x2 x3 s.d s1.d s2.d (nS [c]) (nS ls) v (by rw [nS_len, nS_len]; simp [line]; omega) e1 e2
      rw [app_nS] at ev
      rw [List.map_cons, lcpL, bt_one]
      have ep : putS (ro x0 s x2 x3 none) 13 (.imm (.str (nS [c]))) = [x0, some (.dic s.d), x2, x3, none, none, none, none, none, none, none, none, none, some (.imm (.str (nS [c]))), none, none, none, none] := rfl
      have ew : wipe [x0, some (.dic s2.d), x2, x3, none, none, none, none, none, none, none, none, none, some (.imm (.str (nS [c]))), none, none, none, none] [13] = ro x0 s2 x2 x3 none := rfl
      simp only [ep, tsts_nil, ev, vw_imm]
      rw [if_pos (by unfold line; omega), ew]
      have ea : [c] ++ ls = c :: ls := rfl
      rw [ea, e3]
      simp
    · rcases List.mem_cons.mp hn with rfl | hn
      · refine ⟨by simp, by simp; omega, fun d hd => ?_⟩
        rcases List.mem_cons.mp hd with rfl | hd
        · exact hc _ List.mem_cons_self
        · exact ok2 d hd
      · exact ok3 n hn
abbrev LE : Ex := .sub (.cst (.str LET)) (.bin .mod (.bin .add (.var 2) (.bin .mul (.cst (.int 9)) (.var 12))) (.cst (.int 26)))
def cAt (f : Int) (k : Nat) : Nat := 97 + ((f + 9 * (k : Int)) % 26).toNat
theorem cAt_ok (f : Int) (k : Nat) : OkC (cAt f k) := by
  unfold OkC cAt
  have h1 : 0 ≤ (f + 9 * (k : Int)) % 26 := Int.emod_nonneg _ (by decide)
  have h2 : (f + 9 * (k : Int)) % 26 < 26 := Int.emod_lt_of_pos _ (by decide)
  omega
theorem cAt_ne (f : Int) {i j : Nat} (hi : i < 3) (hj : j < 3) (h : i ≠ j) : cAt f i ≠ cAt f j := by
  unfold cAt
  have h1 : 0 ≤ (f + 9 * (i : Int)) % 26 := Int.emod_nonneg _ (by decide)
  have h2 : 0 ≤ (f + 9 * (j : Int)) % 26 := Int.emod_nonneg _ (by decide)
  omega
def r2 (x0 : Option M) (d : List (D × D)) (f : D) (x3 x12 : Option M) : Rho := [x0, some (.dic d), some (.imm f), x3, none, none, none, none, none, none, none, none, x12, none, none, none, none, none]
theorem le_ev (cf : CallFn) (x0 x3 : Option M) (d : List (D × D)) (f k : Int) (z : D) (h : subD (.str LET) (.int ((f + 9 * k) % 26)) = some z) : eval ld.sg cf LE (r2 x0 d (.int f) x3 (some (.imm (.int k)))) = some (.ok (.imm z) (r2 x0 d (.int f) x3 (some (.imm (.int k))))) := by
  have s5 : small 9 = true := by decide
  unfold r2
  unfold LE
  generalize LET = L at h ⊢
  simp [-su_s, h, s5]
theorem rng4 : rngL 0 3 = [.int 0, .int 1, .int 2] := rfl
theorem lets_ev (cf : CallFn) (x0 : Option M) (d : List (D × D)) (f : Int) : eval ld.sg cf (.lcp LE [12] true (.rng (.cst (.int 3))) []) (r2 x0 d (.int f) none none) = some (.ok (.lst ([cAt f 0, cAt f 1, cAt f 2].map fun c => PyData.str (nS [c]))) (r2 x0 d (.int f) none none)) := by
  have lc := lcp_pure (fun _ => true) (fun e => match e with | .int k => PyData.str (nS [97 + ((f + 9 * k) % 26).toNat]) | e => e) (test := tests ld.sg cf []) (elt := eval ld.sg cf LE) (tg := [12]) (one := true) (ρ := r2 x0 d (.int f) none none) [.int 0, .int 1, .int 2] [] (by simp [line]) fun e he => by
    have hk : ∃ k : Int, e = .int k := by
      simp only [List.mem_cons, List.not_mem_nil, or_false] at he
      rcases he with rfl | rfl | rfl <;> exact ⟨_, rfl⟩
    obtain ⟨k, rfl⟩ := hk
    have h1 : 0 ≤ (f + 9 * k) % 26 := Int.emod_nonneg _ (by decide)
    have h2 : (f + 9 * k) % 26 < 26 := Int.emod_lt_of_pos _ (by decide)
    exact ⟨_, _, bt_one _ _ _, tsts_nil _ _ _, rfl, fun _ => ⟨_, _, le_ev cf x0 none d f k _ (let_at' h1 h2), rfl, rfl⟩⟩
  rw [filt, List.nil_append] at lc
  have it : iter ld.sg cf (.rng (.cst (.int 3))) (r2 x0 d (.int f) none none) = some (.ok [.int 0, .int 1, .int 2] (r2 x0 d (.int f) none none)) := by
    rw [it_rng, ev_cst, obk, int_int, ob_some, if_pos (by decide), rng4]
  have ew : wipe (r2 x0 d (.int f) none none) [12] = r2 x0 d (.int f) none none := rfl
  have eb : back (r2 x0 d (.int f) none none) (r2 x0 d (.int f) none none) [12] = r2 x0 d (.int f) none none := rfl
  rw [ev_lcp, it, obk, ew, lc, om_some, eb]
  rfl
/-- three names -/
theorem names3 (cf : CallFn) (x0 : Option M) (hd : Draws cf) (hL : Letters cf) (s : St) (f : Int) (h0 : 0 < s.xs.length) (hs : s.at_ < 100) :
    ∃ (x y p : Str) (s' : St), Three x y p ∧ eval ld.sg cf (.lcp NE [13] true (.val (.var 3)) []) (r2 x0 s.d (.int f) (some (.lst ([cAt f 0, cAt f 1, cAt f 2].map fun c => PyData.str (nS [c])))) none) = some (.ok (.lst [.str x, .str y, .str p]) (r2 x0 s'.d (.int f) (some (.imm (.list ([cAt f 0, cAt f 1, cAt f 2].map fun c => PyData.str (nS [c]))))) none)) ∧ 0 < s'.xs.length ∧ s'.at_ ≤ 200 := by
  obtain ⟨ns, s', e, hh, ok, h0', a⟩ := nm_ex cf x0 (some (.imm (.int f))) (some (.imm (.list ([cAt f 0, cAt f 1, cAt f 2].map fun c => PyData.str (nS [c]))))) hd hL [cAt f 0, cAt f 1, cAt f 2] [] s (fun c hc => by
    simp only [List.mem_cons, List.not_mem_nil, or_false] at hc
    rcases hc with rfl | rfl | rfl <;> exact cAt_ok _ _) h0 (by simp; omega) (by simp)
  have hl4 : ns.length = 3 := by
    have := congrArg List.length hh
    simpa using this
  match ns, hl4 with
  | [a1, a2, a3], _ =>
    simp only [List.map_cons, List.map_nil, List.cons.injEq, and_true] at hh
    obtain ⟨g1, g2, g3⟩ := hh
    have ne : ∀ {a b : List Nat} {i j : Nat}, a.head? = some (cAt f i) → b.head? = some (cAt f j) → i < 3 → j < 3 → i ≠ j → nS a ≠ nS b := fun {a b i j} ha hb hi hj hij e => by
      rw [nS_inj] at e
      rw [e, hb] at ha
      exact cAt_ne f hj hi hij.symm (Option.some.inj ha)
    refine ⟨nS a1, nS a2, nS a3, s', ⟨⟨a1, ok _ (by simp), rfl⟩, ⟨a2, ok _ (by simp), rfl⟩, ⟨a3, ok _ (by simp), rfl⟩, ne g1 g2 (by decide) (by decide) (by decide), ne g1 g3 (by decide) (by decide) (by decide), ne g2 g3 (by decide) (by decide) (by decide)⟩, ?_, h0', by simp at a; omega⟩
    have ew : ∀ (s : St) (x3 : M), wipe (r2 x0 s.d (.int f) (some x3) none) [13] = ro x0 s (some (.imm (.int f))) (some x3) none := fun _ _ => rfl
    have eb : ∀ (s s' : St) (x3 : M), back (r2 x0 s.d (.int f) (some x3) none) (ro x0 s' (some (.imm (.int f))) (some x3) none) [13] = r2 x0 s'.d (.int f) (some x3) none := fun _ _ _ => rfl
    generalize hz : ([cAt f 0, cAt f 1, cAt f 2].map fun c => PyData.str (nS [c])) = zs at e ⊢
    have it : iter ld.sg cf (.val (.var 3)) (r2 x0 s.d (.int f) (some (.lst zs)) none) = some (.ok zs (r2 x0 s.d (.int f) (some (.imm (.list zs))) none)) := by
      unfold r2
      simp
    rw [ev_lcp, it, obk, ew, e, om_some, eb]
    simp
theorem u_ev (cf : CallFn) (EE : Ex) (r : List Sm) (x0 : Option M) (d d2 : List (D × D)) (f : D) (y3 y3' : Option M) (x y p : D) (h : eval ld.sg cf EE (r2 x0 d f y3 none) = some (.ok (.lst [x, y, p]) (r2 x0 d2 f y3' none))) :
    execs ld.sg cf [] 1000 (.unp [7, 8, 9] EE :: r) (r2 x0 d f y3 none) = execs ld.sg cf [] 1000 r [x0, some (.dic d2), some (.imm f), y3', none, none, none, some (.imm x), some (.imm y), some (.imm p), none, none, none, none, none, none, none, none] := by
  have hb : bindT [7, 8, 9] false (.list [x, y, p]) (r2 x0 d2 f y3' none) = some [x0, some (.dic d2), some (.imm f), y3', none, none, none, some (.imm x), some (.imm y), some (.imm p), none, none, none, none, none, none, none, none] := rfl
  rw [exs_cons, ex_unp]
  simp [h, hb]
theorem a_ev (cf : CallFn) (EE : Ex) (r : List Sm) (x0 : Option M) (d : List (D × D)) (f : D) (m : M) (h : eval ld.sg cf EE (r2 x0 d f none none) = some (.ok m (r2 x0 d f none none))) :
    execs ld.sg cf [] 1000 (.asg 3 EE :: r) (r2 x0 d f none none) = execs ld.sg cf [] 1000 r (r2 x0 d f (some m) none) := by
  have hp : putS (r2 x0 d f none none) 3 m = r2 x0 d f (some m) none := rfl
  rw [exs_cons, ex_asg]
  simp [h, hp]
theorem h_ev (cf : CallFn) (r : List Sm) (xs : List D) (d d1 : List (D × D)) (f : Int) (e0 : cf (.fn "_law_begin") [.imm (.list xs)] = some (.ret (.dic d) [none])) (e1 : cf (.fn "_law_next") [.dic d, .imm (.int 26)] = some (.ret (.imm (.int f)) [some (.dic d1), none])) :
    execs ld.sg cf [] 1000 ((.asg 1 (.cal "_law_begin" [(.var 0)])) :: (.asg 2 (.cal "_law_next" [(.var 1), (.cst (.int 26))])) :: r) [some (.imm (.list xs)), none, none, none, none, none, none, none, none, none, none, none, none, none, none, none, none, none] = execs ld.sg cf [] 1000 r (r2 (some (.imm (.list xs))) d1 (.int f) none none) := by
  unfold r2
  simp [e0, e1]
abbrev K4 : Sm := .asg 4 (.lst [(.cst (.str "plain")), (.cst (.str "firm")), (.cst (.str "row")), (.cst (.str "shelf")), (.cst (.str "any"))])
abbrev K5 : Sm := .asg 5 (.lst [(.cst .none), (.cst (.str "")), (.cst (.str "Plain")), (.cst (.str "cell")), (.cst (.int 5)), (.cst (.bool true)), (.lst [(.cst (.str "row"))]), (.tup [(.cst (.str "row"))]), (.cst (.str "any ")), (.cst (.str "rows")), (.dct []), (.cst (.str "fir")), (.cst (.int 0)), (.cst (.str "word"))])
theorem w_ev (cf : CallFn) (x0 x1 x2 x3 : Option M) (t o b : D) (r : List Sm) :
    execs ld.sg cf [] 1000 (K4 :: K5 :: r) [x0, x1, x2, x3, none, none, none, some (.imm t), some (.imm o), some (.imm b), none, none, none, none, none, none, none, none] = execs ld.sg cf [] 1000 r [x0, x1, x2, x3, some (.lst kD), some (.lst oddL), none, some (.imm t), some (.imm o), some (.imm b), none, none, none, none, none, none, none, none] := by
  simp [kD, kinds5, oddL, mkDict, pairUp]
theorem o_ev (cf : CallFn) (B : List Sm) (ks : List D) (x0 x1 x2 x3 x5 t o b : Option M) (ρ' : Rho) (h : forL (execs ld.sg cf [] 1000 B) [6] true ks [x0, x1, x2, x3, some (.imm (.list ks)), x5, none, t, o, b, none, none, none, none, none, none, none, none] = some (.nx ρ')) :
    execs ld.sg cf [] 1000 [.fo [6] true (.val (.var 4)) B, .ret (.cst (.bool true))] [x0, x1, x2, x3, some (.lst ks), x5, none, t, o, b, none, none, none, none, none, none, none, none] = some (.rt (.imm (.bool true)) ρ') := by
  simp [h]
theorem bb_law (cf : CallFn) (C : LawCf cf) (hL : Letters cf) (ns : List Int) (s : St) (e0 : cf (.fn "_law_begin") [.imm (.list (ns.map PyData.int))] = some (.ret (.dic s.d) [none])) (h0 : 0 < s.xs.length) (hs : s.at_ = 0) :
    callF ld.sg cf 1000 [] c_law [.imm (.list (ns.map PyData.int))] = some (.ret (.imm (.bool true)) [none]) := by
  obtain ⟨f, s1, e1, v0, v1, h1, a1⟩ := C.dr s 26 h0 (by decide) (by decide) (by omega)
  have le := lets_ev cf (some (.imm (.list (ns.map PyData.int)))) s1.d f
  obtain ⟨x, y, p, s2, F, ne, h2, a2⟩ := names3 cf (some (.imm (.list (ns.map PyData.int)))) C.dr hL s1 f h1 (by omega)
  obtain ⟨ρ', oe⟩ := outer F cf C s2 h2 (by omega) (some (.imm (.list (ns.map PyData.int)))) (some (.imm (.int f))) (some (.imm (.list ([cAt f 0, cAt f 1, cAt f 2].map fun c => PyData.str (nS [c])))))
  have ex : execs ld.sg cf [] 1000 c_law.body [some (.imm (.list (ns.map PyData.int))), none, none, none, none, none, none, none, none, none, none, none, none, none, none, none, none, none] = some (.rt (.imm (.bool true)) ρ') := by
    have hc : c_law.body = (.asg 1 (.cal "_law_begin" [(.var 0)])) :: (.asg 2 (.cal "_law_next" [(.var 1), (.cst (.int 26))])) :: (.asg 3 (.lcp LE [12] true (.rng (.cst (.int 3))) [])) :: (.unp [7, 8, 9] (.lcp NE [13] true (.val (.var 3)) [])) :: K4 :: K5 :: [.fo [6] true (.val (.var 4)) OB, .ret (.cst (.bool true))] := rfl
    rw [hc, h_ev cf _ _ _ _ _ e0 e1, a_ev cf _ _ _ _ _ _ le, u_ev cf _ _ _ _ _ _ _ _ _ _ _ ne, w_ev, o_ev cf _ _ _ _ _ _ _ _ _ _ _ oe]
  have hn : c_law.n = 18 := rfl
  have hp : c_law.ps = 1 := rfl
  unfold callF
  rw [hn, hp, if_pos ⟨rfl, by decide⟩]
  have er : ([M.imm (.list (ns.map PyData.int))].map some ++ List.replicate (18 - 1) none) = [some (.imm (.list (ns.map PyData.int))), none, none, none, none, none, none, none, none, none, none, none, none, none, none, none, none, none] := rfl
  rw [er, ex]
  rfl
theorem lawCf (k : Nat) : LawCf (cn (k + 10)) := ⟨fun a ha b hb => by rw [cn_of t__law_joins]; exact bb_joins _ a ha b hb, fun a ha b hb => cn_joined_kind (k + 8) (kind_ok a ha).1 (kind_ok b hb).1, fun x y p => by rw [cn_of t__law_made]; exact bb_made _ x y p, fun P => cn_kinds_at k P, fun a b h => cn_word (k + 6) a b h, draws (k + 8)⟩
theorem answer (ns : List Int) (hl : ns.length ≤ 63) : ∃ ps, callN ld.sg tab 1000 (9 + 3) (.fn "law") [.imm (.list (ns.map PyData.int))] = some (.ret (.imm (.bool true)) ps) := by
  refine ⟨[none], ?_⟩
  show cn 12 (.fn "law") [.imm (.list (ns.map PyData.int))] = _
  obtain ⟨s, e0, h0, hs⟩ := cn_begin 10 ns (by omega)
  rw [cn_of t_law]
  exact bb_law (cn 11) (lawCf 1) (letters 8) ns s e0 h0 hs
end K48
set_option Elab.async false
set_option linter.all false
set_option maxRecDepth 100000
set_option maxHeartbeats 0
open PySem PySem.W PySem.Calls PyProof.Rows
theorem PySem.Challenge.cw_likehall_k48_kinds_joined_holds : PySem.Challenge.rw_likehall_k48_kinds_joined.Holds := by
  w_on; o_law
  refine HandSHeadRun.head_any (r := OpenLaw.row PySem.Challenge.rw_likehall_k48_kinds_joined) (q := view (OpenLaw.row PySem.Challenge.rw_likehall_k48_kinds_joined).prog [61]) (H := K48.hk) (ob := K48.ob) (M := 9000) (loose := K48.loose) (d := HandSHeadRun.topDef (OpenLaw.row PySem.Challenge.rw_likehall_k48_kinds_joined).prog 61) (kwd := []) K48.ob_eq
    (by kernel_rfl) (fun s => by kernel_rfl) K48.run (by kernel_rfl) (by kernel_rfl) (by kernel_rfl) (by rfl) (by first | assumption | decide +kernel) (by decide +kernel) ⟨rfl, rfl, rfl, rfl, rfl, by decide +kernel⟩ ?hw ?hc
  case hw => w_witness2
  case hc => exact Iv.LD.holds (n := 63) (m := 9) (fc := 40) (fu := 1000) (law := "law") (x := "_law_script") K48.ld_ok K48.ents_ok K48.xis_ok K48.fl_nd rfl (by decide) (by kernel_rfl) ⟨rfl, by decide, by decide⟩ (by kernel_rfl) rfl rfl fun ns h => K48.answer ns h
