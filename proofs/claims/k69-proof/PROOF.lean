import PyProof.Rows.All
import Wide.All
import OpenK.AllK
import Wide.FinOn
import HandS.ForMost
import HandS.ForExc
import HandS.IsInst
import HandS.Style
import HandS.TupAny
import HandS.TupMul
import HandS.Wide
import HandS.Conv
import HandS.Rev
import HandS.Deep
import HandS.DictSubView0
import KE.KIndexOf
import PyProof.EqAt
import PySem.Challenge.RW_posigrid_k69_whole_odd_holes
set_option Elab.async false
set_option linter.all false
set_option maxRecDepth 100000
/-! PL0: tuples of which it is known that they have no dict of their own -/
namespace PL
open PySem PySem.Spec PyProof.Rows L2
def TOk (o : Obj) : Prop := o.cls = .type "tuple" ∧ o.dict = none
/-- a tuple, known with its object -/
def TupR (H : Hp) (a : Addr) (xs : List V) : Prop := ∃ o, H a = some (.frz o (.tup xs)) ∧ TOk o
/-- for every new tuple -/
def NT (H : Hp) (xs : List V) (Q : VK) : Prop := ∀ p o, H p = none → TOk o → Q (.ref p) (upd H p (.frz o (.tup xs)))
theorem TupR.sqT {K : PySem.W.Frag} {H : Hp} {a : Addr} {xs : List V} (h : TupR H a xs) : SqT K H a xs := by
  obtain ⟨o, h, _⟩ := h
  exact .inl (.inr ⟨o, h⟩)
theorem tupR_upd {H : Hp} {p : Addr} {o : Obj} {xs : List V} (t : TOk o) : TupR (upd H p (.frz o (.tup xs))) p xs := ⟨o, upd_same, t⟩
def tupO (vs : Array Value) : Obj := { cls := .type "tuple", data := .seq vs }
theorem tupO_ok (vs : Array Value) : TOk (tupO vs) := ⟨rfl, rfl⟩
/-- the heap with one more tuple -/
theorem Inv.tnew {X : Cx} {pins : List (Addr × Obj)} {σ : L2.St} {H : Hp} {s : Shared} {xs : List V} {us : List Value} {t' : Nat} (I : Inv X pins σ H s) (r : Vals xs us) (z : xs.length ≤ sizeLine) :
    Inv X pins σ (upd H s.heap.objs.size (.frz (tupO us.toArray) (.tup xs))) { s with heap := s.heap.push { cls := .type "tuple", data := .seq us.toArray }, toks := t' } :=
  I.laid (t' := t') (fun _ _ e => Heap.get?_push_of_some _ e) (Nat.le_refl _) ⟨Heap.get?_push_size _ rfl, z, us, r, IsTup.new _ _⟩
section
variable {X : Cx} {e : Expr} {es : List Expr} {te : TE} {t : TA} {pos : Pos}
def tTupN (t : TA) : TE := fun σ H Q => t σ H fun xs H1 => xs.length ≤ sizeLine ∧ NT H1 xs Q
theorem pe_tupN {x1} (h : PA X es t) : PE X (.Tuple es x1 pos) (tTupN t) := by
  refine ⟨fun pins s σ H Q I hq => ?_⟩
  refine wpAny_Tuple_spliced (thn (h.run pos pins s σ H _ I hq) fun us s1 ⟨xs, H1, I1, r, z, q⟩ => ⟨by rw [← r.length]; exact z, ?_⟩)
  have I2 := Inv.tnew (t' := s1.toks) I1 r z
  exact ⟨.ref s1.heap.objs.size, _, I2, rfl, q _ _ (I1.hok.fresh (Nat.le_refl _)) (tupO_ok _)⟩
/-- t[lo:hi] -/
def rSlN : V → Option Int → Option Int → Hp → VK → Prop := fun x lo hi H Q => ∃ a xs, x = .ref a ∧ TupR H a xs ∧
  (HT.sIx xs.length 0 lo = 0 ∧ HT.sIx xs.length xs.length hi = xs.length → Q (.ref a) H) ∧ (¬ (HT.sIx xs.length 0 lo = 0 ∧ HT.sIx xs.length xs.length hi = xs.length) → NT H (cutV xs lo hi) Q)
theorem sl_tupN : SlR X rSlN := by
  intro pins s σ H x v vl vu lo hi sl Q I rx hs pl pu h
  obtain ⟨a, xs, rfl, hx, q1, q2⟩ := h
  have hx := hx.sqT (K := X.K)
  cases rx
  obtain ⟨its, r, ht, hz⟩ := I.tuple hx
  have hlen : its.toArray.size = xs.length := by rw [List.size_toArray]; exact r.length.symm
  refine ⟨"tuple", _, PyProof.Rows.slot_tuple_getitem.lookup, ht.typeIs, ?_⟩
  by_cases hw : HT.sIx xs.length 0 lo = 0 ∧ HT.sIx xs.length xs.length hi = xs.length
  · exact getItem_tuple_whole ht hs pl pu (by rw [hlen]; exact hw) ⟨.ref a, H, I, rfl, q1 hw⟩
  · refine HT.getItem_tuple_cut ht hs pl pu (by rw [hlen]; exact hw) ?_ (by rw [hlen]; exact hz)
    rw [hlen]
    refine ⟨.ref s.heap.objs.size, _, Inv.tnew (t' := s.toks) I ((r.drop (HT.sIx xs.length 0 lo)).take (HT.sIx xs.length xs.length hi - HT.sIx xs.length 0 lo)) (Nat.le_trans (cutV_length xs lo hi) hz), rfl, q2 hw _ _ (I.hok.fresh (Nat.le_refl _)) (tupO_ok _)⟩
/-- t + u -/
def rCatN : R2 := fun x y H Q => ∃ a b xs ys, x = .ref a ∧ y = .ref b ∧ TupR H a xs ∧ TupR H b ys ∧ xs.length + ys.length ≤ sizeLine ∧
  (xs = [] → Q (.ref b) H) ∧ (xs ≠ [] → ys = [] → Q (.ref a) H) ∧ (xs ≠ [] → ys ≠ [] → NT H (xs ++ ys) Q)
theorem op_catN : OpR X (binaryOp .Add) rCatN := by
  intro pins s σ H x y v u Q I rx ry h
  obtain ⟨a, b, xs, ys, rfl, rfl, ha, hb, hz, q0, q1, q2⟩ := h
  have ha := ha.sqT (K := X.K)
  have hb := hb.sqT (K := X.K)
  cases rx
  cases ry
  obtain ⟨its, r1, p1, _⟩ := I.tuple ha
  obtain ⟨its2, r2, p2, _⟩ := I.tuple hb
  by_cases hx : xs = []
  · subst hx
    cases r1
    exact cat_tup0 p1 p2 ⟨.ref b, H, I, rfl, q0 rfl⟩
  · refine HT.cat_tup p1 p2 (fun z => hx (r1.nil_iff.mp z)) (fun z => ⟨.ref a, H, I, rfl, q1 hx (r2.nil_iff.mp z)⟩) (fun z => ?_) (by rw [← r1.length, ← r2.length]; exact hz)
    have I2 := Inv.tnew (t' := s.toks) I (r1.append r2) (by rw [List.length_append]; exact hz)
    exact ⟨.ref s.heap.objs.size, _, I2, rfl, q2 hx (fun w => z (r2.nil_iff.mpr w)) _ _ (I.hok.fresh (Nat.le_refl _)) (tupO_ok _)⟩
/-- tuple(x) -/
theorem call_tuple_N : CallR X (.type "tuple") (fun xs H Q => ∃ p ys, xs = [.ref p] ∧ ((SqL X.K H p ys ∧ NT H ys Q) ∨ (TupR H p ys ∧ Q (.ref p) H))) := by
  intro pins s σ H xs us Q I r h
  obtain ⟨p, ys, rfl, h⟩ := h
  obtain ⟨u, rfl, rx⟩ := vals1 r
  cases rx
  rcases h with ⟨hq, q⟩ | ⟨hq, q⟩
  · obtain ⟨its, r', pl, hz⟩ := I.list hq
    have hlen := r'.length
    refine call_tuple_list pl.isList (fun h' kp => ?_) (by simp only [List.size_toArray] <;> omega)
    have I1 : Inv X pins σ H { s with heap := h' } := I.kept (t' := s.toks) kp
    have I2 := Inv.tnew (t' := s.toks) I1 r' hz
    exact ⟨.ref h'.objs.size, _, I2, rfl, q _ _ (I1.hok.fresh (Nat.le_refl _)) (tupO_ok _)⟩
  · obtain ⟨its, r', pl, hz⟩ := I.tuple (hq.sqT (K := X.K))
    exact call_tuple_same pl ⟨.ref p, H, I, rfl, q⟩
/-- tuple(range(..)) -/
def tTupRgN (te : L2.St → Hp → (Int → Int → Hp → Prop) → Prop) : TE := fun σ H Q => te σ H fun a b H1 => RgOk a b ∧ NT H1 (rgV a b) Q
theorem pe_tupRgN {te : L2.St → Hp → (Int → Int → Hp → Prop) → Prop} {p pos : Pos} (hc : X.calm = true) (hg : Gl X "tuple") (hm : X.mg "tuple" = none) (he : PRg X e te) (na : starEach [e] X.env = (false, eval e X.env) :: starEach [] X.env := by rfl) : PE X (.Call (.Name "tuple" p) [e] [] pos) (tTupRgN te) := by
  refine ⟨fun pins s σ H Q I h => ?_⟩
  refine Call_ (ld_blt I hg hm boot_tuple (PyProof.Rows.callWith_type1 (args_cons (thn (he pins s σ H _ I h) fun x s1 ⟨r, a, b, t, u, v, H1, ex, hr, I1, ok, q⟩ => args_nil ?_) na) na))
  subst ex
  obtain ⟨b1, b2, b3, b4, b5⟩ := ok
  refine call_tuple_range (n := (b - a).toNat) (I1.ok.hd hc) hr (small_one b1 b2 b3 b4) (rangeSize_nat a b) b5 fun h' tk acc hk hi => ?_
  have I2 : Inv X pins σ H1 { s1 with heap := h', toks := tk } := I1.kept hk
  have I3 := Inv.tnew (t' := tk) I2 (vals_rg hi) (by rw [rgV_length, sizeLine_eq]; omega)
  rw [Array.toArray_toList] at I3
  exact ⟨.ref h'.objs.size, _, I3, rfl, q _ _ (I2.hok.fresh (Nat.le_refl _)) (tupO_ok _)⟩
/-- tuple(reversed(x)) -/
def tTupRevN (K : PySem.W.Frag) (te : TE) : TE := fun σ H Q => te σ H fun v H1 => ∃ (a : Addr) (xs : List V), v = .ref a ∧ SqL K H1 a xs ∧ NT H1 xs.reverse Q
theorem pe_tupRevN {te : TE} {p p2 pos pos2 : Pos} (hc : X.calm = true) (hg : Gl X "tuple") (hm : X.mg "tuple" = none) (hg2 : Gl X "reversed") (hm2 : X.mg "reversed" = none) (he : PE X e te)
    (hs : starEach [e] X.env = (false, eval e X.env) :: starEach [] X.env := by rfl)
    (hs2 : starEach [.Call (.Name "reversed" p2) [e] [] pos2] X.env = (false, eval (.Call (.Name "reversed" p2) [e] [] pos2) X.env) :: starEach [] X.env := by rfl) :
    PE X (.Call (.Name "tuple" p) [.Call (.Name "reversed" p2) [e] [] pos2] [] pos) (tTupRevN X.K te) := by
  refine ⟨fun pins s σ H Q I h => ?_⟩
  refine Call_ (ld_blt I hg hm boot_tuple (PyProof.Rows.callWith_type1 (args_cons (Call_ (ld_blt I hg2 hm2 PyProof.Rows.boot_reversed (PyProof.Rows.callWith_type1 (args_cons (thn (he.run pins s σ H _ I h) fun u s1 ⟨v, H1, I1, r1, q1⟩ => args_nil ?_) hs) hs rfl))) hs2) hs2 rfl))
  obtain ⟨a, xs, ev, hq, q⟩ := q1
  subst ev
  obtain rfl : u = Value.ref a := r1
  obtain ⟨its, rv, p', hz⟩ := I1.list hq
  refine call_reversed_list p'.isList (args_nil ?_)
  have k0 : ∀ b o, s1.heap.get? b = some o → (s1.heap.push (revObj a ((its.toArray.size : Int) - 1))).get? b = some o := fun b o e => Heap.get?_push_of_some _ e
  have I2 : Inv X pins σ H1 { s1 with heap := s1.heap.push (revObj a ((its.toArray.size : Int) - 1)) } := I1.kept (t' := s1.toks) k0
  obtain ⟨f0, f1, f2, f3, f4, f5⟩ := I1.fpOk (H' := H1) (b := s1.heap.objs.size) (Nat.le_refl _) (I1.hok.fresh (Nat.le_refl _))
  have hl := p'.isList
  obtain ⟨ol, hol, _⟩ := id hl
  have hne : a ≠ s1.heap.objs.size := Nat.ne_of_lt (Heap.lt_size hol)
  have hn : its.toArray.size ≤ sizeLine := by rw [List.size_toArray, ← rv.length]; exact hz
  refine RT.call_tuple_rev (s := { s1 with heap := s1.heap.push (revObj a ((its.toArray.size : Int) - 1)) }) (I1.ok.hd hc) ⟨_, Heap.get?_push_size _ rfl, rfl, rfl⟩ (hl.push _) hne hn fun h' tk acc hk hi => ?_
  have I3 : Inv X pins σ H1 { s1 with heap := h', toks := tk } := I2.turned (t' := tk) (fun b o hb e => hk b o hb e) f0 f1 f3 f4 f5
  have I4 := Inv.tnew (t' := tk) I3 (RT.vals_rev rv hi) (by rw [List.length_reverse]; exact hz)
  rw [Array.toArray_toList] at I4
  exact ⟨.ref h'.objs.size, _, I4, rfl, q _ _ (I3.hok.fresh (Nat.le_refl _)) (tupO_ok _)⟩
end
end PL
/-! PL: a small language of plain data, its evaluator, and the proof that the model does what it says -/
namespace PL
open PySem PySem.Spec PyProof.Rows L2

/-! ### data -/
/-- how a list is held: alone (it may be changed), frozen, lent, the script -/
inductive Md where
  | own | fro | bor | scr
  deriving DecidableEq
inductive D where
  | non | bl (b : Bool) | int (i : Int) | str (s : Str) | tup (ds : List D) | lst (m : Md) (ds : List D) | sref (n : Nat)

mutual
/-- lent: what is held alone is lent -/
def D.bw : D → D
  | .tup ds => .tup (bwL ds)
  | .lst .own ds => .lst .bor (bwL ds)
  | .lst .bor ds => .lst .bor (bwL ds)
  | d => d
def bwL : List D → List D
  | [] => []
  | d :: ds => d.bw :: bwL ds
end
mutual
/-- nothing lent in it -/
def D.keep : D → Bool
  | .tup ds => keepL ds
  | .lst .own ds => keepL ds
  | .lst .bor _ => false
  | _ => true
def keepL : List D → Bool
  | [] => true
  | d :: ds => d.keep && keepL ds
end
mutual
/-- what is held alone is frozen -/
def D.frz : D → D
  | .tup ds => .tup (frzL ds)
  | .lst .own ds => .lst .fro (frzL ds)
  | d => d
def frzL : List D → List D
  | [] => []
  | d :: ds => d.frz :: frzL ds
end
mutual
/-- nothing held alone in it -/
def D.noOwn : D → Bool
  | .tup ds => noOwnL ds
  | .lst .own _ => false
  | _ => true
def noOwnL : List D → Bool
  | [] => true
  | d :: ds => d.noOwn && noOwnL ds
end
mutual
def D.py : D → PyData
  | .non => .none
  | .bl b => .bool b
  | .int i => .int i
  | .str s => .str s
  | .tup ds => .tuple (pyL ds)
  | .lst _ ds => .list (pyL ds)
  | .sref _ => .none
def pyL : List D → List PyData
  | [] => []
  | d :: ds => d.py :: pyL ds
end
mutual
/-- data that may be compared -/
def D.dat : D → Bool
  | .tup ds => datL ds
  | .lst m ds => m != .scr && datL ds
  | .str s => PyData.strOk s
  | .sref _ => false
  | _ => true
def datL : List D → Bool
  | [] => true
  | d :: ds => d.dat && datL ds
end

/-! ### results -/
abbrev Store := List (List D)
inductive Res (α : Type) where
  | ok (a : α) (st : Store)
  | exn (c : Nat) (p : D) (st : Store)
  | err
abbrev M (α : Type) := Store → Res α
namespace M
@[reducible] def pure {α : Type} (a : α) : M α := fun st => .ok a st
def bind {α β : Type} (m : M α) (f : α → M β) : M β := fun st => match m st with
  | .ok a st' => f a st'
  | .exn c p st' => .exn c p st'
  | .err => .err
def fail {α : Type} : M α := fun _ => .err
/-- nothing may be raised in it -/
def quiet {α : Type} (m : M α) : M α := fun st => match m st with
  | .ok a st' => .ok a st'
  | _ => .err
def ofOpt {α : Type} : Option α → M α
  | some a => pure a
  | none => fail
end M
instance : Monad M where
  pure := M.pure
  bind := M.bind

/-! ### operators -/
def LIM : Nat := 1000000
inductive Bop where
  | add | sub | mul | fdiv | mod | pow | shl | shr | band | bor | bxor
  deriving DecidableEq
inductive Cop where
  | eq | ne | lt | le | gt | ge | isin | notin | is | isnot
  deriving DecidableEq
def mulOk (i j : Int) : Bool := decide (i.natAbs < 2 ^ 64) || decide (j.natAbs < 2 ^ 64) || decide (i.natAbs.log2 + j.natAbs.log2 < 1000000)
def divOk (j : Int) : Bool := decide (j ≠ 0) && decide (j.natAbs.log2 < 9000)
def powOk (i j : Int) : Bool := decide (0 ≤ j) && decide (j ≤ 1000000) && decide (i.natAbs < 2 ^ 64)
def binD : Bop → D → D → Option D
  | .add, .int i, .int j => some (.int (i + j))
  | .sub, .int i, .int j => some (.int (i - j))
  | .mul, .int i, .int j => if mulOk i j then some (.int (i * j)) else none
  | .fdiv, .int i, .int j => if divOk j then some (.int (i.fdiv j)) else none
  | .mod, .int i, .int j => if decide (j ≠ 0) then some (.int (i.fmod j)) else none
  | .pow, .int i, .int j => if powOk i j then some (.int (i ^ j.toNat)) else none
  | .shl, .int i, .int j => if powOk i j then some (.int (i * 2 ^ j.toNat)) else none
  | .shr, .int i, .int j => if decide (0 ≤ j) then some (.int (i / 2 ^ j.toNat)) else none
  | .band, .int i, .int j => some (.int (Builtin.bitAnd i j))
  | .bor, .int i, .int j => some (.int (Builtin.bitOr i j))
  | .bxor, .int i, .int j => some (.int (Builtin.bitXor i j))
  | .add, .str x, .str y => if x.length + y.length ≤ LIM then some (.str (x ++ y)) else none
  | .add, .tup xs, .tup ys => if xs.length + ys.length ≤ LIM then some (.tup (xs ++ ys)) else none
  | .add, .lst m xs, .lst m' ys => if m != .scr && m' != .scr && decide (xs.length + ys.length ≤ LIM) then some (.lst .own (xs ++ ys)) else none
  | .mul, .lst m xs, .int k => if m != .scr && noOwnL xs && decide (xs.length ≤ 1000) && decide (-1000 ≤ k) && decide (k ≤ 1000) then some (.lst .own (List.replicate k.toNat xs).flatten) else none
  | .mul, .tup xs, .int k => if noOwnL xs && decide (xs.length ≤ 1000) && decide (-1000 ≤ k) && decide (k ≤ 1000) then some (.tup (List.replicate k.toNat xs).flatten) else none
  | _, _, _ => none
/-- the order of tuples: ints, and tuples of such -/
inductive Tri where
  | lt | eq | gt
  deriving DecidableEq
def eqD (d e : D) : Option Bool := if d.dat && e.dat && decide (d.py.depth ≤ 64) && decide (e.py.depth ≤ 64) then some (PyData.eqv d.py e.py) else none
def intsOf : List D → Option (List Int)
  | [] => some []
  | .int i :: ds => (intsOf ds).map (i :: ·)
  | _ :: _ => none
def inD (d : D) : D → Option Bool
  | .lst m es => if d.dat && (D.lst m es).dat && decide (d.py.depth ≤ 64) && decide ((D.lst m es).py.depth ≤ 64) then some ((pyL es).any fun z => PyData.eqv z d.py) else none
  | .tup es => if d.dat && (D.tup es).dat && decide (d.py.depth ≤ 64) && decide ((D.tup es).py.depth ≤ 64) then some ((pyL es).any fun z => PyData.eqv z d.py) else none
  | .str y => match d with
    | .str x => some (!(Builtin.Str.occurrences y x 0 y.length 1).isEmpty)
    | _ => none
  | _ => none
def cmpD : Cop → D → D → Option Bool
  | .eq, d, e => eqD d e
  | .ne, d, e => (eqD d e).map (!·)
  | .lt, .int i, .int j => some (decide (i < j))
  | .le, .int i, .int j => some (decide (i ≤ j))
  | .gt, .int i, .int j => some (decide (j < i))
  | .ge, .int i, .int j => some (decide (j ≤ i))
  | .lt, .tup xs, .tup ys => match intsOf xs, intsOf ys with
    | some a, some b => some (HT.lexLt a b)
    | _, _ => none
  | .isin, d, e => inD d e
  | .notin, d, e => (inD d e).map (!·)
  | .is, d, .non => match d with | .non => some true | .sref _ => none | _ => some false
  | .isnot, d, .non => match d with | .non => some false | .sref _ => none | _ => some true
  | .is, .bl a, .bl b => some (decide (a = b))
  | .isnot, .bl a, .bl b => some (!decide (a = b))
  | _, _, _ => none
def negD : D → Option D
  | .int i => some (.int (-i))
  | _ => none
def truD : D → Option Bool
  | .non => some false
  | .bl b => some b
  | .int i => some (i != 0)
  | .lst m ds => some (!ds.isEmpty)
  | .tup ds => some (!ds.isEmpty)
  | _ => none
/-- o[i] -/
def ixD (st : Store) : D → D → Option D
  | .lst _ ds, .int i => atI ds i
  | .tup ds, .int i => atI ds i
  | .str s, .int i => if s.length ≤ LIM then (atI s.cps.toList i).map fun c => .str ⟨#[c]⟩ else none
  | .sref n, .int i => (st[n]?).bind fun ds => atI ds i
  | _, _ => none
def cutD (ds : List D) (lo hi : Option Int) : List D := (ds.drop (HT.sIx ds.length 0 lo)).take (HT.sIx ds.length ds.length hi - HT.sIx ds.length 0 lo)
/-- o[lo:hi] -/
def slD (lo hi : Option Int) : D → Option D
  | .lst _ ds => some (.lst .own (cutD (bwL ds) lo hi))
  | .tup ds => some (.tup (cutD (bwL ds) lo hi))
  | .str s => if s.length ≤ LIM then some (.str (cutS s lo hi)) else none
  | _ => none
/-- what a for or a comprehension walks -/
def itemsD : D → Option (List D)
  | .lst _ ds => some (bwL ds)
  | .tup ds => some (bwL ds)
  | _ => none
def rgD (a b : Int) : List D := (List.range (b - a).toNat).map fun (i : Nat) => D.int (a + (i : Nat))
def rgOk (a b : Int) : Bool := decide (-1000000 ≤ a) && decide (a ≤ 1000000) && decide (-1000000 ≤ b) && decide (b ≤ 1000000)

/-- range(a, b, c) -/
def rsOk (a b c : Int) : Bool := decide (c ≠ 0) && decide (c.natAbs < 1073741824) && Builtin.Range.small a b c && decide (0 ≤ Builtin.Range.rangeSize a b c) && decide (Builtin.Range.rangeSize a b c ≤ 1000000)
def rsD (a b c : Int) : List D := (List.range (Builtin.Range.rangeSize a b c).toNat).map fun (i : Nat) => D.int (a + (i : Nat) * c)

/-! ### built-in functions -/
inductive Bi where
  | abs | int | len | tuple | list | sum | max | min | max2 | min2 | any | all | sorted
  deriving DecidableEq
/-- isinstance(x, k) -/
inductive Ki where
  | int | bool | str | list | tuple
  deriving DecidableEq
def boolsOf : List D → Option (List Bool)
  | [] => some []
  | .bl b :: ds => (boolsOf ds).map (b :: ·)
  | _ :: _ => none
def maxI : List Int → Int
  | [] => 0
  | [a] => a
  | a :: r => let m := maxI r; if a < m then m else a
def minI : List Int → Int
  | [] => 0
  | [a] => a
  | a :: r => let m := minI r; if m < a then m else a
def insI (x : Int) : List Int → List Int
  | [] => [x]
  | y :: r => if x ≤ y then x :: y :: r else y :: insI x r
def sortI : List Int → List Int
  | [] => []
  | x :: r => insI x (sortI r)
def biD : Bi → List D → Option D
  | .abs, [.int i] => some (.int (if i < 0 then -i else i))
  | .int, [.int i] => some (.int i)
  | .int, [.bl b] => some (.int (if b then 1 else 0))
  | .len, [.lst _ ds] => some (.int ds.length)
  | .len, [.tup ds] => some (.int ds.length)
  | .len, [.str s] => if s.length ≤ LIM then some (.int s.length) else none
  | .tuple, [.lst _ ds] => some (.tup (bwL ds))
  | .tuple, [.tup ds] => some (.tup ds)
  | .list, [.lst _ ds] => some (.lst .own (bwL ds))
  | .list, [.tup ds] => some (.lst .own (bwL ds))
  | .sum, [.lst m ds] => (intsOf ds).map fun ns => .int ns.sum
  | .sum, [.tup ds] => (intsOf ds).map fun ns => .int ns.sum
  | .max, [.lst m ds] => match intsOf ds with | some (n :: ns) => some (.int (maxI (n :: ns))) | _ => none
  | .min, [.lst m ds] => match intsOf ds with | some (n :: ns) => some (.int (minI (n :: ns))) | _ => none
  | .max2, [.int i, .int j] => some (.int (if j > i then j else i))
  | .min2, [.int i, .int j] => some (.int (if j < i then j else i))
  | .any, [.lst _ ds] => (boolsOf ds).map fun bs => .bl (bs.any id)
  | .all, [.lst _ ds] => (boolsOf ds).map fun bs => .bl (bs.all id)
  | .sorted, [.lst m ds] => match intsOf ds with | some ns => if ns.length < 64 then some (.lst .own ((sortI ns).map D.int)) else none | _ => none
  | _, _ => none

/-- x.index(y), x.count(y) -/
inductive Mth where
  | index | count
  deriving DecidableEq
def idxD (ds : List D) (d : D) : Option Nat := if datL ds && d.dat && decide ((PyData.list (pyL ds)).depth ≤ 64) && decide (d.py.depth ≤ 64) then (pyL ds).findIdx? fun z => PyData.eqv z d.py else none
def mthD : Mth → D → D → Option D
  | .index, .tup ds, .int i => (intsOf ds).bind fun ns => if ns.contains i then some (.int (ns.idxOf i : Nat)) else none
  | .index, .lst m ds, d => if m != .scr then (idxD ds d).map fun j => .int (j : Nat) else none
  | .count, .tup ds, .int i => (intsOf ds).map fun ns => .int (ns.count i : Nat)
  | _, _, _ => none
def isaD : Ki → D → Option D
  | .int, .int _ => some (.bl true)
  | .int, .bl _ => some (.bl true)
  | .bool, .bl _ => some (.bl true)
  | .str, .str _ => some (.bl true)
  | .tuple, .tup _ => some (.bl true)
  | _, .sref _ => none
  | _, .lst .scr _ => none
  | .list, .lst _ _ => some (.bl true)
  | _, _ => some (.bl false)
/-! ### combinations -/
def stepC (n : Nat) (indices : List Nat) : Option (List Nat) :=
  let r := indices.length
  match (List.range r).reverse.find? fun i => indices.getD i 0 != i + n - r with
  | none => none
  | some i => some (indices.take i ++ (List.range (r - i)).map (indices.getD i 0 + 1 + ·))
/-- every combination behind idx -/
def cbFrom (n : Nat) : Nat → List Nat → Option (List (List Nat))
  | 0, _ => none
  | f + 1, idx => match stepC n idx with
    | none => some []
    | some nx => (cbFrom n f nx).map (nx :: ·)
def allC (n r : Nat) : Option (List (List Nat)) := if r > n then some [] else (cbFrom n (2 ^ n) (List.range r)).map (List.range r :: ·)
def pickD (ds : List D) (ix : List Nat) : D := .tup (ix.map fun i => ds.getD i .non)
/-- list(combinations(x, r)) -/
def combD (d e : D) : Option D := match d, e with
  | .lst _ ds, .int r => if decide (ds.length ≤ 12) && decide (0 ≤ r) && decide (r ≤ 1000) then (allC ds.length r.toNat).map fun l => .lst .own (l.map (pickD (bwL ds))) else none
  | _, _ => none
/-- tuple(reversed(x)) of a list -/
def revD : D → Option D
  | .lst _ ds => some (.tup (bwL ds).reverse)
  | _ => none
/-! ### the language -/
mutual
inductive E where
  | var (i : Nat) | int (n : Int) | bl (b : Bool) | non | str (s : Str)
  | tup (es : Es) | lst (es : Es)
  | bin (op : Bop) (a b : E) | neg (a : E)
  | cmp (op : Cop) (a b : E) | chain (op op' : Cop) (a b c : E)
  | and (es : Es) | or (es : Es) | not (a : E)
  | ite (c a b : E)
  | ix (a b : E) | sl (a : E) (lo hi : Eo)
  | call (f : Nat) (es : Es) | bi (b : Bi) (es : Es) | isa (k : Ki) (a : E)
  | listR (it : It) | tupR (it : It)
  | comp (elt : E) (tg : List Nat) (tup : Bool) (it : It) (ifs : Es) (own : List Nat)
  | bad
  | comb (a b : E)
  | tupRev (a : E)
  | mth (m : Mth) (a b : E)
  | comp2 (elt : E) (tg : List Nat) (tup : Bool) (it : It) (ifs : Es) (tg1 : List Nat) (tup1 : Bool) (it1 : It) (ifs1 : Es) (own : List Nat)
inductive Es where
  | nil | cons (e : E) (es : Es)
inductive Eo where
  | none | some (e : E)
inductive It where
  | seq (e : E) | r1 (a : E) | r2 (a b : E) | rev (e : E) | r3 (a b c : E)
end
abbrev Env := List (Option D)
def unset (env : Env) : List Nat → Env
  | [] => env
  | i :: is => (unset env is).set i none
/-- a target: names -/
def bindT (tg : List Nat) (tup : Bool) (d : D) (env : Env) : Option Env := match tup, tg with
  | false, [i] => some (env.set i (some d))
  | true, tg => match d with
    | .tup ds => if ds.length = tg.length then some ((tg.zip (bwL ds)).foldl (fun e p => e.set p.1 (some p.2)) env) else none
    | _ => none
  | _, _ => none
/-- a comprehension's turns -/
def compM (f : D → M (List D)) : List D → M (List D)
  | [] => M.pure []
  | x :: xs => M.bind (f x) fun ys => M.bind (compM f xs) fun zs => M.pure (ys ++ zs)

/-- what a test asks -/
def tstD (f : Env → M D) : Env → M Bool := fun env => M.bind (f env) fun d => M.ofOpt (truD d)
def andF (f : Env → M D) (g : Env → M Bool) : Env → M Bool := fun env => M.bind (f env) fun d => match d with
  | .bl true => g env
  | .bl false => M.pure false
  | _ => M.fail
def orF (f : Env → M D) (g : Env → M Bool) : Env → M Bool := fun env => M.bind (f env) fun d => match d with
  | .bl false => g env
  | .bl true => M.pure true
  | _ => M.fail
def blF (g : Env → M Bool) : Env → M D := fun env => M.bind (g env) fun b => M.pure (.bl b)
def notF (f : Env → M D) : Env → M D := fun env => M.bind (f env) fun x => match x with | .bl b => M.pure (.bl (!b)) | _ => M.fail
def ifsF (f : Env → M D) (g : Env → M Bool) : Env → M Bool := fun env => M.bind (tstD f env) fun b => if b then g env else M.pure false
/-- the turn of a comprehension -/
def turnF (tg : List Nat) (tup : Bool) (own : List Nat) (fi : Env → M Bool) (fe : Env → M D) (env : Env) : D → M (List D) := fun x => match bindT tg tup x (unset env own) with
  | some env' => M.bind (fi env') fun b => if b then M.bind (fe env') fun y => M.pure [y] else M.pure []
  | none => M.fail
/-- two fors -/
def turn2F (tg : List Nat) (tup : Bool) (own : List Nat) (fi : Env → M Bool) (fit1 : Env → M (List D)) (tg1 : List Nat) (tup1 : Bool) (fi1 : Env → M Bool) (fe : Env → M D) (env : Env) : D → M (List D) := fun x => match bindT tg tup x (unset env own) with
  | some env' => M.bind (fi env') fun b => if b then M.bind (fit1 env') fun xs1 => compM (turnF tg1 tup1 tg1 fi1 fe env') xs1 else M.pure []
  | none => M.fail

/-- o.m(x) -/
def mthOk : Mth → D → Bool
  | .index, .tup _ => true
  | .index, .lst _ _ => true
  | .count, .tup _ => true
  | _, _ => false
def mthF (m : Mth) (fa fb : Env → M D) : Env → M D := fun env => M.bind (fa env) fun x => if mthOk m x then M.bind (fb env) fun y => M.ofOpt (mthD m x y) else M.fail
section
variable (call : Nat → List D → M D)
mutual
def ev : E → Env → M D
  | .var i => fun env => match env[i]? with | some (some d) => M.pure d.bw | _ => M.fail
  | .int n => fun _ => M.pure (.int n)
  | .bl b => fun _ => M.pure (.bl b)
  | .non => fun _ => M.pure .non
  | .str s => fun _ => M.pure (.str s)
  | .tup es => fun env => M.bind (evs es env) fun ds => M.pure (.tup ds)
  | .lst es => fun env => M.bind (evs es env) fun ds => M.pure (.lst .own ds)
  | .bin op a b => fun env => M.bind (ev a env) fun x => M.bind (ev b env) fun y => M.ofOpt (binD op x y)
  | .neg a => fun env => M.bind (ev a env) fun x => M.ofOpt (negD x)
  | .cmp op a b => fun env => M.bind (ev a env) fun x => M.bind (ev b env) fun y => M.ofOpt ((cmpD op x y).map D.bl)
  | .chain op op' a b c => fun env => M.bind (ev a env) fun x => M.bind (ev b env) fun y => M.bind (M.ofOpt (cmpD op x y)) fun k =>
      if k then M.bind (ev c env) fun z => M.ofOpt ((cmpD op' y z).map D.bl) else M.pure (.bl false)
  | .and es => blF (evAnd es)
  | .or es => blF (evOr es)
  | .not a => notF (ev a)
  | .ite c a b => fun env => M.bind (tstD (ev c) env) fun k => if k then ev a env else ev b env
  | .ix a b => fun env => M.bind (ev a env) fun x => M.bind (ev b env) fun y => fun st => M.ofOpt (ixD st x y) st
  | .sl a lo hi => fun env => M.bind (ev a env) fun x => M.bind (evO lo env) fun l => M.bind (evO hi env) fun h => M.ofOpt (slD l h x)
  | .call f es => fun env => M.bind (evs es env) fun ds => call f ds
  | .bi b es => fun env => M.bind (evs es env) fun ds => M.ofOpt (biD b ds)
  | .isa k a => fun env => M.bind (ev a env) fun d => M.ofOpt (isaD k d)
  | .listR it => fun env => M.bind (evI it env) fun ds => M.pure (.lst .own ds)
  | .tupR it => fun env => M.bind (evI it env) fun ds => M.pure (.tup ds)
  | .comp elt tg tup it ifs own => fun env => M.bind (evI it env) fun xs =>
      M.bind (M.quiet (compM (turnF tg tup own (evIfs ifs) (ev elt) env) xs)) fun ys => if ys.length ≤ LIM then M.pure (.lst .own ys) else M.fail
  | .bad => fun _ => M.fail
  | .comb a b => fun env => M.bind (ev a env) fun x => M.bind (ev b env) fun y => M.ofOpt (combD x y)
  | .tupRev a => fun env => M.bind (ev a env) fun x => M.ofOpt (revD x)
  | .mth m a b => mthF m (ev a) (ev b)
  | .comp2 elt tg tup it ifs tg1 tup1 it1 ifs1 own => fun env => M.bind (evI it env) fun xs =>
      M.bind (M.quiet (compM (turn2F tg tup own (evIfs ifs) (evI it1) tg1 tup1 (evIfs ifs1) (ev elt) env) xs)) fun ys => if ys.length ≤ LIM then M.pure (.lst .own ys) else M.fail
def evs : Es → Env → M (List D)
  | .nil => fun _ => M.pure []
  | .cons e es => fun env => M.bind (ev e env) fun d => M.bind (evs es env) fun ds => M.pure (d :: ds)
/-- a and b and ..: True and False alone -/
def evAnd : Es → Env → M Bool
  | .nil => fun _ => M.pure true
  | .cons e es => andF (ev e) (evAnd es)
def evOr : Es → Env → M Bool
  | .nil => fun _ => M.pure false
  | .cons e es => orF (ev e) (evOr es)
/-- a comprehension's tests, by truth -/
def evIfs : Es → Env → M Bool
  | .nil => fun _ => M.pure true
  | .cons e es => ifsF (ev e) (evIfs es)
/-- an optional part of a slice -/
def evO : Eo → Env → M (Option Int)
  | .none => fun _ => M.pure none
  | .some e => fun env => M.bind (ev e env) fun d => match d with
    | .int i => M.pure (some i)
    | _ => M.fail
/-- what is walked -/
def evI : It → Env → M (List D)
  | .r1 a => fun env => M.bind (ev a env) fun d => match d with
    | .int n => if rgOk 0 n then M.pure (rgD 0 n) else M.fail
    | _ => M.fail
  | .r2 a b => fun env => M.bind (ev a env) fun d => M.bind (ev b env) fun d' => match d, d' with
    | .int i, .int n => if rgOk i n then M.pure (rgD i n) else M.fail
    | _, _ => M.fail
  | .seq e => fun env => M.bind (ev e env) fun d => M.ofOpt (itemsD d)
  | .rev e => fun env => M.bind (ev e env) fun d => M.ofOpt ((itemsD d).map List.reverse)
  | .r3 a b c => fun env => M.bind (ev a env) fun d => M.bind (ev b env) fun d' => M.bind (ev c env) fun d2 => match d, d', d2 with
    | .int i, .int j, .int k => if rsOk i j k then M.pure (rsD i j k) else M.fail
    | _, _, _ => M.fail
end
end
end PL
namespace PL
open PySem PySem.Spec PyProof.Rows L2

/-! ### what stands for data -/
/-- the shared lists, and lists that no data speak of -/
structure Ts where
  sh : List Addr
  hid : List Addr
def Ts.no (T : Ts) (a : Addr) : Prop := ¬ a ∈ T.sh ∧ ¬ a ∈ T.hid
/-- a list that never changes: frozen, or of the written part -/
def ScrL (K : PySem.W.Frag) (H : Hp) (a : Addr) (xs : List V) : Prop :=
  (∃ o, H a = some (.frz o (.lst xs))) ∨
    ∃ (o : Obj) (its : Array Value) (n : Nat), K.lookup a = some o ∧ o.cls = .type "list" ∧ o.dict = none ∧ o.data = .seq its n ∧ its.size ≤ sizeLine ∧ Vals xs its.toList
mutual
inductive Rep (K : PySem.W.Frag) (T : Ts) (H : Hp) : V → D → List Addr → Prop
  | non : Rep K T H .non .non []
  | bl (b : Bool) : Rep K T H (.bl b) (.bl b) []
  | int (i : Int) : Rep K T H (.int i) (.int i) []
  | str (x : Str) : Rep K T H (.str x) (.str x) []
  | tup {a : Addr} {xs : List V} {ds : List D} {S : List Addr} : TupR H a xs → RepL K T H xs ds S → Rep K T H (.ref a) (.tup ds) S
  | own {a : Addr} {xs : List V} {ds : List D} {S : List Addr} : H a = some (.lst xs) → T.no a → RepL K T H xs ds S → Rep K T H (.ref a) (.lst .own ds) (a :: S)
  | fro {a : Addr} {o : Obj} {xs : List V} {ds : List D} : H a = some (.frz o (.lst xs)) → RepL K T H xs ds [] → keepL ds = true → Rep K T H (.ref a) (.lst .fro ds) []
  | bor {a : Addr} {xs : List V} {ds : List D} : Rd H a (.lst xs) → T.no a → RepL K T H xs ds [] → Rep K T H (.ref a) (.lst .bor ds) []
  | scr {a : Addr} {xs : List V} {ds : List D} : ScrL K H a xs → RepL K T H xs ds [] → keepL ds = true → Rep K T H (.ref a) (.lst .scr ds) []
  | sref {a : Addr} {n : Nat} : T.sh[n]? = some a → Rep K T H (.ref a) (.sref n) []
inductive RepL (K : PySem.W.Frag) (T : Ts) (H : Hp) : List V → List D → List Addr → Prop
  | nil : RepL K T H [] [] []
  | cons {v : V} {vs : List V} {d : D} {ds : List D} {S S' : List Addr} : Rep K T H v d S → RepL K T H vs ds S' → RepL K T H (v :: vs) (d :: ds) (S ++ S')
end

/-- all but the shared and the hidden lists stays -/
def Exw (T : Ts) (H H' : Hp) : Prop := ∀ a o, H a = some o → (T.no a ∨ ∀ xs, o ≠ .lst xs) → H' a = some o
theorem Exw.refl (T : Ts) (H : Hp) : Exw T H H := fun _ _ h _ => h
theorem Exw.trans {T : Ts} {H H1 H2 : Hp} (a : Exw T H H1) (b : Exw T H1 H2) : Exw T H H2 := fun c o h n => b c o (a c o h n) n
theorem Exw.rd {T : Ts} {H H' : Hp} {a : Addr} {xs : List V} (e : Exw T H H') (n : T.no a) (h : Rd H a (.lst xs)) : Rd H' a (.lst xs) := by
  rcases h with h | ⟨o, h⟩
  · exact .inl (e _ _ h (.inl n))
  · exact .inr ⟨o, e _ _ h (.inl n)⟩
theorem Exw.sqT {K : PySem.W.Frag} {T : Ts} {H H' : Hp} {a : Addr} {xs : List V} (e : Exw T H H') (h : SqT K H a xs) : SqT K H' a xs := by
  rcases h with (h | ⟨o, h⟩) | h
  · exact .inl (.inl (e _ _ h (.inr fun _ z => nomatch z)))
  · exact .inl (.inr ⟨o, e _ _ h (.inr fun _ z => nomatch z)⟩)
  · exact .inr h
theorem Exw.tupR {T : Ts} {H H' : Hp} {a : Addr} {xs : List V} (e : Exw T H H') (h : TupR H a xs) : TupR H' a xs := by
  obtain ⟨o, h, t⟩ := h
  exact ⟨o, e _ _ h (.inr fun _ z => nomatch z), t⟩
theorem Exw.scr {K : PySem.W.Frag} {T : Ts} {H H' : Hp} {a : Addr} {xs : List V} (e : Exw T H H') (h : ScrL K H a xs) : ScrL K H' a xs := by
  rcases h with ⟨o, h⟩ | h
  · exact .inl ⟨o, e _ _ h (.inr fun _ z => nomatch z)⟩
  · exact .inr h
/-- all but the shared lists stays -/
def Ext (T : Ts) (H H' : Hp) : Prop := ∀ a o, H a = some o → (¬ a ∈ T.sh ∨ ∀ xs, o ≠ .lst xs) → H' a = some o
theorem Ext.refl (T : Ts) (H : Hp) : Ext T H H := fun _ _ h _ => h
theorem Ext.trans {T : Ts} {H H1 H2 : Hp} (a : Ext T H H1) (b : Ext T H1 H2) : Ext T H H2 := fun c o h n => b c o (a c o h n) n
theorem Ext.of_same {T : Ts} {H H' : Hp} (e : Same H H') : Ext T H H' := fun a o h _ => e a o h
theorem Ext.w {T : Ts} {H H' : Hp} (e : Ext T H H') : Exw T H H' := fun a o h n => e a o h (n.imp (fun n => n.1) id)
theorem ScrL.sq {K : PySem.W.Frag} {H : Hp} {a : Addr} {xs : List V} (h : ScrL K H a xs) : SqL K H a xs := by
  rcases h with ⟨o, h⟩ | h
  · exact .inl (.inr ⟨o, h⟩)
  · exact .inr h
theorem Rd.sq {K : PySem.W.Frag} {H : Hp} {a : Addr} {xs : List V} (h : Rd H a (.lst xs)) : SqL K H a xs := .inl h

section
variable {K : PySem.W.Frag} {T : Ts} {H H' : Hp}
mutual
theorem Rep.exw (e : Exw T H H') : ∀ {v : V} {d : D} {S : List Addr}, Rep K T H v d S → Rep K T H' v d S
  | _, _, _, .non => .non
  | _, _, _, .bl b => .bl b
  | _, _, _, .int i => .int i
  | _, _, _, .str x => .str x
  | _, _, _, .tup h r => .tup (e.tupR h) (RepL.exw e r)
  | _, _, _, .own h n r => .own (e _ _ h (.inl n)) n (RepL.exw e r)
  | _, _, _, .fro h r k => .fro (e _ _ h (.inr fun _ z => nomatch z)) (RepL.exw e r) k
  | _, _, _, .bor h n r => .bor (e.rd n h) n (RepL.exw e r)
  | _, _, _, .scr h r k => .scr (e.scr h) (RepL.exw e r) k
  | _, _, _, .sref h => .sref h
theorem RepL.exw (e : Exw T H H') : ∀ {vs : List V} {ds : List D} {S : List Addr}, RepL K T H vs ds S → RepL K T H' vs ds S
  | _, _, _, .nil => .nil
  | _, _, _, .cons r t => .cons (Rep.exw e r) (RepL.exw e t)
end
theorem Rep.ext (e : Ext T H H') {v : V} {d : D} {S : List Addr} (r : Rep K T H v d S) : Rep K T H' v d S := r.exw e.w
theorem RepL.ext (e : Ext T H H') {vs : List V} {ds : List D} {S : List Addr} (r : RepL K T H vs ds S) : RepL K T H' vs ds S := r.exw e.w
theorem RepL.length : ∀ {vs : List V} {ds : List D} {S : List Addr}, RepL K T H vs ds S → vs.length = ds.length
  | _, _, _, .nil => rfl
  | _, _, _, .cons _ t => congrArg Nat.succ (RepL.length t)
mutual
/-- lent -/
theorem Rep.bw : ∀ {v : V} {d : D} {S : List Addr}, Rep K T H v d S → Rep K T H v d.bw []
  | _, _, _, .non => .non
  | _, _, _, .bl b => .bl b
  | _, _, _, .int i => .int i
  | _, _, _, .str x => .str x
  | _, _, _, .tup h r => .tup h (RepL.bw r)
  | _, _, _, .own h n r => .bor (.inl h) n (RepL.bw r)
  | _, _, _, .fro h r k => .fro h r k
  | _, _, _, .bor h n r => .bor h n (RepL.bw r)
  | _, _, _, .scr h r k => .scr h r k
  | _, _, _, .sref h => .sref h
theorem RepL.bw : ∀ {vs : List V} {ds : List D} {S : List Addr}, RepL K T H vs ds S → RepL K T H vs (bwL ds) []
  | _, _, _, .nil => .nil
  | _, _, _, .cons r t => .cons (S := []) (S' := []) (Rep.bw r) (RepL.bw t)
end
theorem bwL_length : ∀ ds : List D, (bwL ds).length = ds.length
  | [] => rfl
  | _ :: ds => congrArg Nat.succ (bwL_length ds)
theorem bwL_map : ∀ ds : List D, bwL ds = ds.map D.bw
  | [] => rfl
  | _ :: ds => congrArg (_ :: ·) (bwL_map ds)
theorem RepL.get : ∀ {vs : List V} {ds : List D} {S : List Addr} {i : Nat} {d : D}, RepL K T H vs ds S → ds[i]? = some d → ∃ v S', vs[i]? = some v ∧ Rep K T H v d S' ∧ S'.Sublist S
  | _, _, _, _, _, .nil, e => by simp at e
  | _, _, _, 0, _, .cons (S := S) (S' := S') r _, e => by simp at e; subst e; exact ⟨_, S, rfl, r, List.sublist_append_left _ _⟩
  | _, _, _, i + 1, d, .cons (S := S) (S' := S') _ t, e => by
    obtain ⟨v, S1, h1, h2, h3⟩ := RepL.get (i := i) (d := d) t (by simpa using e)
    exact ⟨v, S1, by simpa using h1, h2, h3.trans (List.sublist_append_right _ _)⟩
/-- what is told of a data's owned addresses -/
theorem RepL.append : ∀ {vs ws : List V} {ds es : List D} {S S' : List Addr}, RepL K T H vs ds S → RepL K T H ws es S' → RepL K T H (vs ++ ws) (ds ++ es) (S ++ S')
  | _, _, _, _, _, _, .nil, s => s
  | _, _, _, _, _, _, .cons r t, s => by
    rw [List.append_assoc]
    exact .cons r (RepL.append t s)
theorem RepL.take : ∀ {vs : List V} {ds : List D}, (n : Nat) → RepL K T H vs ds [] → RepL K T H (vs.take n) (ds.take n) []
  | _, _, 0, _ => by simpa using RepL.nil
  | [], [], _ + 1, _ => by simpa using RepL.nil
  | v :: vs, d :: ds, n + 1, h => by
    generalize hS : ([] : List Addr) = S0 at h
    cases h with
    | cons r t =>
      obtain ⟨e1, e2⟩ := List.append_eq_nil_iff.mp hS.symm
      subst e1; subst e2
      exact .cons (S := []) (S' := []) r (RepL.take n t)
theorem RepL.drop : ∀ {vs : List V} {ds : List D}, (n : Nat) → RepL K T H vs ds [] → RepL K T H (vs.drop n) (ds.drop n) []
  | _, _, 0, h => h
  | [], [], _ + 1, _ => by simpa using RepL.nil
  | v :: vs, d :: ds, n + 1, h => by
    generalize hS : ([] : List Addr) = S0 at h
    cases h with
    | cons r t =>
      obtain ⟨e1, e2⟩ := List.append_eq_nil_iff.mp hS.symm
      subst e1; subst e2
      exact RepL.drop n t
theorem RepL.none_len {vs : List V} {ds : List D} {S : List Addr} (h : RepL K T H vs ds S) : vs.isEmpty = ds.isEmpty := by
  cases h <;> rfl
mutual
theorem Rep.dom : ∀ {v : V} {d : D} {S : List Addr}, Rep K T H v d S → ∀ a ∈ S, ∃ xs, H a = some (.lst xs)
  | _, _, _, .non, _, h => nomatch h
  | _, _, _, .bl b, _, h => nomatch h
  | _, _, _, .int i, _, h => nomatch h
  | _, _, _, .str x, _, h => nomatch h
  | _, _, _, .tup _ r, a, h => RepL.dom r a h
  | _, _, _, .own h n r, a, m => by
    rcases List.mem_cons.mp m with e | m
    · subst e; exact ⟨_, h⟩
    · exact RepL.dom r a m
  | _, _, _, .fro _ _ _, _, h => nomatch h
  | _, _, _, .bor _ _ _, _, h => nomatch h
  | _, _, _, .scr _ _ _, _, h => nomatch h
  | _, _, _, .sref _, _, h => nomatch h
theorem RepL.dom : ∀ {vs : List V} {ds : List D} {S : List Addr}, RepL K T H vs ds S → ∀ a ∈ S, ∃ xs, H a = some (.lst xs)
  | _, _, _, .nil, _, h => nomatch h
  | _, _, _, .cons r t, a, h => (List.mem_append.mp h).elim (Rep.dom r a) (RepL.dom t a)
end
mutual
theorem Rep.noT : ∀ {v : V} {d : D} {S : List Addr}, Rep K T H v d S → ∀ a ∈ S, T.no a
  | _, _, _, .non, _, h => nomatch h
  | _, _, _, .bl b, _, h => nomatch h
  | _, _, _, .int i, _, h => nomatch h
  | _, _, _, .str x, _, h => nomatch h
  | _, _, _, .tup _ r, a, h => RepL.noT r a h
  | _, _, _, .own h n r, a, m => by
    rcases List.mem_cons.mp m with e | m
    · subst e; exact n
    · exact RepL.noT r a m
  | _, _, _, .fro _ _ _, _, h => nomatch h
  | _, _, _, .bor _ _ _, _, h => nomatch h
  | _, _, _, .scr _ _ _, _, h => nomatch h
  | _, _, _, .sref _, _, h => nomatch h
theorem RepL.noT : ∀ {vs : List V} {ds : List D} {S : List Addr}, RepL K T H vs ds S → ∀ a ∈ S, T.no a
  | _, _, _, .nil, _, h => nomatch h
  | _, _, _, .cons r t, a, h => (List.mem_append.mp h).elim (Rep.noT r a) (RepL.noT t a)
end
mutual
theorem Rep.noOwn : ∀ {v : V} {d : D} {S : List Addr}, Rep K T H v d S → d.noOwn = true → S = []
  | _, _, _, .non, _ => rfl
  | _, _, _, .bl b, _ => rfl
  | _, _, _, .int i, _ => rfl
  | _, _, _, .str x, _ => rfl
  | _, _, _, .tup _ r, h => RepL.noOwn r (by simpa [D.noOwn] using h)
  | _, _, _, .own _ _ _, h => by simp [D.noOwn] at h
  | _, _, _, .fro _ _ _, _ => rfl
  | _, _, _, .bor _ _ _, _ => rfl
  | _, _, _, .scr _ _ _, _ => rfl
  | _, _, _, .sref _, _ => rfl
theorem RepL.noOwn : ∀ {vs : List V} {ds : List D} {S : List Addr}, RepL K T H vs ds S → noOwnL ds = true → S = []
  | _, _, _, .nil, _ => rfl
  | _, _, _, .cons r t, h => by
    simp only [noOwnL, Bool.and_eq_true] at h
    rw [Rep.noOwn r h.1, RepL.noOwn t h.2]
    rfl
end
theorem RepL.flat {vs : List V} {ds : List D} (h : RepL K T H vs ds []) : ∀ k : Nat, RepL K T H (List.replicate k vs).flatten (List.replicate k ds).flatten []
  | 0 => by simpa using RepL.nil
  | k + 1 => by
    rw [List.replicate_succ, List.replicate_succ, List.flatten_cons, List.flatten_cons]
    exact RepL.append (S := []) (S' := []) h (RepL.flat h k)
mutual
theorem Rep.dp : ∀ {v : V} {d : D} {S : List Addr}, Rep K T H v d S → d.dat = true → Dp K H v d.py
  | _, _, _, .non, _ => .non
  | _, _, _, .bl b, _ => .bl b
  | _, _, _, .int i, _ => .int i
  | _, _, _, .str x, _ => .str x
  | _, _, _, .tup h r, e => .tup h.sqT (RepL.dp r (by simpa [D.dat] using e))
  | _, _, _, .own h n r, e => .lst (.inl (.inl h)) (RepL.dp r (by simpa [D.dat] using e))
  | _, _, _, .fro h r _, e => .lst (.inl (.inr ⟨_, h⟩)) (RepL.dp r (by simpa [D.dat] using e))
  | _, _, _, .bor h n r, e => .lst (.inl h) (RepL.dp r (by simpa [D.dat] using e))
  | _, _, _, .scr h r _, e => by simp [D.dat] at e
  | _, _, _, .sref h, e => by simp [D.dat] at e
theorem RepL.dp : ∀ {vs : List V} {ds : List D} {S : List Addr}, RepL K T H vs ds S → datL ds = true → DpAll K H vs (pyL ds)
  | _, _, _, .nil, _ => .nil
  | _, _, _, .cons r t, h => by
    simp only [datL, Bool.and_eq_true] at h
    exact .cons (Rep.dp r h.1) (RepL.dp t h.2)
end
end
mutual
theorem dat_lay : ∀ d : D, d.dat = true → d.py.canLay0 = true
  | .non, _ => rfl
  | .bl _, _ => rfl
  | .int _, _ => rfl
  | .str s, h => by simpa [D.dat, D.py, PyData.canLay0] using h
  | .tup ds, h => by
    have := datL_lay ds (by simpa [D.dat] using h)
    simpa [D.py, PyData.canLay0] using this
  | .lst m ds, h => by
    have := datL_lay ds (by simp only [D.dat, Bool.and_eq_true] at h; exact h.2)
    simpa [D.py, PyData.canLay0] using this
  | .sref _, h => by simp [D.dat] at h
theorem datL_lay : ∀ ds : List D, datL ds = true → PyData.canLayAll0 (pyL ds) = true
  | [], _ => rfl
  | d :: ds, h => by
    simp only [datL, Bool.and_eq_true] at h
    simp only [pyL, PyData.canLayAll0, Bool.and_eq_true]
    exact ⟨dat_lay d h.1, datL_lay ds h.2⟩
end
theorem shaped_of {d : D} (h : d.dat = true) (h2 : d.py.depth ≤ 64) : SeqAt.shaped d.py = true := by
  unfold SeqAt.shaped
  rw [dat_lay d h, decide_eq_true h2]
  rfl
end PL
namespace PL
open PySem PySem.Spec PyProof.Rows L2

/-! ### the shared lists -/
structure SOk (K : PySem.W.Frag) (T : Ts) (H : Hp) (st : Store) : Prop where
  nd : T.sh.Nodup
  len : T.sh.length = st.length
  at_ : ∀ (n : Nat) (a : Addr) (ds : List D), T.sh[n]? = some a → st[n]? = some ds → ∃ xs, H a = some (.lst xs) ∧ RepL K T H xs ds [] ∧ keepL ds = true
  hid : ∀ a ∈ T.hid, ∃ xs, H a = some (.lst xs)
section
variable {K : PySem.W.Frag} {T : Ts} {H H' H1 : Hp} {st st1 : Store}
theorem SOk.get (s : SOk K T H st) {a : Addr} (h : ¬ T.no a) : ∃ xs, H a = some (.lst xs) := by
  by_cases hm : a ∈ T.sh
  · obtain ⟨n, hn, e⟩ := List.getElem_of_mem hm
    have h2 : n < st.length := by rw [← s.len]; exact hn
    have h1 : T.sh[n]? = some a := by rw [List.getElem?_eq_getElem hn, e]
    obtain ⟨xs, h3, h4⟩ := s.at_ n a st[n] h1 (List.getElem?_eq_getElem h2)
    exact ⟨xs, h3⟩
  · by_cases h2 : a ∈ T.hid
    · exact s.hid a h2
    · exact absurd ⟨hm, h2⟩ h
theorem SOk.same (s : SOk K T H st) (e : Same H H') : SOk K T H' st := ⟨s.nd, s.len, fun n a ds h1 h2 => by
  obtain ⟨xs, h3, h4, h5⟩ := s.at_ n a ds h1 h2
  exact ⟨xs, e _ _ h3, RepL.ext (Ext.of_same e) h4, h5⟩, fun a h => let ⟨xs, q⟩ := s.hid a h; ⟨xs, e _ _ q⟩⟩
/-- what is free was free -/
theorem free_back (e : Ext T H H1) (s : SOk K T H1 st1) {a : Addr} (h : H1 a = none) : H a = none := by
  cases q : H a with
  | none => rfl
  | some o =>
    by_cases ht : a ∈ T.sh
    · obtain ⟨xs, h3⟩ := s.get (fun n => n.1 ht)
      rw [h3] at h; cases h
    · have := e a o q (.inl ht)
      rw [this] at h; cases h
end
theorem SOk.fresh {K : PySem.W.Frag} {T : Ts} {H : Hp} {st : Store} (s : SOk K T H st) {p : Addr} (h : H p = none) : T.no p := by
  by_cases ht : T.no p
  · exact ht
  · obtain ⟨xs, h3⟩ := s.get ht
    rw [h3] at h; cases h
/-- new addresses -/
def Fr (H : Hp) (S : List Addr) : Prop := S.Nodup ∧ ∀ a ∈ S, H a = none
theorem Fr.nil (H : Hp) : Fr H [] := ⟨List.nodup_nil, fun _ h => nomatch h⟩
theorem Fr.sub {H : Hp} {S S' : List Addr} (f : Fr H S) (h : S'.Sublist S) : Fr H S' := ⟨f.1.sublist h, fun a m => f.2 a (h.subset m)⟩
theorem Fr.back {K : PySem.W.Frag} {T : Ts} {H H1 : Hp} {st1 : Store} {S : List Addr} (f : Fr H1 S) (e : Ext T H H1) (s : SOk K T H1 st1) : Fr H S := ⟨f.1, fun a m => free_back e s (f.2 a m)⟩
theorem Fr.app {K : PySem.W.Frag} {T : Ts} {H H1 : Hp} {st1 : Store} {S S1 : List Addr} (f1 : Fr H S1) (e : Ext T H H1) (s : SOk K T H1 st1) (d1 : ∀ a ∈ S1, ∃ xs, H1 a = some (.lst xs)) (f : Fr H1 S) : Fr H (S1 ++ S) :=
  ⟨List.nodup_append.mpr ⟨f1.1, f.1, fun a m b mb z => by subst z; obtain ⟨xs, q⟩ := d1 _ m; rw [f.2 _ mb] at q; cases q⟩, fun a m => (List.mem_append.mp m).elim (f1.2 a) ((f.back e s).2 a)⟩

/-! ### wishes -/
/-- an exception's own dict -/
def XnOk (K : PySem.W.Frag) (T : Ts) (H : Hp) (dx : Addr) (nm : Str) (p : D) : Prop :=
  ∃ v fs, H dx = some (.xd fs) ∧ fs.lookup (Str.ofString "place") = some v ∧ Rep K T H v p [] ∧ fs.lookup (Str.ofString "name") = some (V.str nm)
/-- classes of exceptions: address and name -/
abbrev Cls_ := Nat → Addr × Str
def Wish {α : Type} (K : PySem.W.Frag) (ca : Cls_) (W : WX) (T : Ts) (H : Hp) (σ : L2.St) (r : Res α) (okQ : α → Store → Prop) : Prop := match r with
  | .ok a st' => okQ a st'
  | .exn c p st' => ∀ H' dx, Ext T H H' → SOk K T H' st' → H dx = none → XnOk K T H' dx (ca c).2 p → W (.ref (ca c).1) (some dx) σ H'
  | .err => False
section
variable {K : PySem.W.Frag} {ca : Cls_} {W : WX} {T : Ts} {H H1 H2 : Hp} {σ : L2.St} {st st1 : Store} {α β : Type}
theorem Wish.imp {r : Res α} {Q R : α → Store → Prop} (w : Wish K ca W T H σ r Q) (h : ∀ a st', r = .ok a st' → Q a st' → R a st') : Wish K ca W T H σ r R := by
  cases r with
  | ok a st' => exact h a st' rfl w
  | exn c p st' => exact w
  | err => exact w
theorem Wish.bind {m : M α} {k : α → M β} {Q : β → Store → Prop} {R : α → Store → Prop} (w : Wish K ca W T H σ (M.bind m k st) Q) (h : ∀ a st1, m st = .ok a st1 → Wish K ca W T H σ (k a st1) Q → R a st1) : Wish K ca W T H σ (m st) R := by
  unfold M.bind at w
  cases hm : m st with
  | ok a st1 => rw [hm] at w; exact h a st1 hm w
  | exn c p st1 => rw [hm] at w; exact w
  | err => rw [hm] at w; exact w
theorem Wish.ext {r : Res α} {Q : α → Store → Prop} (e : Ext T H H1) (s : SOk K T H1 st1) (w : Wish K ca W T H σ r Q) : Wish K ca W T H1 σ r Q := by
  cases r with
  | ok a st' => exact w
  | exn c p st' => exact fun H' dx e' s' hd x => w H' dx (e.trans e') s' (free_back e s hd) x
  | err => exact w
theorem Wish.opt {o : Option α} {Q : α → Store → Prop} (w : Wish K ca W T H σ (M.ofOpt o st) Q) : ∃ a, o = some a ∧ Q a st := by
  cases o with
  | some a => exact ⟨a, rfl, w⟩
  | none => exact w.elim
end

/-! ### readings -/
/-- the names' values, lent -/
structure EB (K : PySem.W.Frag) (T : Ts) (H : Hp) (σ : L2.St) (env : Env) : Prop where
  len : env.length = σ.length
  get : ∀ (i : Nat) (d : D), env[i]? = some (some d) → ∃ v, σ[i]? = some (some v) ∧ Rep K T H v d.bw []
theorem EB.ext {K : PySem.W.Frag} {T : Ts} {H H1 : Hp} {σ : L2.St} {env : Env} (b : EB K T H σ env) (e : Ext T H H1) : EB K T H1 σ env := ⟨b.len, fun i d h => by
  obtain ⟨v, h1, h2⟩ := b.get i d h
  exact ⟨v, h1, h2.ext e⟩⟩
def TEv (K : PySem.W.Frag) (ca : Cls_) (W : WX) (f : Env → M D) : TE := fun σ H Q => ∃ T env st, EB K T H σ env ∧ SOk K T H st ∧
  Wish K ca W T H σ (f env st) fun d st' => ∀ v H' S, Ext T H H' → SOk K T H' st' → Rep K T H' v d S → Fr H S → Q v H'
def TTv (K : PySem.W.Frag) (ca : Cls_) (W : WX) (f : Env → M Bool) : TT := fun σ H Q => ∃ T env st, EB K T H σ env ∧ SOk K T H st ∧
  Wish K ca W T H σ (f env st) fun b st' => ∀ H', Ext T H H' → SOk K T H' st' → Q b H'
def TAv (K : PySem.W.Frag) (ca : Cls_) (W : WX) (f : Env → M (List D)) : TA := fun σ H Q => ∃ T env st, EB K T H σ env ∧ SOk K T H st ∧
  Wish K ca W T H σ (f env st) fun ds st' => ∀ vs H' S, Ext T H H' → SOk K T H' st' → RepL K T H' vs ds S → Fr H S → Q vs H'

theorem PE.mono {X : Cx} {e : Expr} {t t' : TE} (h : PE X e t) (hm : ∀ σ H Q, t' σ H Q → t σ H Q) : PE X e t' := ⟨fun pins s σ H Q I w => h.run pins s σ H Q I (hm σ H Q w)⟩
theorem PT.mono {X : Cx} {e : Expr} {t t' : TT} (h : PT X e t) (hm : ∀ σ H Q, t' σ H Q → t σ H Q) : PT X e t' := ⟨fun pins s σ H Q I w => h.run pins s σ H Q I (hm σ H Q w)⟩
theorem PW.mono {X : Cx} {e : Expr} {t t' : TT} (h : PW X e t) (hm : ∀ σ H Q, t' σ H Q → t σ H Q) : PW X e t' := ⟨fun wh pins s σ H Q I w => h.run wh pins s σ H Q I (hm σ H Q w)⟩
theorem PA.mono {X : Cx} {es : List Expr} {t t' : TA} (h : PA X es t) (hm : ∀ σ H Q, t' σ H Q → t σ H Q) : PA X es t' := ⟨fun pos pins s σ H Q I w => h.run pos pins s σ H Q I (hm σ H Q w)⟩

section
variable {X : Cx} {ca : Cls_} {W : WX} {pos : Pos}
theorem sv_var {i : Nat} {x : Str} (hN : X.N[i]? = some x) (hv : Vis X.env.scope x) (hd : (x == ("__debug__" : Str)) = false) (hcd : (x == ("__classdict__" : Str)) = false) :
    PE X (.Name x pos) (TEv X.K ca W fun env => match env[i]? with | some (some d) => M.pure d.bw | _ => M.fail) := by
  refine PE.mono (pe_var hN hv hd hcd) fun σ H Q ⟨T, env, st, eb, so, w⟩ => ?_
  dsimp only at w
  cases he : env[i]? with
  | none => rw [he] at w; exact w.elim
  | some o =>
    cases o with
    | none => rw [he] at w; exact w.elim
    | some d =>
      rw [he] at w
      obtain ⟨v, h1, h2⟩ := eb.get i d he
      exact ⟨v, h1, w v H [] (Ext.refl _ _) so h2 (Fr.nil _)⟩
theorem sv_const {e : Expr} {v : V} {d : D} (h : PE X e (tC v)) (hr : ∀ T H, Rep X.K T H v d []) : PE X e (TEv X.K ca W fun _ => M.pure d) :=
  PE.mono h fun σ H Q ⟨T, env, st, eb, so, w⟩ => w v H [] (Ext.refl _ _) so (hr T H) (Fr.nil _)

/-! operators by values -/
/-- an operator's rule serves f -/
def OpS (K : PySem.W.Frag) (r : R2) (f : D → D → Option D) : Prop := ∀ (T : Ts) (H : Hp) (st : Store) (d e g : D) (v u : V) (S S' : List Addr) (Q : VK), SOk K T H st → Rep K T H v d S → Rep K T H u e S' → f d e = some g →
  (∀ z H' S2 F, Same H H' → Rep K T H' z g S2 → S2.Sublist (F ++ (S ++ S')) → F.Nodup → (∀ a ∈ F, H a = none) → Q z H') → r v u H Q
theorem fr_of {K : PySem.W.Frag} {T : Ts} {H H1 H2 : Hp} {st1 st2 : Store} {S S' S2 F : List Addr} (e1 : Ext T H H1) (s1 : SOk K T H1 st1) (e2 : Ext T H1 H2) (s2 : SOk K T H2 st2) (d1 : ∀ a ∈ S, ∃ xs, H1 a = some (.lst xs)) (d2 : ∀ a ∈ S ++ S', ∃ xs, H2 a = some (.lst xs))
    (f1 : Fr H S) (f2 : Fr H1 S') (hs : S2.Sublist (F ++ (S ++ S'))) (n : F.Nodup) (hF : ∀ a ∈ F, H2 a = none) : Fr H S2 := by
  have f12 : Fr H (S ++ S') := Fr.app f1 e1 s1 d1 f2
  refine Fr.sub ⟨List.nodup_append.mpr ⟨n, f12.1, fun a m b mb z => ?_⟩, fun a m => ?_⟩ hs
  · subst z
    obtain ⟨xs, q⟩ := d2 _ mb
    rw [hF _ m] at q; cases q
  · rcases List.mem_append.mp m with m | m
    · exact free_back (e1.trans e2) s2 (hF a m)
    · exact f12.2 a m
theorem rd_op2 {r : R2} {f : D → D → Option D} {fa fb : Env → M D} {K : PySem.W.Frag} (hf : OpS K r f) {σ : L2.St} {H : Hp} {Q : VK} (w : TEv K ca W (fun env => M.bind (fa env) fun x => M.bind (fb env) fun y => M.ofOpt (f x y)) σ H Q) :
    tOp r (TEv K ca W fa) (TEv K ca W fb) σ H Q := by
  obtain ⟨T, env, st, eb, so, w⟩ := w
  refine ⟨T, env, st, eb, so, w.bind fun d1 st1 h1 w1 v1 H1 S1 e1 s1 r1 f1 => ?_⟩
  refine ⟨T, env, st1, eb.ext e1, s1, (w1.ext e1 s1).bind fun d2 st2 h2 w2 v2 H2 S2 e2 s2 r2 f2 => ?_⟩
  obtain ⟨g, hg, q⟩ := w2.opt
  refine hf T H2 st2 d1 d2 g v1 v2 S1 S2 Q s2 (r1.ext e2) r2 hg fun z H' S3 F sm rz hs hn hF => ?_
  refine q z H' S3 ((e1.trans e2).trans (Ext.of_same sm)) (s2.same sm) rz ?_
  exact fr_of e1 s1 e2 s2 r1.dom (fun a m => (List.mem_append.mp m).elim ((r1.ext e2).dom a) (r2.dom a)) f1 f2 hs hn hF
theorem sv_op2 {e : Expr} {r : R2} {f : D → D → Option D} {fa fb : Env → M D} (hf : OpS X.K r f) (h : PE X e (tOp r (TEv X.K ca W fa) (TEv X.K ca W fb))) :
    PE X e (TEv X.K ca W fun env => M.bind (fa env) fun x => M.bind (fb env) fun y => M.ofOpt (f x y)) := PE.mono h fun _ _ _ w => rd_op2 hf w
/-- results without objects -/
theorem OpS.plain {K : PySem.W.Frag} {r : R2} {f : D → D → Option D} (h : ∀ T H d e g v u S S', Rep K T H v d S → Rep K T H u e S' → f d e = some g → ∃ z, (∀ T H, Rep K T H z g []) ∧ ∀ Q : VK, Q z H → r v u H Q) : OpS K r f :=
  fun T H st d e g v u S S' Q _ rv ru hf q => by
    obtain ⟨z, hz, hr⟩ := h T H d e g v u S S' rv ru hf
    exact hr Q (q z H [] [] (Same.refl H) (hz T H) (List.nil_sublist _) List.nodup_nil fun _ m => nomatch m)
end
end PL
namespace PL
open PySem PySem.Spec PyProof.Rows L2

theorem tuple_mul1 (l : Addr) (items : Array Value) (n : Nat) (dd : Option Addr) (sl : Array (Option Value)) (x : Int) (u : Tok) (c0 : (decide (x < -(2 ^ 63)) || decide (x ≥ 2 ^ 63)) = false) (c1 : (items.isEmpty || x == 1) = true) :
    Meets (Builtin.«tuple.__mul__» ⟨[.ref l, .int x u], []⟩) (fun _ R s => s.heap.get? l = some { cls := .type "tuple", dict := dd, data := .seq items n, slots := sl } ∧
      R (.ok (.ret (Value.ref l))) s) :=
  .of_wp fun prog w A R s h => by
    obtain ⟨hp, g, d, tk, os⟩ := s
    obtain ⟨hl, h⟩ := h
    have f1 := AutoSeq1.idx_int
    wp_walk using wpAny_loadPart' hl
    repeat (first
      | (refine wpAny_ite_false (decide_eq_false (by rw [c0]; exact Bool.false_ne_true)) ?_; wp_walk using wpAny_loadPart' hl)
      | (refine wpAny_ite_true (decide_eq_true c1) ?_; wp_walk using wpAny_loadPart' hl))
    exact ⟨_, rfl, h⟩
theorem tuple_mul0 (l : Addr) (items : Array Value) (n : Nat) (dd : Option Addr) (sl : Array (Option Value)) (x : Int) (u : Tok) (c0 : (decide (x < -(2 ^ 63)) || decide (x ≥ 2 ^ 63)) = false) (c1 : (items.isEmpty || x == 1) = false) (c2 : (decide (x ≤ 0) || items.isEmpty) = true) :
    Meets (Builtin.«tuple.__mul__» ⟨[.ref l, .int x u], []⟩) (fun _ R s => s.heap.get? l = some { cls := .type "tuple", dict := dd, data := .seq items n, slots := sl } ∧
      R (.ok (.ret (Value.ref s.heap.objs.size))) { s with heap := s.heap.push { cls := Value.type "tuple", data := Data.seq #[] }, toks := s.toks }) :=
  .of_wp fun prog w A R s h => by
    obtain ⟨hp, g, d, tk, os⟩ := s
    obtain ⟨hl, h⟩ := h
    have f1 := AutoSeq1.idx_int
    wp_walk using wpAny_loadPart' hl
    repeat (first
      | (refine wpAny_ite_false (decide_eq_false (by rw [c0]; exact Bool.false_ne_true)) ?_; wp_walk using wpAny_loadPart' hl)
      | (refine wpAny_ite_false (decide_eq_false (by rw [c1]; exact Bool.false_ne_true)) ?_; wp_walk using wpAny_loadPart' hl)
      | (refine wpAny_ite_true (decide_eq_true c2) ?_; wp_walk using wpAny_loadPart' hl))
    exact ⟨_, rfl, h⟩
theorem nodup_one (p : Addr) : [p].Nodup := by simp
theorem lim_le {n : Nat} (h : n ≤ LIM) : n ≤ sizeLine := Nat.le_trans h (by rw [sizeLine_eq]; decide)
theorem lim_lt {n : Nat} (h : n ≤ LIM) : n < sizeLine := Nat.lt_of_le_of_lt h (by rw [sizeLine_eq]; decide)
theorem same_upd {H : Hp} {p : Addr} {o : HO} (h : H p = none) : Same H (upd H p o) := fun b x e => by
  rw [upd_ne (ne_of_none e h)]
  exact e
/-- a list held in any way but the script's -/
theorem Rep.rd {K : PySem.W.Frag} {T : Ts} {H : Hp} {v : V} {m : Md} {ds : List D} {S : List Addr} (r : Rep K T H v (.lst m ds) S) (hm : (m != .scr) = true) : ∃ a xs S', v = .ref a ∧ Rd H a (.lst xs) ∧ RepL K T H xs ds S' ∧ S'.Sublist S := by
  cases r with
  | own h n r => exact ⟨_, _, _, rfl, .inl h, r, List.sublist_cons_self _ _⟩
  | fro h r k => exact ⟨_, _, _, rfl, .inr ⟨_, h⟩, r, List.Sublist.refl _⟩
  | bor h n r => exact ⟨_, _, _, rfl, h, r, List.Sublist.refl _⟩
  | scr h r k => simp at hm
theorem Rep.sq {K : PySem.W.Frag} {T : Ts} {H : Hp} {v : V} {m : Md} {ds : List D} {S : List Addr} (r : Rep K T H v (.lst m ds) S) : ∃ a xs S', v = .ref a ∧ SqL K H a xs ∧ RepL K T H xs ds S' ∧ S'.Sublist S := by
  cases r with
  | own h n r => exact ⟨_, _, _, rfl, .inl (.inl h), r, List.sublist_cons_self _ _⟩
  | fro h r k => exact ⟨_, _, _, rfl, .inl (.inr ⟨_, h⟩), r, List.Sublist.refl _⟩
  | bor h n r => exact ⟨_, _, _, rfl, .inl h, r, List.Sublist.refl _⟩
  | scr h r k => exact ⟨_, _, _, rfl, h.sq, r, List.Sublist.refl _⟩

section
variable {X : Cx}
/-! ### lists, read in any way -/
def rCatR : R2 := fun x y H Q => ∃ l b xs zs, x = .ref l ∧ y = .ref b ∧ Rd H l (.lst xs) ∧ Rd H b (.lst zs) ∧ xs.length + zs.length ≤ sizeLine ∧ ∀ p, H p = none → Q (.ref p) (upd H p (.lst (xs ++ zs)))
theorem Inv.rdM {pins : List (Addr × Obj)} {σ : L2.St} {H : Hp} {s : Shared} {l : Addr} {xs : List V} (I : Inv X pins σ H s) (hH : Rd H l (.lst xs)) : xs.length ≤ sizeLine ∧ ∃ (its : List Value) (n : Nat), Vals xs its ∧ xs.length = its.length ∧ s.heap.get? l = some { cls := .type "list", data := .seq its.toArray n } := by
  obtain ⟨z, its, n, r, e⟩ := hH.ok I.hok
  exact ⟨z, its, n, r, r.length, e⟩
theorem op_catR : OpR X (binaryOp .Add) rCatR := by
  intro pins s σ H x y v u Q I rx ry h
  obtain ⟨l, b, xs, zs, rfl, rfl, hH, hB, hz, q⟩ := h
  cases rx
  cases ry
  obtain ⟨z, its, n, r, hl, e⟩ := Inv.rdM I hH
  obtain ⟨z2, its2, n2, r2, hl2, e2⟩ := Inv.rdM I hB
  refine PySem.P.add_list e e2 ?_ (by rw [List.size_toArray, List.size_toArray]; omega)
  have ea : its.toArray ++ its2.toArray = (its ++ its2).toArray := by simp
  rw [ea]
  exact ⟨.ref _, _, I.lnew (t' := s.toks) (r.append r2) (by rw [List.length_append]; omega), rfl, q _ I.fresh⟩
def rRepR : R2 := fun x y H Q => ∃ l k xs, x = .ref l ∧ y = .int k ∧ Rd H l (.lst xs) ∧ -(2 ^ 63) ≤ k ∧ k < 2 ^ 63 ∧ xs.length * k.toNat ≤ sizeLine ∧
  ∀ p, H p = none → Q (.ref p) (upd H p (.lst (List.replicate k.toNat xs).flatten))
theorem op_repR : OpR X (binaryOp .Mult) rRepR := by
  intro pins s σ H x y v u Q I rx ry h
  obtain ⟨l, k, xs, rfl, rfl, hH, h1, h2, hz, q⟩ := h
  cases rx
  obtain ⟨t, rfl⟩ := ry
  obtain ⟨z, its, n, r, hl, e⟩ := Inv.rdM I hH
  have hlen : its.toArray.size * k.toNat ≤ sizeLine := by rw [List.size_toArray, ← hl]; exact hz
  have hcap : ¬ its.toArray.size * k.toNat > (2 ^ 63 - 1) / 8 := by
    have : (sizeLine : Nat) ≤ (2 ^ 63 - 1) / 8 := by decide
    omega
  have hfit : ¬ (!Builtin.List.listFitsIndex k) = true := by
    rw [fitsIndex_both h1 h2]
    exact Bool.false_ne_true
  have hlong : ¬ Builtin.List.listTooLong (its.toArray.size * k.toNat) = true := by
    rw [notLongL hlen]
    exact Bool.false_ne_true
  have hnew : List.foldl (fun x1 x2 => x1 ++ x2) #[] (List.replicate (if its.toArray.isEmpty = true then 0 else k.toNat) its.toArray) = (List.replicate k.toNat its).flatten.toArray := by
    have f0 : ∀ m : Nat, List.foldl (fun x1 x2 => x1 ++ x2) #[] (List.replicate m its.toArray) = (List.replicate m its).flatten.toArray := fun m => by
      have := foldl_rep its m []
      rw [List.nil_append] at this
      exact this
    rw [f0]
    cases its with
    | nil => simp
    | cons a r' => rw [if_neg (by simp)]
  refine wpAny_binaryOp_repeat_ref (T := "list") (U := "int") (by decide) ⟨_, e, rfl⟩ (fun s' => typeIs_int s' k t) noFill_list_mul F.fills_int_mul F.slot_int_rmul repeat_list F.slot_int_index.lookup
    (call_meets F.slot_int_rmul (typeIs_int s k t) F.entry_int_rmul (F.args_int_rmul_2 _ _) (int___rmul___int_list k t l its.toArray n)
      ⟨e, rfl, ⟨_, e, rfl⟩, call_meets F.slot_list_mul ⟨_, e, rfl⟩ F.entry_list_mul (F.args_list_mul_2 _ _) (AutoListH.list___mul___list_int_3 l its.toArray n k t hfit hcap hlong) ⟨e, ?_⟩⟩)
  rw [hnew]
  exact ⟨.ref _, _, I.lnew (t' := s.toks) (r.rep k.toNat) (by rw [PyProof.Rows.lm_len_rep_flat, Nat.mul_comm]; exact hz), rfl, q _ I.fresh⟩
/-- a tuple times an int -/
def rRepA (K : PySem.W.Frag) : R2 := fun x y H Q => ∃ l k xs, x = .ref l ∧ y = .int k ∧ TupR H l xs ∧ -1000 ≤ k ∧ k ≤ 1000 ∧ xs.length ≤ 1000 ∧
  (xs = [] ∨ k = 1 → Q (.ref l) H) ∧ (xs ≠ [] → k ≠ 1 → NT H (List.replicate k.toNat xs).flatten Q)
theorem op_repA : OpR X (binaryOp .Mult) (rRepA X.K) := by
  intro pins s σ H x y v u Q I rx ry h
  obtain ⟨l, k, xs, rfl, rfl, hT, h1, h2, hz, q1, q2⟩ := h
  have hT := hT.sqT (K := X.K)
  cases rx
  obtain ⟨t, rfl⟩ := ry
  obtain ⟨its, r, ⟨⟨cls, dd, data, sl⟩, ho, hc, n, hd⟩, hs⟩ := I.tuple hT
  simp only at hc hd
  subst hc hd
  have hle : its.length = xs.length := r.length.symm
  have c0 : (decide (k < -(2 ^ 63)) || decide (k ≥ 2 ^ 63)) = false := by
    rw [decide_eq_false (by omega), decide_eq_false (by omega)] <;> rfl
  have hem : its.toArray.isEmpty = xs.isEmpty := by
    cases its <;> cases xs <;> first | rfl | (simp at hle; done)
  refine wpAny_binaryOp_repeat_ref (T := "tuple") (U := "int") (by decide) ⟨_, ho, rfl⟩ (fun s' => typeIs_int s' k t) noFill_tuple_mul F.fills_int_mul F.slot_int_rmul repeat_tuple F.slot_int_index.lookup
    (call_meets F.slot_int_rmul (typeIs_int s k t) F.entry_int_rmul (F.args_int_rmul_2 _ _) (int_rmul_tuple k t l its.toArray n dd sl)
      ⟨ho, rfl, ⟨_, ho, rfl⟩, ?_⟩)
  by_cases hq : xs = [] ∨ k = 1
  · refine call_meets F.slot_tuple_mul ⟨_, ho, rfl⟩ F.entry_tuple_mul (F.args_tuple_mul_2 _ _) (tuple_mul1 l its.toArray n dd sl k t c0 ?_) ⟨ho, ?_⟩
    · rw [hem]
      rcases hq with e | e
      · rw [e]; rfl
      · rw [e]; simp
    · exact ⟨.ref l, H, I, rfl, q1 hq⟩
  · have hne : xs ≠ [] := fun e => hq (.inl e)
    have hk1 : k ≠ 1 := fun e => hq (.inr e)
    have hf : xs.isEmpty = false := by cases xs <;> first | rfl | exact absurd rfl hne
    have hsz0 : its.toArray.size = xs.length := by rw [List.size_toArray, hle]
    have flen : (List.replicate k.toNat xs).flatten.length ≤ sizeLine := by
      rw [PyProof.Rows.lm_len_rep_flat, sizeLine_eq]
      have a1 : k.toNat * xs.length ≤ 1000 * 1000 := Nat.mul_le_mul (by omega) hz
      omega
    by_cases hk2 : 2 ≤ k
    · have hm : ((its.toArray.size : Nat) : Int) * k ≤ 1000000 := by
        rw [hsz0]
        have a1 : ((xs.length : Nat) : Int) * k ≤ 1000 * k := Int.mul_le_mul_of_nonneg_right (by omega) (by omega)
        omega
      have c1 : (its.toArray.isEmpty || k == 1) = false := by
        rw [hem, hf, Bool.false_or]
        exact beq_eq_false_iff_ne.mpr (by omega)
      have c2 : (decide (k ≤ 0) || its.toArray.isEmpty) = false := by
        rw [hem, hf, Bool.or_false]
        exact decide_eq_false (by omega)
      have c4 : Builtin.Tuple.tupleTooMany (((its.toArray.size : Nat) : Int) * k) = false := by
        unfold Builtin.Tuple.tupleTooMany
        rw [sizeLine_eq]
        exact decide_eq_false (by omega)
      refine call_meets F.slot_tuple_mul ⟨_, ho, rfl⟩ F.entry_tuple_mul (F.args_tuple_mul_2 _ _) (tuple_mulW l its.toArray n dd sl k t c0 c1 c2 (by omega) c4 (by rw [size_rep, List.size_toArray, PyProof.Rows.lm_len_rep_flat, hle, ← PyProof.Rows.lm_len_rep_flat]; exact flen)) ⟨ho, ?_⟩
      rw [size_rep]
      exact ⟨.ref s.heap.objs.size, _, Inv.tnew (t' := s.toks) I (r.rep k.toNat) flen, rfl, q2 hne hk1 _ _ (I.hok.fresh (Nat.le_refl _)) (tupO_ok _)⟩
    · have hk0 : k ≤ 0 := by omega
      refine call_meets F.slot_tuple_mul ⟨_, ho, rfl⟩ F.entry_tuple_mul (F.args_tuple_mul_2 _ _) (tuple_mul0 l its.toArray n dd sl k t c0 ?_ ?_) ⟨ho, ?_⟩
      · rw [hem, hf]
        simp [hk1]
      · rw [hem, hf]
        simp [hk0]
      · have e0 : k.toNat = 0 := by omega
        have q := q2 hne hk1 s.heap.objs.size (tupO (#[])) I.fresh (tupO_ok _)
        rw [e0] at q
        exact ⟨.ref _, _, Inv.tnew (t' := s.toks) I (us := []) (xs := []) .nil (Nat.zero_le _), rfl, q⟩
/-- // by a divisor of either sign below 2 ^ 9000 -/
theorem op_fdivA : OpR X (binaryOp .FloorDiv) (rI (fun _ j => j ≠ 0 ∧ j.natAbs.log2 < 9000) fun i j => .int (i.fdiv j)) := opI fun i j _ _ _ _ _ hc q =>
  floordiv_int hc.1 q (.inl (PyProof.noPylong_of_log2 hc.2))
theorem mulOk_ok {i j : Int} (h : mulOk i j = true) : IntMulOk i j := by
  simp only [mulOk, Bool.or_eq_true, decide_eq_true_eq] at h
  rcases h with (h | h) | h
  · exact .of_left (intBits_le_64 (by omega) (by omega))
  · exact .of_right (intBits_le_64 (by omega) (by omega))
  · exact CMulW.ok h
theorem op_mulA : OpR X (binaryOp .Mult) (rI (fun i j => mulOk i j = true) fun i j => .int (i * j)) := opI fun _ _ _ _ _ _ _ hc q => mul_int q (mulOk_ok hc)
/-! ### which operator -/
def opOf : Bop → Operator
  | .add => .Add | .sub => .Sub | .mul => .Mult | .fdiv => .FloorDiv | .mod => .Mod | .pow => .Pow | .shl => .LShift | .shr => .RShift | .band => .BitAnd | .bor => .BitOr | .bxor => .BitXor
def rAddStr : R2 := fun x y H Q => ∃ i j, x = .str i ∧ y = .str j ∧ i.length + j.length ≤ sizeLine ∧ Q (.str (i ++ j)) H
def rBop (K : PySem.W.Frag) : Bop → R2
  | .add => fun x y H Q => rI0 (fun i j => .int (i + j)) x y H Q ∨ (rAddStr x y H Q ∨ (rCatN x y H Q ∨ rCatR x y H Q))
  | .sub => rI0 fun i j => .int (i - j)
  | .mul => fun x y H Q => rI (fun i j => mulOk i j = true) (fun i j => .int (i * j)) x y H Q ∨ (rRepR x y H Q ∨ rRepA K x y H Q)
  | .fdiv => rI (fun _ j => j ≠ 0 ∧ j.natAbs.log2 < 9000) fun i j => .int (i.fdiv j)
  | .mod => rI (fun _ j => j ≠ 0) fun i j => .int (i.fmod j)
  | .pow => rI CPow fun i j => .int (i ^ j.toNat)
  | .shl => rI CPow fun i j => .int (i * 2 ^ j.toNat)
  | .shr => rI (fun _ j => 0 ≤ j) fun i j => .int (i / 2 ^ j.toNat)
  | .band => rI0 fun i j => .int (Builtin.bitAnd i j)
  | .bor => rI0 fun i j => .int (Builtin.bitOr i j)
  | .bxor => rI0 fun i j => .int (Builtin.bitXor i j)
theorem op_bop : ∀ op : Bop, OpR X (binaryOp (opOf op)) (rBop X.K op)
  | .add => OpR.or op_add (OpR.or op_add_str (OpR.or op_catN op_catR))
  | .sub => op_sub
  | .mul => OpR.or op_mulA (OpR.or op_repR op_repA)
  | .fdiv => op_fdivA
  | .mod => op_modN
  | .pow => op_pow
  | .shl => op_shl
  | .shr => op_shr
  | .band => op_and
  | .bor => op_or
  | .bxor => op_xor
end
theorem Rep.intI {K : PySem.W.Frag} {T : Ts} {H : Hp} {v : V} {i : Int} {S : List Addr} (r : Rep K T H v (.int i) S) : v = .int i ∧ S = [] := by
  cases r; exact ⟨rfl, rfl⟩
/-- ints -/
theorem ops_int {K : PySem.W.Frag} {op : Bop} {d e g : D} {T : Ts} {H : Hp} {v u : V} {S S' : List Addr} {Q : VK} (rv : Rep K T H v d S) (ru : Rep K T H u e S')
    (q : ∀ z H' S2 F, Same H H' → Rep K T H' z g S2 → S2.Sublist (F ++ (S ++ S')) → F.Nodup → (∀ a ∈ F, H a = none) → Q z H') {i j k : Int} (hd : d = .int i) (he : e = .int j) (hg : g = .int k) :
    v = .int i ∧ u = .int j ∧ Q (.int k) H := by
  subst hd; subst he; subst hg
  obtain ⟨rfl, _⟩ := rv.intI
  obtain ⟨rfl, _⟩ := ru.intI
  exact ⟨rfl, rfl, q (.int k) H [] [] (Same.refl H) (.int k) (List.nil_sublist _) List.nodup_nil fun _ m => nomatch m⟩
theorem powOk_c {i j : Int} (h : powOk i j = true) : CPow i j := by
  simp only [powOk, Bool.and_eq_true, decide_eq_true_eq] at h
  exact ⟨h.1.1, h.1.2, h.2⟩
theorem ops_bop (K : PySem.W.Frag) (op : Bop) : OpS K (rBop K op) (binD op) := by
  intro T H st d e g v u S S' Q so rv ru hf q
  cases d with
  | int i =>
    cases e with
    | int j =>
      cases op <;> simp only [binD] at hf
      · obtain ⟨h1, h2, h3⟩ := ops_int (op := .add) rv ru q rfl rfl (Option.some.inj hf).symm
        exact .inl ⟨i, j, h1, h2, h3⟩
      · obtain ⟨h1, h2, h3⟩ := ops_int (op := .sub) rv ru q rfl rfl (Option.some.inj hf).symm
        exact ⟨i, j, h1, h2, h3⟩
      · split at hf
        · rename_i hc
          obtain ⟨h1, h2, h3⟩ := ops_int (op := .mul) rv ru q rfl rfl (Option.some.inj hf).symm
          exact .inl ⟨i, j, h1, h2, hc, h3⟩
        · cases hf
      · split at hf
        · rename_i hc
          obtain ⟨h1, h2, h3⟩ := ops_int (op := .fdiv) rv ru q rfl rfl (Option.some.inj hf).symm
          simp only [divOk, Bool.and_eq_true, decide_eq_true_eq] at hc
          exact ⟨i, j, h1, h2, hc, h3⟩
        · cases hf
      · split at hf
        · rename_i hc
          obtain ⟨h1, h2, h3⟩ := ops_int (op := .mod) rv ru q rfl rfl (Option.some.inj hf).symm
          exact ⟨i, j, h1, h2, of_decide_eq_true hc, h3⟩
        · cases hf
      · split at hf
        · rename_i hc
          obtain ⟨h1, h2, h3⟩ := ops_int (op := .pow) rv ru q rfl rfl (Option.some.inj hf).symm
          exact ⟨i, j, h1, h2, powOk_c hc, h3⟩
        · cases hf
      · split at hf
        · rename_i hc
          obtain ⟨h1, h2, h3⟩ := ops_int (op := .shl) rv ru q rfl rfl (Option.some.inj hf).symm
          exact ⟨i, j, h1, h2, powOk_c hc, h3⟩
        · cases hf
      · split at hf
        · rename_i hc
          obtain ⟨h1, h2, h3⟩ := ops_int (op := .shr) rv ru q rfl rfl (Option.some.inj hf).symm
          exact ⟨i, j, h1, h2, of_decide_eq_true hc, h3⟩
        · cases hf
      · obtain ⟨h1, h2, h3⟩ := ops_int (op := .band) rv ru q rfl rfl (Option.some.inj hf).symm
        exact ⟨i, j, h1, h2, h3⟩
      · obtain ⟨h1, h2, h3⟩ := ops_int (op := .bor) rv ru q rfl rfl (Option.some.inj hf).symm
        exact ⟨i, j, h1, h2, h3⟩
      · obtain ⟨h1, h2, h3⟩ := ops_int (op := .bxor) rv ru q rfl rfl (Option.some.inj hf).symm
        exact ⟨i, j, h1, h2, h3⟩
    | _ => cases op <;> simp [binD] at hf
  | str x =>
    cases e with
    | str y =>
      cases op <;> simp only [binD] at hf <;> first | (cases hf; done) | skip
      split at hf
      · rename_i hc
        cases rv
        cases ru
        cases hf
        exact .inr (.inl ⟨x, y, rfl, rfl, lim_le hc, q _ H [] [] (Same.refl H) (.str _) (List.nil_sublist _) List.nodup_nil fun _ m => nomatch m⟩)
      · cases hf
    | _ => cases op <;> simp [binD] at hf
  | tup xs =>
    cases e with
    | tup ys =>
      cases op <;> simp only [binD] at hf <;> first | (cases hf; done) | skip
      split at hf
      · rename_i hc
        cases hf
        cases rv with
        | @tup a vs _ _ h1 r1 =>
          cases ru with
          | @tup b us _ _ h2 r2 =>
            have l1 := r1.length
            have l2 := r2.length
            refine .inr (.inr (.inl ⟨a, b, vs, us, rfl, rfl, h1, h2, lim_le (by omega), fun e => ?_, fun _ e => ?_, fun _ _ p o hp to => ?_⟩))
            · subst e
              cases r1
              exact q _ H S' [] (Same.refl H) (.tup h2 r2) (List.Sublist.refl _) List.nodup_nil fun _ m => nomatch m
            · subst e
              cases r2
              refine q _ H S [] (Same.refl H) (.tup h1 (by simpa using r1)) (by simp) List.nodup_nil fun _ m => nomatch m
            · refine q _ _ (S ++ S') [] (same_upd hp) (.tup (tupR_upd to) (RepL.ext (Ext.of_same (same_upd hp)) (RepL.append r1 r2))) (List.Sublist.refl _) List.nodup_nil fun _ m => nomatch m
      · cases hf
    | int k =>
      cases op <;> simp only [binD] at hf <;> first | (cases hf; done) | skip
      split at hf
      · rename_i hc
        simp only [Bool.and_eq_true, decide_eq_true_eq] at hc
        cases hf
        obtain ⟨rfl, rfl⟩ := ru.intI
        cases rv with
        | @tup a vs _ _ h1 r1 =>
          have e1 := r1.noOwn hc.1.1.1
          subst e1
          have l1 := r1.length
          refine .inr (.inr ⟨a, k, vs, rfl, rfl, h1, hc.1.2, hc.2, by omega, fun e => ?_, fun _ _ p o hp to => ?_⟩)
          · refine q _ H [] [] (Same.refl H) (.tup h1 ?_) (List.nil_sublist _) List.nodup_nil fun _ m => nomatch m
            have r2 := r1.flat k.toNat
            rcases e with e | e
            · subst e
              cases r1
              rw [show (List.replicate k.toNat ([] : List V)).flatten = [] from List.flatten_replicate_nil] at r2
              exact r2
            · subst e
              have z : (List.replicate (Int.toNat 1) xs).flatten = xs := by simp
              rw [z]
              exact r1
          · exact q _ _ [] [] (same_upd hp) (.tup (tupR_upd to) (RepL.ext (Ext.of_same (same_upd hp)) (r1.flat k.toNat))) (List.nil_sublist _) List.nodup_nil fun _ m => nomatch m
      · cases hf
    | _ => cases op <;> simp [binD] at hf
  | lst m xs =>
    cases e with
    | lst m' ys =>
      cases op <;> simp only [binD] at hf <;> first | (cases hf; done) | skip
      split at hf
      · rename_i hc
        simp only [Bool.and_eq_true, decide_eq_true_eq] at hc
        cases hf
        obtain ⟨a, vs, S1, rfl, h1, r1, s1⟩ := rv.rd hc.1.1
        obtain ⟨b, us, S2, rfl, h2, r2, s2⟩ := ru.rd hc.1.2
        have l1 := r1.length
        have l2 := r2.length
        refine .inr (.inr (.inr ⟨a, b, vs, us, rfl, rfl, h1, h2, lim_le (by omega), fun p hp => ?_⟩))
        refine q _ _ (p :: (S1 ++ S2)) [p] (same_upd hp) (.own upd_same ?_ (RepL.ext (Ext.of_same (same_upd hp)) (RepL.append r1 r2))) (List.Sublist.cons_cons _ (s1.append s2)) (nodup_one p) fun b m => by
          rw [List.mem_singleton.mp m]; exact hp
        exact so.fresh hp
      · cases hf
    | int k =>
      cases op <;> simp only [binD] at hf <;> first | (cases hf; done) | skip
      split at hf
      · rename_i hc
        simp only [Bool.and_eq_true, decide_eq_true_eq] at hc
        cases hf
        obtain ⟨a, vs, S1, rfl, h1, r1, s1⟩ := rv.rd hc.1.1.1.1
        obtain ⟨rfl, rfl⟩ := ru.intI
        have e1 := r1.noOwn hc.1.1.1.2
        subst e1
        have l1 := r1.length
        have hz : vs.length * k.toNat ≤ LIM := by
          have : vs.length * k.toNat ≤ 1000 * 1000 := Nat.mul_le_mul (by omega) (by omega)
          exact this
        refine .inr (.inl ⟨a, k, vs, rfl, rfl, h1, by omega, by omega, lim_le hz, fun p hp => ?_⟩)
        refine q _ _ [p] [p] (same_upd hp) (.own upd_same ?_ (RepL.ext (Ext.of_same (same_upd hp)) (r1.flat k.toNat))) (by simp) (nodup_one p) fun b m => by
          rw [List.mem_singleton.mp m]; exact hp
        exact so.fresh hp
      · cases hf
    | _ => cases op <;> simp [binD] at hf
  | _ => cases e <;> cases op <;> simp [binD] at hf
end PL
namespace PL
open PySem PySem.Spec PyProof.Rows L2

/-! ### comparisons -/
def cpOf : Cop → CmpOp
  | .eq => .Eq | .ne => .NotEq | .lt => .Lt | .le => .LtE | .gt => .Gt | .ge => .GtE | .isin => .In | .notin => .NotIn | .is => .Is | .isnot => .IsNot
def rInT (K : PySem.W.Frag) (neg : Bool) : R2 := fun x y H Q => ∃ d ds, Dp K H x d ∧ Dp K H y (.tuple ds) ∧ SeqAt.shaped d = true ∧ SeqAt.shaped (.tuple ds) = true ∧ Q (.bl (if neg then !(ds.any fun z => PyData.eqv z d) else ds.any fun z => PyData.eqv z d)) H
def rInS (neg : Bool) : R2 := fun x y H Q => ∃ i j, x = .str i ∧ y = .str j ∧ Q (.bl (if neg then !(!(Builtin.Str.occurrences j i 0 j.length 1).isEmpty) else (!(Builtin.Str.occurrences j i 0 j.length 1).isEmpty))) H
def rIsA (neg : Bool) : R2 := fun x y H Q => y = .non ∧ Q (.bl (if neg then !decide (x = .non) else decide (x = .non))) H
section
variable {X : Cx}
theorem room_shaped {A : Around} {a d : PyData} (h : SeqAt.shaped d = true) (hu : A.units + 65 < cLine) : A.units + 1 + min a.depth d.depth < cLine := by
  have h1 := SeqAt.depth_of_shaped h
  have h2 : min a.depth d.depth ≤ d.depth := Nat.min_le_right _ _
  omega
theorem op_inT (hu : X.A.units + 65 < cLine) : OpR X (compareOp .In) (rInT X.K false) := by
  intro pins s σ H x y v u Q I rx ry h
  obtain ⟨d, ds, hd, he, sd, se, q⟩ := h
  obtain ⟨as, r1⟩ := Dp.reads I d x v hd rx
  obtain ⟨bs, r2⟩ := Dp.reads I (.tuple ds) y u he ry
  refine SeqAt.in_tuple_reads r2 r1 (SeqAt.canLay_of_shaped se) (SeqAt.canLay_of_shaped sd) ?_ ⟨.bl _, H, I, rfl, q⟩
  have h1 := SeqAt.depth_of_shaped sd
  have h2 : min (PyData.depthAll ds) d.depth ≤ d.depth := Nat.min_le_right _ _
  omega
theorem op_notInT (hu : X.A.units + 65 < cLine) : OpR X (compareOp .NotIn) (rInT X.K true) := by
  intro pins s σ H x y v u Q I rx ry h
  obtain ⟨d, ds, hd, he, sd, se, q⟩ := h
  obtain ⟨as, r1⟩ := Dp.reads I d x v hd rx
  obtain ⟨bs, r2⟩ := Dp.reads I (.tuple ds) y u he ry
  refine SeqAt.notIn_tuple_reads r2 r1 (SeqAt.canLay_of_shaped se) (SeqAt.canLay_of_shaped sd) ?_ ⟨.bl _, H, I, rfl, q⟩
  have h1 := SeqAt.depth_of_shaped sd
  have h2 : min (PyData.depthAll ds) d.depth ≤ d.depth := Nat.min_le_right _ _
  omega
def rCop (K : PySem.W.Frag) : Cop → R2
  | .eq => rEqD K
  | .ne => rNeD K
  | .lt => fun x y H Q => rI0 (fun i j => .bl (decide (i < j))) x y H Q ∨ rLtT K x y H Q
  | .le => rI0 fun i j => .bl (decide (i ≤ j))
  | .gt => rI0 fun i j => .bl (decide (j < i))
  | .ge => rI0 fun i j => .bl (decide (j ≤ i))
  | .isin => fun x y H Q => rInD K x y H Q ∨ (rInT K false x y H Q ∨ rInS false x y H Q)
  | .notin => fun x y H Q => rNotInD K x y H Q ∨ (rInT K true x y H Q ∨ rInS true x y H Q)
  | .is => fun x y H Q => rIsA false x y H Q ∨ rIsB x y H Q
  | .isnot => fun x y H Q => rIsA true x y H Q ∨ rNotB x y H Q
theorem op_cop (hu : X.A.units + 65 < cLine) : ∀ op : Cop, OpR X (compareOp (cpOf op)) (rCop X.K op)
  | .eq => op_eqD (by omega)
  | .ne => op_neD (by omega)
  | .lt => OpR.or op_lt (op_ltT (by omega))
  | .le => op_le
  | .gt => op_gt
  | .ge => op_ge
  | .isin => OpR.or (op_inD hu) (OpR.or (op_inT hu) op_in_str)
  | .notin => OpR.or (op_notInD hu) (OpR.or (op_notInT hu) op_notin_str)
  | .is => OpR.or op_isN op_isBl
  | .isnot => OpR.or op_notN op_notBl
end
theorem eqD_some {d e : D} {b : Bool} (h : eqD d e = some b) : d.dat = true ∧ e.dat = true ∧ SeqAt.shaped d.py = true ∧ SeqAt.shaped e.py = true ∧ PyData.eqv d.py e.py = b := by
  unfold eqD at h
  split at h
  · rename_i c
    simp only [Bool.and_eq_true, decide_eq_true_eq] at c
    obtain ⟨⟨⟨h1, h2⟩, h3⟩, h4⟩ := c
    exact ⟨h1, h2, shaped_of h1 h3, shaped_of h2 h4, Option.some.inj h⟩
  · cases h
theorem intsOf_map : ∀ {ds : List D} {ns : List Int}, intsOf ds = some ns → ds = ns.map D.int
  | [], ns, h => by cases h; rfl
  | .int i :: ds, ns, h => by
    simp only [intsOf] at h
    cases hq : intsOf ds with
    | none => rw [hq] at h; cases h
    | some ms =>
      rw [hq] at h
      cases h
      rw [List.map_cons, ← intsOf_map hq]
  | .non :: _, _, h => by cases h
  | .bl _ :: _, _, h => by cases h
  | .str _ :: _, _, h => by cases h
  | .tup _ :: _, _, h => by cases h
  | .lst _ _ :: _, _, h => by cases h
  | .sref _ :: _, _, h => by cases h
theorem repL_ints {K : PySem.W.Frag} {T : Ts} {H : Hp} : ∀ {ns : List Int} {vs : List V} {S : List Addr}, RepL K T H vs (ns.map D.int) S → vs = ns.map V.int
  | [], _, _, .nil => rfl
  | _ :: ns, _, _, .cons r t => by
    obtain ⟨rfl, _⟩ := r.intI
    rw [List.map_cons, ← repL_ints t]
theorem rep_ints {K : PySem.W.Frag} {T : Ts} {H : Hp} : ∀ ns : List Int, RepL K T H (ns.map V.int) (ns.map D.int) []
  | [] => .nil
  | n :: ns => .cons (S := []) (S' := []) (.int n) (rep_ints ns)
theorem boolsOf_map : ∀ {ds : List D} {bs : List Bool}, boolsOf ds = some bs → ds = bs.map D.bl
  | [], ns, h => by cases h; rfl
  | .bl i :: ds, ns, h => by
    simp only [boolsOf] at h
    cases hq : boolsOf ds with
    | none => rw [hq] at h; cases h
    | some ms =>
      rw [hq] at h
      cases h
      rw [List.map_cons, ← boolsOf_map hq]
  | .non :: _, _, h => by cases h
  | .int _ :: _, _, h => by cases h
  | .str _ :: _, _, h => by cases h
  | .tup _ :: _, _, h => by cases h
  | .lst _ _ :: _, _, h => by cases h
  | .sref _ :: _, _, h => by cases h
theorem repL_bools {K : PySem.W.Frag} {T : Ts} {H : Hp} : ∀ {ns : List Bool} {vs : List V} {S : List Addr}, RepL K T H vs (ns.map D.bl) S → vs = ns.map V.bl
  | [], _, _, .nil => rfl
  | _ :: ns, _, _, .cons r t => by
    cases r
    rw [List.map_cons, ← repL_bools t]
/-- is the answer None -/
theorem Rep.isNon {K : PySem.W.Frag} {T : Ts} {H : Hp} {v : V} {d : D} {S : List Addr} (r : Rep K T H v d S) : decide (v = .non) = (match d with | .non => true | _ => false) := by
  cases r <;> first | rfl | exact decide_eq_true rfl | exact decide_eq_false (fun z => nomatch z)
theorem ops_cop (K : PySem.W.Frag) (op : Cop) : OpS K (rCop K op) (fun d e => (cmpD op d e).map D.bl) := by
  refine OpS.plain fun T H d e g v u S S' rv ru hf => ?_
  obtain ⟨b, hb, rfl⟩ := Option.map_eq_some_iff.mp hf
  refine ⟨.bl b, fun T H => .bl b, fun Q q => ?_⟩
  cases op with
  | eq =>
    obtain ⟨h1, h2, h3, h4, h5⟩ := eqD_some (show eqD d e = some b from hb)
    exact ⟨d.py, e.py, rv.dp h1, ru.dp h2, h3, h4, by rw [h5]; exact q⟩
  | ne =>
    obtain ⟨c, hc, rfl⟩ := Option.map_eq_some_iff.mp (show (eqD d e).map (!·) = some b from hb)
    obtain ⟨h1, h2, h3, h4, h5⟩ := eqD_some hc
    exact ⟨d.py, e.py, rv.dp h1, ru.dp h2, h3, h4, by rw [h5]; exact q⟩
  | lt =>
    cases d with
    | int i =>
      cases e <;> simp only [cmpD] at hb <;> first | (cases hb; done) | skip
      cases hb
      obtain ⟨rfl, _⟩ := rv.intI
      obtain ⟨rfl, _⟩ := ru.intI
      exact .inl ⟨_, _, rfl, rfl, q⟩
    | tup xs =>
      cases e <;> simp only [cmpD] at hb <;> first | (cases hb; done) | skip
      rename_i ys
      cases h1 : intsOf xs with
      | none => rw [h1] at hb; cases hb
      | some a =>
        cases h2 : intsOf ys with
        | none => rw [h1, h2] at hb; cases hb
        | some c =>
          rw [h1, h2] at hb
          cases hb
          have e1 := intsOf_map h1
          have e2 := intsOf_map h2
          subst e1; subst e2
          cases rv with
          | tup p1 r1 =>
            cases ru with
            | tup p2 r2 =>
              rw [repL_ints r1] at p1
              rw [repL_ints r2] at p2
              exact .inr ⟨_, _, a, c, rfl, rfl, p1.sqT, p2.sqT, q⟩
    | _ => cases e <;> simp [cmpD] at hb
  | le =>
    cases d <;> cases e <;> simp only [cmpD] at hb <;> first | (cases hb; done) | skip
    cases hb
    obtain ⟨rfl, _⟩ := rv.intI
    obtain ⟨rfl, _⟩ := ru.intI
    exact ⟨_, _, rfl, rfl, q⟩
  | gt =>
    cases d <;> cases e <;> simp only [cmpD] at hb <;> first | (cases hb; done) | skip
    cases hb
    obtain ⟨rfl, _⟩ := rv.intI
    obtain ⟨rfl, _⟩ := ru.intI
    exact ⟨_, _, rfl, rfl, q⟩
  | ge =>
    cases d <;> cases e <;> simp only [cmpD] at hb <;> first | (cases hb; done) | skip
    cases hb
    obtain ⟨rfl, _⟩ := rv.intI
    obtain ⟨rfl, _⟩ := ru.intI
    exact ⟨_, _, rfl, rfl, q⟩
  | isin =>
    replace hb : inD d e = some b := hb
    cases e <;> simp only [inD] at hb <;> first | (cases hb; done) | skip
    · rename_i y
      cases d <;> first | (cases hb; done) | skip
      cases hb
      cases rv
      cases ru
      exact .inr (.inr ⟨_, _, rfl, rfl, q⟩)
    · rename_i es
      split at hb
      · rename_i c
        simp only [Bool.and_eq_true, decide_eq_true_eq] at c
        cases hb
        exact .inr (.inl ⟨d.py, pyL es, rv.dp c.1.1.1, ru.dp c.1.1.2, shaped_of c.1.1.1 c.1.2, shaped_of c.1.1.2 c.2, q⟩)
      · cases hb
    · rename_i m es
      split at hb
      · rename_i c
        simp only [Bool.and_eq_true, decide_eq_true_eq] at c
        cases hb
        exact .inl ⟨d.py, pyL es, rv.dp c.1.1.1, ru.dp c.1.1.2, shaped_of c.1.1.1 c.1.2, shaped_of c.1.1.2 c.2, q⟩
      · cases hb
  | notin =>
    obtain ⟨b', hb2, rfl⟩ := Option.map_eq_some_iff.mp (show (inD d e).map (!·) = some b from hb)
    clear hb hf
    rename inD d e = some b' => hb
    cases e <;> simp only [inD] at hb <;> first | (cases hb; done) | skip
    · rename_i y
      cases d <;> first | (cases hb; done) | skip
      cases hb
      cases rv
      cases ru
      exact .inr (.inr ⟨_, _, rfl, rfl, q⟩)
    · rename_i es
      split at hb
      · rename_i c
        simp only [Bool.and_eq_true, decide_eq_true_eq] at c
        cases hb
        exact .inr (.inl ⟨d.py, pyL es, rv.dp c.1.1.1, ru.dp c.1.1.2, shaped_of c.1.1.1 c.1.2, shaped_of c.1.1.2 c.2, q⟩)
      · cases hb
    · rename_i m es
      split at hb
      · rename_i c
        simp only [Bool.and_eq_true, decide_eq_true_eq] at c
        cases hb
        exact .inl ⟨d.py, pyL es, rv.dp c.1.1.1, ru.dp c.1.1.2, shaped_of c.1.1.1 c.1.2, shaped_of c.1.1.2 c.2, q⟩
      · cases hb
  | is =>
    cases e with
    | non =>
      cases ru
      refine .inl ⟨rfl, ?_⟩
      show Q (.bl (decide (v = .non))) H
      rw [rv.isNon]
      cases d <;> simp only [cmpD] at hb <;> first | (cases hb; exact q) | (cases hb; done)
    | bl c =>
      cases d <;> simp only [cmpD] at hb <;> first | (cases hb; done) | skip
      cases hb
      cases rv
      cases ru
      exact .inr ⟨_, _, rfl, rfl, q⟩
    | _ => cases d <;> simp [cmpD] at hb
  | isnot =>
    cases e with
    | non =>
      cases ru
      refine .inl ⟨rfl, ?_⟩
      show Q (.bl (!decide (v = .non))) H
      rw [rv.isNon]
      cases d <;> simp only [cmpD] at hb <;> first | (cases hb; exact q) | (cases hb; done)
    | bl c =>
      cases d <;> simp only [cmpD] at hb <;> first | (cases hb; done) | skip
      cases hb
      cases rv
      cases ru
      exact .inr ⟨_, _, rfl, rfl, q⟩
    | _ => cases d <;> simp [cmpD] at hb

/-! ### truth -/
theorem tru_of {K : PySem.W.Frag} {T : Ts} {H : Hp} {v : V} {d : D} {S : List Addr} {b : Bool} (r : Rep K T H v d S) (h : truD d = some b) : TruV K v H b := by
  cases r with
  | non => cases h; exact rfl
  | bl b => cases h; exact rfl
  | int i => cases h; exact rfl
  | str x => cases h
  | tup h1 r1 => cases h; exact .inr (.inl ⟨_, h1.sqT, by rw [r1.none_len]⟩)
  | own h1 n r1 => cases h; exact .inl ⟨_, .inl (.inl h1), by rw [r1.none_len]⟩
  | fro h1 r1 k1 => cases h; exact .inl ⟨_, .inl (.inr ⟨_, h1⟩), by rw [r1.none_len]⟩
  | bor h1 n r1 => cases h; exact .inl ⟨_, .inl h1, by rw [r1.none_len]⟩
  | scr h1 r1 k1 => cases h; exact .inl ⟨_, h1.sq, by rw [r1.none_len]⟩
  | sref h1 => cases h
section
variable {X : Cx} {ca : Cls_} {W : WX} {pos : Pos} {f : Env → M D}
theorem sv_neg {e : Expr} (ho : PE X e (tUn (rU fun i => .int (-i)) (TEv X.K ca W f))) : PE X e (TEv X.K ca W fun env => M.bind (f env) fun x => M.ofOpt (negD x)) := by
  refine PE.mono ho fun σ H Q ⟨T, env, st, eb, so, w⟩ => ?_
  refine ⟨T, env, st, eb, so, w.bind fun d1 st1 h1 w1 v1 H1 S1 e1 s1 r1 f1 => ?_⟩
  obtain ⟨g, hg, q⟩ := w1.opt
  cases d1 <;> simp only [negD] at hg <;> first | (cases hg; done) | skip
  cases hg
  obtain ⟨rfl, _⟩ := r1.intI
  exact ⟨_, rfl, q _ H1 [] e1 s1 (.int _) (Fr.nil _)⟩
/-- an expression's truth as a test -/
theorem st_truth {a : Expr} (ha : PE X a (TEv X.K ca W f)) (he : ∀ whole, isTrue a X.env whole = (do let v ← whole; standAt a.pos; holding [v] (truthy v))) :
    PT X a (TTv X.K ca W fun env => M.bind (f env) fun d => M.ofOpt (truD d)) := by
  refine PT.mono (pt_truth ha he) fun σ H Q ⟨T, env, st, eb, so, w⟩ => ?_
  refine ⟨T, env, st, eb, so, w.bind fun d1 st1 h1 w1 v1 H1 S1 e1 s1 r1 f1 => ?_⟩
  obtain ⟨b, hb, q⟩ := w1.opt
  exact ⟨b, tru_of r1 hb, q H1 e1 s1⟩
/-! ### subscripts -/
theorem atI_idx {α : Type} {xs : List α} {i : Int} {v : α} (h : atI xs i = some v) : ∃ j, ixN xs.length i = some j ∧ xs[j]? = some v := Option.bind_eq_some_iff.mp h
theorem RepL.at {K : PySem.W.Frag} {T : Ts} {H : Hp} {vs : List V} {ds : List D} {S : List Addr} {i : Int} {d : D} (r : RepL K T H vs ds S) (h : atI ds i = some d) : ∃ v S', atI vs i = some v ∧ Rep K T H v d S' ∧ S'.Sublist S := by
  obtain ⟨j, h1, h2⟩ := atI_idx h
  obtain ⟨v, S', h3, h4, h5⟩ := r.get h2
  refine ⟨v, S', ?_, h4, h5⟩
  unfold atI
  rw [r.length, h1]
  exact h3
theorem sv_ix {a b : Expr} {fa fb : Env → M D} (h : PE X (.Subscript a b pos) (tOp (rIx X.K) (TEv X.K ca W fa) (TEv X.K ca W fb))) :
    PE X (.Subscript a b pos) (TEv X.K ca W fun env => M.bind (fa env) fun x => M.bind (fb env) fun y => fun st => M.ofOpt (ixD st x y) st) := by
  refine PE.mono h fun σ H Q ⟨T, env, st, eb, so, w⟩ => ?_
  refine ⟨T, env, st, eb, so, w.bind fun d1 st1 h1 w1 v1 H1 S1 e1 s1 r1 f1 => ?_⟩
  refine ⟨T, env, st1, eb.ext e1, s1, (w1.ext e1 s1).bind fun d2 st2 h2 w2 v2 H2 S2 e2 s2 r2 f2 => ?_⟩
  obtain ⟨g, hg, q⟩ := Wish.opt w2
  have r1' := r1.ext e2
  have e12 := e1.trans e2
  have fin : ∀ z S', Rep X.K T H2 z g S' → S'.Sublist S1 → Q z H2 := fun z S' rz hs => q z H2 S' e12 s2 rz (f1.sub hs)
  cases d2 with
  | int i =>
    obtain ⟨rfl, _⟩ := r2.intI
    cases d1 <;> simp only [ixD] at hg <;> first | (cases hg; done) | skip
    · split at hg
      · rename_i s hl
        obtain ⟨c, hc, rfl⟩ := Option.map_eq_some_iff.mp hg
        cases r1'
        exact .inr (.inr ⟨_, i, c, rfl, rfl, lim_le hl, hc, fin _ [] (.str _) (List.nil_sublist _)⟩)
      · cases hg
    · cases r1' with
      | tup p1 q1 =>
        obtain ⟨v, S3, h3, h4, h5⟩ := q1.at hg
        exact .inr (.inl ⟨_, _, i, v, rfl, rfl, p1.sqT, h3, fin v S3 h4 h5⟩)
    · obtain ⟨p, xs, S', rfl, p1, q1, hS⟩ := r1'.sq
      obtain ⟨v, S3, h3, h4, h5⟩ := q1.at hg
      exact .inl ⟨_, _, i, v, rfl, rfl, p1, h3, fin v S3 h4 (h5.trans hS)⟩
    · rename_i n
      obtain ⟨ds, hds, hg⟩ := Option.bind_eq_some_iff.mp hg
      cases r1' with
      | sref hn =>
        obtain ⟨xs, p1, q1, _⟩ := s2.at_ n _ ds hn hds
        obtain ⟨v, S3, h3, h4, h5⟩ := q1.at hg
        exact .inl ⟨_, _, i, v, rfl, rfl, .inl (.inl p1), h3, fin v S3 h4 (h5.trans (List.nil_sublist _))⟩
  | _ => cases d1 <;> simp [ixD] at hg
/-! ### slices -/
def TOv (K : PySem.W.Frag) (ca : Cls_) (W : WX) (f : Env → M (Option Int)) : TO := fun σ H Q => ∃ T env st, EB K T H σ env ∧ SOk K T H st ∧
  Wish K ca W T H σ (f env st) fun o st' => ∀ H', Ext T H H' → SOk K T H' st' → Q o H'
theorem PO.mono {e : Option Expr} {t t' : TO} (h : PO X e t) (hm : ∀ σ H Q, t' σ H Q → t σ H Q) : PO X e t' := ⟨fun pins s σ H R I w => h.run pins s σ H R I (hm σ H R w)⟩
end
end PL
namespace PL
open PySem PySem.Spec PyProof.Rows L2

/-! ### slices -/
theorem fr_one {K : PySem.W.Frag} {T : Ts} {H H1 : Hp} {st1 : Store} {p : Addr} (e1 : Ext T H H1) (s1 : SOk K T H1 st1) (hp : H1 p = none) : Fr H [p] := ⟨nodup_one p, fun c m => by rw [List.mem_singleton.mp m]; exact free_back e1 s1 hp⟩
section
variable {X : Cx} {ca : Cls_} {W : WX} {pos p2 : Pos}
theorem so_none : PO X none (TOv X.K ca W fun _ => M.pure none) :=
  PO.mono po_none fun σ H Q ⟨T, env, st, eb, so, w⟩ => w H (Ext.refl _ _) so
theorem so_some {e : Expr} {f : Env → M D} (h : PE X e (TEv X.K ca W f)) : PO X (some e) (TOv X.K ca W fun env => M.bind (f env) fun d => match d with | .int i => M.pure (some i) | _ => M.fail) := by
  refine PO.mono (po_some h) fun σ H Q ⟨T, env, st, eb, so, w⟩ => ?_
  refine ⟨T, env, st, eb, so, w.bind fun d1 st1 h1 w1 v1 H1 S1 e1 s1 r1 f1 => ?_⟩
  cases d1 with
  | int i =>
    obtain ⟨rfl, _⟩ := r1.intI
    exact ⟨i, rfl, w1 H1 e1 s1⟩
  | _ => exact w1.elim
def rSlAll (K : PySem.W.Frag) : V → Option Int → Option Int → Hp → VK → Prop := fun x lo hi H Q => rSlL K x lo hi H Q ∨ (rSlN x lo hi H Q ∨ rSlS x lo hi H Q)
theorem sl_all : SlR X (rSlAll X.K) := SlR.or sl_list (SlR.or sl_tupN sl_str)
theorem sv_sl {a : Expr} {lo hi : Option Expr} {f : Env → M D} {fl fh : Env → M (Option Int)} (ha : PE X a (TEv X.K ca W f)) (hl : PO X lo (TOv X.K ca W fl)) (hh : PO X hi (TOv X.K ca W fh)) :
    PE X (.Subscript a (.Slice lo hi none p2) pos) (TEv X.K ca W fun env => M.bind (f env) fun x => M.bind (fl env) fun l => M.bind (fh env) fun h => M.ofOpt (slD l h x)) := by
  refine PE.mono (pe_slice sl_all ha hl hh) fun σ H Q ⟨T, env, st, eb, so, w⟩ => ?_
  refine ⟨T, env, st, eb, so, w.bind fun d1 st1 h1 w1 v1 H1 S1 e1 s1 r1 f1 => ?_⟩
  refine ⟨T, env, st1, eb.ext e1, s1, (w1.ext e1 s1).bind fun l st2 h2 w2 H2 e2 s2 => ?_⟩
  refine ⟨T, env, st2, (eb.ext e1).ext e2, s2, (w2.ext e2 s2).bind fun h st3 h3 w3 H3 e3 s3 => ?_⟩
  obtain ⟨g, hg, q⟩ := w3.opt
  have e13 := (e1.trans e2).trans e3
  have r3 := (r1.ext e2).ext e3
  cases d1 <;> simp only [slD] at hg <;> first | (cases hg; done) | skip
  · split at hg
    · rename_i hz
      cases hg
      cases r3
      exact .inr (.inr ⟨_, rfl, lim_le hz, q _ H3 [] e13 s3 (.str _) (Fr.nil _)⟩)
    · cases hg
  · rename_i ds
    cases hg
    cases r3 with
    | tup p1 q1 =>
      rename_i xs
      have q2 := q1.bw
      have hlen := q2.length
      have hcut : ∀ H', Ext T H3 H' → RepL X.K T H' (cutV xs l h) (cutD (bwL ds) l h) [] := fun H' e => by
        unfold cutV cutD
        rw [hlen]
        exact RepL.ext e ((q2.drop _).take _)
      refine .inr (.inl ⟨_, xs, rfl, p1, fun ⟨z1, z2⟩ => ?_, fun _ p o hp to => ?_⟩)
      · refine q _ H3 [] e13 s3 (.tup p1 ?_) (Fr.nil _)
        unfold cutD
        rw [← hlen, z1, z2, List.drop_zero, Nat.sub_zero, hlen, List.take_length]
        exact q2
      · exact q _ _ [] (e13.trans (Ext.of_same (same_upd hp))) (s3.same (same_upd hp)) (.tup (tupR_upd to) (hcut _ (Ext.of_same (same_upd hp)))) (Fr.nil _)
  · rename_i m ds
    cases hg
    obtain ⟨p, xs, S', rfl, p1, q1, _⟩ := r3.sq
    have q2 := q1.bw
    have hlen := q2.length
    refine .inl ⟨p, xs, rfl, p1, fun b hb => ?_⟩
    have hcut : RepL X.K T (upd H3 b (.lst (cutV xs l h))) (cutV xs l h) (cutD (bwL ds) l h) [] := by
      unfold cutV cutD
      rw [hlen]
      exact RepL.ext (Ext.of_same (same_upd hb)) ((q2.drop _).take _)
    exact q _ _ [b] (e13.trans (Ext.of_same (same_upd hb))) (s3.same (same_upd hb)) (.own upd_same (s3.fresh hb) hcut) (fr_one e13 s3 hb)

/-! ### arguments, displays -/
theorem sa_nil : PA X [] (TAv X.K ca W fun _ => M.pure []) :=
  PA.mono pa_nil fun σ H Q ⟨T, env, st, eb, so, w⟩ => w [] H [] (Ext.refl _ _) so .nil (Fr.nil _)
theorem sa_cons {e : Expr} {es : List Expr} {f : Env → M D} {g : Env → M (List D)} (h1 : PE X e (TEv X.K ca W f)) (h2 : PA X es (TAv X.K ca W g)) (hs : starEach (e :: es) X.env = (false, eval e X.env) :: starEach es X.env) :
    PA X (e :: es) (TAv X.K ca W fun env => M.bind (f env) fun d => M.bind (g env) fun ds => M.pure (d :: ds)) := by
  refine PA.mono (pa_cons h1 h2 hs) fun σ H Q ⟨T, env, st, eb, so, w⟩ => ?_
  refine ⟨T, env, st, eb, so, w.bind fun d1 st1 h1 w1 v1 H1 S1 e1 s1 r1 f1 => ?_⟩
  refine ⟨T, env, st1, eb.ext e1, s1, (w1.ext e1 s1).bind fun ds st2 h2 w2 vs H2 S2 e2 s2 r2 f2 => ?_⟩
  exact w2 (v1 :: vs) H2 (S1 ++ S2) (e1.trans e2) s2 (.cons (r1.ext e2) r2) (Fr.app f1 e1 s1 r1.dom f2)
theorem sv_tup {es : List Expr} {k : Nat} {g : Env → M (List D)} (hl : ∀ env st ds st', g env st = .ok ds st' → ds.length ≤ LIM) (h : PA X es (TAv X.K ca W g)) :
    PE X (.Tuple es k pos) (TEv X.K ca W fun env => M.bind (g env) fun ds => M.pure (.tup ds)) := by
  refine PE.mono (pe_tupN h) fun σ H Q ⟨T, env, st, eb, so, w⟩ => ?_
  refine ⟨T, env, st, eb, so, w.bind fun ds st1 h1 w1 vs H1 S1 e1 s1 r1 f1 => ⟨?_, fun p o hp to => ?_⟩⟩
  · rw [r1.length]
    exact lim_le (hl _ _ _ _ h1)
  · exact w1 _ _ S1 (e1.trans (Ext.of_same (same_upd hp))) (s1.same (same_upd hp)) (.tup (tupR_upd to) (RepL.ext (Ext.of_same (same_upd hp)) r1)) f1
theorem fr_cons {K : PySem.W.Frag} {T : Ts} {H H1 : Hp} {st1 : Store} {S1 : List Addr} {p : Addr} (f1 : Fr H S1) (e1 : Ext T H H1) (s1 : SOk K T H1 st1) (d : ∀ a ∈ S1, ∃ xs, H1 a = some (.lst xs)) (hp : H1 p = none) : Fr H (p :: S1) :=
  ⟨List.nodup_cons.mpr ⟨fun m => (by obtain ⟨xs, q⟩ := d p m; rw [hp] at q; cases q), f1.1⟩, fun a m => by
    rcases List.mem_cons.mp m with e | m
    · rw [e]; exact free_back e1 s1 hp
    · exact f1.2 a m⟩
theorem sv_lst {es : List Expr} {g : Env → M (List D)} (hl : ∀ env st ds st', g env st = .ok ds st' → ds.length ≤ LIM) (h : PA X es (TAv X.K ca W g)) :
    PE X (.List es pos) (TEv X.K ca W fun env => M.bind (g env) fun ds => M.pure (.lst .own ds)) := by
  refine PE.mono (pe_lst h) fun σ H Q ⟨T, env, st, eb, so, w⟩ => ?_
  refine ⟨T, env, st, eb, so, w.bind fun ds st1 h1 w1 vs H1 S1 e1 s1 r1 f1 => ⟨?_, fun p hp => ?_⟩⟩
  · rw [r1.length]
    exact lim_le (hl _ _ _ _ h1)
  · exact w1 _ _ (p :: S1) (e1.trans (Ext.of_same (same_upd hp))) (s1.same (same_upd hp)) (.own upd_same (s1.fresh hp) (RepL.ext (Ext.of_same (same_upd hp)) r1)) (fr_cons f1 e1 s1 r1.dom hp)

/-! ### built-in functions by values -/
def CallS (K : PySem.W.Frag) (r : List V → Hp → VK → Prop) (f : List D → Option D) : Prop := ∀ (T : Ts) (H : Hp) (st : Store) (ds : List D) (g : D) (vs : List V) (S : List Addr) (Q : VK), SOk K T H st → RepL K T H vs ds S → f ds = some g →
  (∀ z H' S2 F, Same H H' → Rep K T H' z g S2 → S2.Sublist (F ++ S) → F.Nodup → (∀ a ∈ F, H a = none) → Q z H') → r vs H Q
theorem sv_callS {e : Expr} {r : List V → Hp → VK → Prop} {f : List D → Option D} {g : Env → M (List D)} (hf : CallS X.K r f) (h : PE X e (tCB r (TAv X.K ca W g))) :
    PE X e (TEv X.K ca W fun env => M.bind (g env) fun ds => M.ofOpt (f ds)) := by
  refine PE.mono h fun σ H Q ⟨T, env, st, eb, so, w⟩ => ?_
  refine ⟨T, env, st, eb, so, w.bind fun ds st1 h1 w1 vs H1 S1 e1 s1 r1 f1 => ?_⟩
  obtain ⟨d, hd, q⟩ := w1.opt
  refine hf T H1 st1 ds d vs S1 Q s1 r1 hd fun z H' S2 F sm rz hs hn hF => ?_
  refine q z H' S2 (e1.trans (Ext.of_same sm)) (s1.same sm) rz (Fr.sub ⟨List.nodup_append.mpr ⟨hn, f1.1, fun a m b mb z => ?_⟩, fun a m => ?_⟩ hs)
  · subst z
    obtain ⟨xs, q⟩ := r1.dom _ mb
    rw [hF _ m] at q; cases q
  · rcases List.mem_append.mp m with m | m
    · exact free_back e1 s1 (hF a m)
    · exact f1.2 a m
end
/-- sum(t) of a tuple of ints -/
def rSumT : List V → Hp → VK → Prop := fun vs H Q => ∃ (a : Addr) (ns : List Int), vs = [V.ref a] ∧ TupR H a (ns.map V.int) ∧ Q (.int ns.sum) H
def rSumN (K : PySem.W.Frag) : List V → Hp → VK → Prop := fun vs H Q => rSum K vs H Q ∨ rSumT vs H Q
theorem cr_sumN {X : Cx} (hc : X.calm = true) : CallR X (.builtin "sum") (rSumN X.K) := by
  intro pins s σ H vs us Q I r h
  rcases h with h | ⟨a, ns, rfl, hs, q⟩
  · exact cr_sum hc pins s σ H vs us Q I r h
  · obtain ⟨its, rv, hl, _⟩ := I.tuple (hs.sqT (K := X.K))
    rw [Vals.ref1 r]
    have hi := rv.ints
    obtain ⟨xs, e⟩ := hi.allInts.items
    have hn : numsOf (intItems xs).toList = ns := by rw [← e]; exact hi.numsOf
    rw [nums_intItems] at hn
    have hl' : s.heap.IsTuple a (intItems xs) := by rw [← e]; exact hl
    refine PySem.W.ktm_sumG (I.ok.hd hc) hl' fun h' tk t' hk => ?_
    rw [preSum_eq, List.take_of_length_le (by simp), hn]
    exact ⟨.int _, H, I.kept hk, ⟨_, rfl⟩, q⟩
def rBi (K : PySem.W.Frag) : Bi → List V → Hp → VK → Prop
  | .abs => fun xs H Q => ∃ i, xs = [.int i] ∧ Q (.int (if i < 0 then -i else i)) H
  | .int => fun xs H Q => (∃ i, xs = [.int i] ∧ Q (.int i) H) ∨ ∃ k, xs = [.bl k] ∧ Q (.int (if k then 1 else 0)) H
  | .len => fun xs H Q => ∃ x n, xs = [x] ∧ LenV K x H n ∧ Q (.int n) H
  | .tuple => fun xs H Q => ∃ p ys, xs = [.ref p] ∧ ((SqL K H p ys ∧ NT H ys Q) ∨ (TupR H p ys ∧ Q (.ref p) H))
  | .list => fun xs H Q => ∃ p ys, xs = [.ref p] ∧ (SqL K H p ys ∨ SqT K H p ys) ∧ ∀ l, H l = none → Q (.ref l) (upd H l (.lst ys))
  | .sum => rSumN K
  | .max => rMax K
  | .min => rMin K
  | .max2 => fun xs H Q => ∃ i j, xs = [.int i, .int j] ∧ Q (.int (if j > i then j else i)) H
  | .min2 => fun xs H Q => ∃ i j, xs = [.int i, .int j] ∧ Q (.int (if j < i then j else i)) H
  | .any => rAny K
  | .all => rAll K
  | .sorted => rSorted K
theorem maxI_ok : ∀ (n : Int) (ns : List Int), maxI (n :: ns) ∈ n :: ns ∧ ∀ y ∈ n :: ns, y ≤ maxI (n :: ns)
  | n, [] => ⟨by simp [maxI], by simp [maxI]⟩
  | n, m :: ns => by
    obtain ⟨h1, h2⟩ := maxI_ok m ns
    have e : maxI (n :: m :: ns) = if n < maxI (m :: ns) then maxI (m :: ns) else n := rfl
    rw [e]
    split
    · rename_i h
      refine ⟨List.mem_cons_of_mem _ h1, fun y hy => ?_⟩
      rcases List.mem_cons.mp hy with e | hy
      · rw [e]; omega
      · exact h2 y hy
    · rename_i h
      refine ⟨List.mem_cons_self, fun y hy => ?_⟩
      rcases List.mem_cons.mp hy with e | hy
      · rw [e]; exact Int.le_refl _
      · have := h2 y hy; omega
theorem minI_ok : ∀ (n : Int) (ns : List Int), minI (n :: ns) ∈ n :: ns ∧ ∀ y ∈ n :: ns, minI (n :: ns) ≤ y
  | n, [] => ⟨by simp [minI], by simp [minI]⟩
  | n, m :: ns => by
    obtain ⟨h1, h2⟩ := minI_ok m ns
    have e : minI (n :: m :: ns) = if minI (m :: ns) < n then minI (m :: ns) else n := rfl
    rw [e]
    split
    · rename_i h
      refine ⟨List.mem_cons_of_mem _ h1, fun y hy => ?_⟩
      rcases List.mem_cons.mp hy with e | hy
      · rw [e]; omega
      · exact h2 y hy
    · rename_i h
      refine ⟨List.mem_cons_self, fun y hy => ?_⟩
      rcases List.mem_cons.mp hy with e | hy
      · rw [e]; exact Int.le_refl _
      · have := h2 y hy; omega
theorem insI_perm (x : Int) : ∀ l : List Int, (insI x l).Perm (x :: l)
  | [] => List.Perm.refl _
  | y :: r => by
    unfold insI
    split
    · exact List.Perm.refl _
    · exact ((insI_perm x r).cons y).trans (List.Perm.swap x y r)
theorem sortI_perm : ∀ l : List Int, (sortI l).Perm l
  | [] => List.Perm.refl _
  | x :: r => (insI_perm x (sortI r)).trans ((sortI_perm r).cons x)
theorem insI_sorted (x : Int) : ∀ l : List Int, l.Pairwise (· ≤ ·) → (insI x l).Pairwise (· ≤ ·)
  | [], _ => List.pairwise_singleton _ _
  | y :: r, h => by
    unfold insI
    obtain ⟨h1, h2⟩ := List.pairwise_cons.mp h
    split
    · rename_i c
      refine List.pairwise_cons.mpr ⟨fun z hz => ?_, h⟩
      rcases List.mem_cons.mp hz with e | hz
      · rw [e]; exact c
      · exact Int.le_trans c (h1 z hz)
    · rename_i c
      refine List.pairwise_cons.mpr ⟨fun z hz => ?_, insI_sorted x r h2⟩
      rcases List.mem_cons.mp ((insI_perm x r).mem_iff.mp hz) with e | hz
      · rw [e]; omega
      · exact h1 z hz
theorem sortI_sorted : ∀ l : List Int, (sortI l).Pairwise (· ≤ ·)
  | [] => List.Pairwise.nil
  | x :: r => insI_sorted x _ (sortI_sorted r)
theorem sorted_one {a b : List Int} (p : a.Perm b) (ha : a.Pairwise (· ≤ ·)) (hb : b.Pairwise (· ≤ ·)) : a = b :=
  p.eq_of_pairwise (fun _ _ _ _ h1 h2 => Int.le_antisymm h1 h2) ha hb
theorem bis {K : PySem.W.Frag} (b : Bi) : CallS K (rBi K b) (biD b) := by
  intro T H st ds g vs S Q so rv hf q
  have plain : ∀ z, Rep K T H z g [] → Q z H := fun z hz => q z H [] [] (Same.refl H) hz (List.nil_sublist _) List.nodup_nil fun _ m => nomatch m
  cases ds with
  | nil => cases b <;> simp [biD] at hf
  | cons d ds =>
    cases rv with
    | @cons v vs _ _ S1 S2 r t =>
      cases ds with
      | cons d2 ds2 =>
        cases t with
        | @cons v2 vs2 _ _ S3 S4 r2 t2 =>
          cases ds2 with
          | cons d3 ds3 => cases b <;> simp [biD] at hf
          | nil =>
            cases t2
            cases b <;> simp only [biD] at hf <;> first | (cases hf; done) | skip
            · cases d <;> first | (cases hf; done) | skip
              cases d2 <;> first | (cases hf; done) | skip
              cases hf
              obtain ⟨rfl, _⟩ := r.intI
              obtain ⟨rfl, _⟩ := r2.intI
              exact ⟨_, _, rfl, plain _ (.int _)⟩
            · cases d <;> first | (cases hf; done) | skip
              cases d2 <;> first | (cases hf; done) | skip
              cases hf
              obtain ⟨rfl, _⟩ := r.intI
              obtain ⟨rfl, _⟩ := r2.intI
              exact ⟨_, _, rfl, plain _ (.int _)⟩
      | nil =>
        cases t
        cases b <;> simp only [biD] at hf <;> first | (cases hf; done) | skip
        -- abs
        · cases d <;> first | (cases hf; done) | skip
          cases hf
          obtain ⟨rfl, _⟩ := r.intI
          exact ⟨_, rfl, plain _ (.int _)⟩
        -- int
        · cases d <;> first | (cases hf; done) | skip
          · cases hf
            cases r
            exact .inr ⟨_, rfl, plain _ (.int _)⟩
          · cases hf
            obtain ⟨rfl, _⟩ := r.intI
            exact .inl ⟨_, rfl, plain _ (.int _)⟩
        -- len
        · cases d <;> first | (cases hf; done) | skip
          · rename_i s
            replace hf : (if s.length ≤ LIM then some (D.int s.length) else none) = some g := hf
            split at hf
            · rename_i hl
              cases hf
              cases r
              exact ⟨_, _, rfl, ⟨lim_le hl, rfl⟩, plain _ (.int _)⟩
            · cases hf
          · cases hf
            cases r with
            | tup p1 r1 => exact ⟨_, _, rfl, .inr ⟨_, p1.sqT, rfl⟩, plain _ (by rw [r1.length]; exact .int _)⟩
          · cases hf
            obtain ⟨p, xs, S', rfl, p1, r1, _⟩ := r.sq
            exact ⟨_, _, rfl, .inl ⟨_, p1, rfl⟩, plain _ (by rw [r1.length]; exact .int _)⟩
        -- tuple
        · cases d <;> first | (cases hf; done) | skip
          · cases hf
            cases r with
            | tup p1 r1 => exact ⟨_, _, rfl, .inr ⟨p1, q _ H S1 [] (Same.refl H) (.tup p1 r1) (by simp) List.nodup_nil fun _ m => nomatch m⟩⟩
          · cases hf
            obtain ⟨p, xs, S', rfl, p1, r1, _⟩ := r.sq
            exact ⟨_, _, rfl, .inl ⟨p1, fun l o hl to => q _ _ [] [] (same_upd hl) (.tup (tupR_upd to) (RepL.ext (Ext.of_same (same_upd hl)) r1.bw)) (List.nil_sublist _) List.nodup_nil fun _ m => nomatch m⟩⟩
        -- list
        · cases d <;> first | (cases hf; done) | skip
          · cases hf
            cases r with
            | tup p1 r1 => exact ⟨_, _, rfl, .inr p1.sqT, fun l hl => q _ _ [l] [l] (same_upd hl) (.own upd_same (so.fresh hl) (RepL.ext (Ext.of_same (same_upd hl)) r1.bw)) (by simp) (nodup_one l) fun b m => by rw [List.mem_singleton.mp m]; exact hl⟩
          · cases hf
            obtain ⟨p, xs, S', rfl, p1, r1, _⟩ := r.sq
            exact ⟨_, _, rfl, .inl p1, fun l hl => q _ _ [l] [l] (same_upd hl) (.own upd_same (so.fresh hl) (RepL.ext (Ext.of_same (same_upd hl)) r1.bw)) (by simp) (nodup_one l) fun b m => by rw [List.mem_singleton.mp m]; exact hl⟩
        -- sum
        · cases d <;> first | (cases hf; done) | skip
          · obtain ⟨ns, hn, rfl⟩ := Option.map_eq_some_iff.mp hf
            cases r with
            | tup p1 r1 =>
              rw [intsOf_map hn] at r1
              rw [repL_ints r1] at p1
              exact .inr ⟨_, ns, rfl, p1, plain _ (.int _)⟩
          · obtain ⟨ns, hn, rfl⟩ := Option.map_eq_some_iff.mp hf
            obtain ⟨p, xs, S', rfl, p1, r1, _⟩ := r.sq
            rw [intsOf_map hn] at r1
            rw [repL_ints r1] at p1
            exact .inl ⟨_, ns, rfl, p1, plain _ (.int _)⟩
        -- max
        · cases d <;> first | (cases hf; done) | skip
          rename_i m xs
          cases hn : intsOf xs with
          | none => dsimp only at hf; rw [hn] at hf; cases hf
          | some ns =>
            dsimp only at hf
            rw [hn] at hf
            cases ns with
            | nil => cases hf
            | cons n ns =>
              cases hf
              obtain ⟨p, xs, S', rfl, p1, r1, _⟩ := r.sq
              rw [intsOf_map hn] at r1
              rw [repL_ints r1] at p1
              obtain ⟨m1, m2⟩ := maxI_ok n ns
              refine ⟨_, n :: ns, rfl, p1, by simp, fun m h1 h2 => ?_⟩
              have e : m = maxI (n :: ns) := Int.le_antisymm (m2 m h1) (h2 _ m1)
              rw [e]
              exact plain _ (.int _)
        -- min
        · cases d <;> first | (cases hf; done) | skip
          rename_i m xs
          cases hn : intsOf xs with
          | none => dsimp only at hf; rw [hn] at hf; cases hf
          | some ns =>
            dsimp only at hf
            rw [hn] at hf
            cases ns with
            | nil => cases hf
            | cons n ns =>
              cases hf
              obtain ⟨p, xs, S', rfl, p1, r1, _⟩ := r.sq
              rw [intsOf_map hn] at r1
              rw [repL_ints r1] at p1
              obtain ⟨m1, m2⟩ := minI_ok n ns
              refine ⟨_, n :: ns, rfl, p1, by simp, fun m h1 h2 => ?_⟩
              have e : m = minI (n :: ns) := Int.le_antisymm (h2 _ m1) (m2 m h1)
              rw [e]
              exact plain _ (.int _)
        -- any
        · cases d <;> first | (cases hf; done) | skip
          obtain ⟨bs, hn, rfl⟩ := Option.map_eq_some_iff.mp hf
          obtain ⟨p, xs, S', rfl, p1, r1, _⟩ := r.sq
          rw [boolsOf_map hn] at r1
          rw [repL_bools r1] at p1
          exact ⟨_, bs, rfl, p1, plain _ (.bl _)⟩
        -- all
        · cases d <;> first | (cases hf; done) | skip
          obtain ⟨bs, hn, rfl⟩ := Option.map_eq_some_iff.mp hf
          obtain ⟨p, xs, S', rfl, p1, r1, _⟩ := r.sq
          rw [boolsOf_map hn] at r1
          rw [repL_bools r1] at p1
          exact ⟨_, bs, rfl, p1, plain _ (.bl _)⟩
        -- sorted
        · cases d <;> first | (cases hf; done) | skip
          rename_i m xs
          cases hn : intsOf xs with
          | none => dsimp only at hf; rw [hn] at hf; cases hf
          | some ns =>
            dsimp only at hf
            rw [hn] at hf
            dsimp only at hf
            split at hf
            · rename_i h64
              cases hf
              obtain ⟨p, xs, S', rfl, p1, r1, _⟩ := r.sq
              rw [intsOf_map hn] at r1
              rw [repL_ints r1] at p1
              refine ⟨_, ns, rfl, p1, h64, fun ns' l pm so' hl => ?_⟩
              rw [sorted_one (pm.trans (sortI_perm ns).symm) so' (sortI_sorted ns)]
              exact q _ _ [l] [l] (same_upd hl) (.own upd_same (so.fresh hl) (rep_ints _)) (by simp) (nodup_one l) fun b m => by rw [List.mem_singleton.mp m]; exact hl
            · cases hf
section
variable {X : Cx}
theorem call_bi (hc : X.calm = true) : ∀ b : Bi, CallR X (match b with | .abs => .builtin "abs" | .int => .type "int" | .len => .builtin "len" | .tuple => .type "tuple" | .list => .type "list" | .sum => .builtin "sum" | .max => .builtin "max" | .min => .builtin "min" | .max2 => .builtin "max" | .min2 => .builtin "min" | .any => .builtin "any" | .all => .builtin "all" | .sorted => .builtin "sorted") (rBi X.K b)
  | .abs => call_abs
  | .int => call_int1
  | .len => call_len
  | .tuple => call_tuple_N
  | .list => call_list_of
  | .sum => cr_sumN hc
  | .max => cr_max hc
  | .min => cr_min hc
  | .max2 => call_max2 hc
  | .min2 => call_min2 hc
  | .any => cr_any hc
  | .all => cr_all hc
  | .sorted => cr_sorted
end
end PL
namespace PL
open PySem PySem.Spec PyProof.Rows L2

/-! ### isinstance -/
def Ki.ty : Ki → String
  | .int => "int" | .bool => "bool" | .str => "str" | .list => "list" | .tuple => "tuple"
def D.tyN : D → String
  | .non => "NoneType" | .bl _ => "bool" | .int _ => "int" | .str _ => "str" | .tup _ => "tuple" | .lst _ _ => "list" | .sref _ => "list"
def isaB : String → Ki → Bool
  | "int", .int => true | "bool", .int => true | "bool", .bool => true | "str", .str => true | "tuple", .tuple => true | "list", .list => true
  | _, _ => false
theorem isaD_b {k : Ki} {d g : D} (h : isaD k d = some g) : g = .bl (isaB d.tyN k) ∧ (∀ n, d ≠ .sref n) ∧ ∀ ds, d ≠ .lst .scr ds := by
  cases d with
  | lst m ds => cases k <;> cases m <;> simp [isaD] at h <;> subst h <;> exact ⟨rfl, by simp, by simp⟩
  | _ => cases k <;> simp [isaD] at h <;> subst h <;> exact ⟨rfl, by simp, by simp⟩
theorem kit_all : ∀ k : Ki, kitB "NoneType" k.ty = some (isaB "NoneType" k) ∧ kitB "bool" k.ty = some (isaB "bool" k) ∧ kitB "int" k.ty = some (isaB "int" k) ∧ kitB "str" k.ty = some (isaB "str" k) ∧ kitB "tuple" k.ty = some (isaB "tuple" k) ∧ kitB "list" k.ty = some (isaB "list" k)
  | .int => by decide +kernel
  | .bool => by decide +kernel
  | .str => by decide +kernel
  | .list => by decide +kernel
  | .tuple => by decide +kernel
theorem Rep.tyx {K : PySem.W.Frag} {T : Ts} {H : Hp} {v : V} {d : D} {S : List Addr} (r : Rep K T H v d S) (h1 : ∀ n, d ≠ .sref n) (h2 : ∀ ds, d ≠ .lst .scr ds) : TyX K H v (.type d.tyN) := by
  cases r with
  | non => exact .base .non
  | bl b => exact .base (.bl b)
  | int i => exact .base (.int i)
  | str x => exact .base (.str x)
  | tup h r =>
    obtain ⟨o, h, _⟩ := h
    exact .fTuple h
  | own h n r => exact .base (.lst h)
  | fro h r k => exact .base (.frz h)
  | bor h n r =>
    rcases h with h | ⟨o, h⟩
    · exact .base (.lst h)
    · exact .base (.frz h)
  | scr h r k => exact absurd rfl (h2 _)
  | sref h => exact absurd rfl (h1 _)
def rIsK (K : PySem.W.Frag) (k : Ki) : List V → Hp → VK → Prop := rIsi K
section
variable {X : Cx} {ca : Cls_} {W : WX} {pos : Pos} {f : Env → M D}
theorem sv_isa {k : Ki} {e : Expr} (h : PE X e (tCB (rIsi X.K) (tCons (TEv X.K ca W f) (tCons (tC (.ty k.ty)) tNil)))) :
    PE X e (TEv X.K ca W fun env => M.bind (f env) fun d => M.ofOpt (isaD k d)) := by
  refine PE.mono h fun σ H Q ⟨T, env, st, eb, so, w⟩ => ?_
  refine ⟨T, env, st, eb, so, w.bind fun d1 st1 h1 w1 v1 H1 S1 e1 s1 r1 f1 => ?_⟩
  obtain ⟨g, hg, q⟩ := w1.opt
  obtain ⟨rfl, n1, n2⟩ := isaD_b hg
  refine ⟨v1, .ty k.ty, .type d1.tyN, .type k.ty, isaB d1.tyN k, rfl, .ty _, r1.tyx n1 n2, kit_ty ?_, q _ H1 [] e1 s1 (.bl _) (Fr.nil _)⟩
  obtain ⟨k1, k2, k3, k4, k5, k6⟩ := kit_all k
  cases d1 <;> first | exact k1 | exact k2 | exact k3 | exact k4 | exact k5 | exact k6

/-! ### and, or, not, if -/
theorem tst_bl (g : Env → M Bool) : tstD (blF g) = g := by
  funext env st
  unfold tstD blF M.bind
  cases g env st <;> rfl
theorem rep_bl {K : PySem.W.Frag} {T : Ts} {H : Hp} {v : V} {b : Bool} {S : List Addr} (r : Rep K T H v (.bl b) S) : v = .bl b := by
  cases r; rfl
variable {a b : Expr} {rest : List Expr} {g : Env → M Bool}
theorem sv_and1 (h : PE X a (TEv X.K ca W f)) : PE X (.BoolOp .And [a] pos) (TEv X.K ca W (blF (andF f fun _ => M.pure true))) := by
  refine PE.mono (pe_one h) fun σ H Q ⟨T, env, st, eb, so, w⟩ => ⟨T, env, st, eb, so, ?_⟩
  refine (w.bind (R := fun b st' => ∀ H', Ext T H H' → SOk X.K T H' st' → Q (.bl b) H') fun b st1 h1 w1 H1 e1 s1 => w1 (.bl b) H1 [] e1 s1 (.bl b) (Fr.nil _)).bind fun d1 st1 h1 w1 v1 H1 S1 e1 s1 r1 f1 => ?_
  cases d1 with
  | bl c =>
    cases rep_bl r1
    cases c <;> exact w1 H1 e1 s1
  | _ => exact w1.elim
theorem sv_or1 (h : PE X a (TEv X.K ca W f)) : PE X (.BoolOp .Or [a] pos) (TEv X.K ca W (blF (orF f fun _ => M.pure false))) := by
  refine PE.mono (pe_one h) fun σ H Q ⟨T, env, st, eb, so, w⟩ => ⟨T, env, st, eb, so, ?_⟩
  refine (w.bind (R := fun b st' => ∀ H', Ext T H H' → SOk X.K T H' st' → Q (.bl b) H') fun b st1 h1 w1 H1 e1 s1 => w1 (.bl b) H1 [] e1 s1 (.bl b) (Fr.nil _)).bind fun d1 st1 h1 w1 v1 H1 S1 e1 s1 r1 f1 => ?_
  cases d1 with
  | bl c =>
    cases rep_bl r1
    cases c <;> exact w1 H1 e1 s1
  | _ => exact w1.elim
theorem wish_blF {T : Ts} {H : Hp} {σ : L2.St} {env : Env} {st : Store} {Q : VK} (w : Wish X.K ca W T H σ (blF g env st) fun d st' => ∀ v H' S, Ext T H H' → SOk X.K T H' st' → Rep X.K T H' v d S → Fr H S → Q v H') :
    Wish X.K ca W T H σ (g env st) fun b st' => ∀ H', Ext T H H' → SOk X.K T H' st' → Q (.bl b) H' :=
  w.bind fun b st1 h1 w1 H1 e1 s1 => w1 (.bl b) H1 [] e1 s1 (.bl b) (Fr.nil _)
theorem wish_blF' {T : Ts} {H H0 : Hp} {σ : L2.St} {env : Env} {st : Store} {Q : VK} (e0 : Ext T H0 H) (w : Wish X.K ca W T H σ (g env st) fun b st' => ∀ H', Ext T H0 H' → SOk X.K T H' st' → Q (.bl b) H') :
    Wish X.K ca W T H σ (blF g env st) fun d st' => ∀ v H' S, Ext T H H' → SOk X.K T H' st' → Rep X.K T H' v d S → Fr H S → Q v H' := by
  unfold blF M.bind
  cases hg : g env st with
  | ok b st1 =>
    rw [hg] at w
    intro v H' S e s r _
    cases rep_bl r
    exact w H' (e0.trans e) s
  | exn c p st1 => rw [hg] at w; exact w
  | err => rw [hg] at w; exact w
theorem sv_and (h : PE X a (TEv X.K ca W f)) (h2 : PE X (.BoolOp .And (b :: rest) pos) (TEv X.K ca W (blF g))) : PE X (.BoolOp .And (a :: b :: rest) pos) (TEv X.K ca W (blF (andF f g))) := by
  refine PE.mono (pe_and h h2) fun σ H Q ⟨T, env, st, eb, so, w⟩ => ⟨T, env, st, eb, so, ?_⟩
  refine (wish_blF w).bind fun d1 st1 h1 w1 v1 H1 S1 e1 s1 r1 f1 => ?_
  cases d1 with
  | bl c =>
    cases rep_bl r1
    refine ⟨c, rfl, ?_⟩
    cases c with
    | true =>
      rw [if_pos rfl]
      exact ⟨T, env, st1, eb.ext e1, s1, wish_blF' e1 (w1.ext e1 s1)⟩
    | false =>
      rw [if_neg Bool.false_ne_true]
      exact w1 H1 e1 s1
  | _ => exact w1.elim
theorem sv_or (h : PE X a (TEv X.K ca W f)) (h2 : PE X (.BoolOp .Or (b :: rest) pos) (TEv X.K ca W (blF g))) : PE X (.BoolOp .Or (a :: b :: rest) pos) (TEv X.K ca W (blF (orF f g))) := by
  refine PE.mono (pe_or h h2) fun σ H Q ⟨T, env, st, eb, so, w⟩ => ⟨T, env, st, eb, so, ?_⟩
  refine (wish_blF w).bind fun d1 st1 h1 w1 v1 H1 S1 e1 s1 r1 f1 => ?_
  cases d1 with
  | bl c =>
    cases rep_bl r1
    refine ⟨c, rfl, ?_⟩
    cases c with
    | false =>
      rw [if_neg Bool.false_ne_true]
      exact ⟨T, env, st1, eb.ext e1, s1, wish_blF' e1 (w1.ext e1 s1)⟩
    | true =>
      rw [if_pos rfl]
      exact w1 H1 e1 s1
  | _ => exact w1.elim
/-- from a test to what and, or ask of it -/
theorem wish_andF {T : Ts} {H : Hp} {σ : L2.St} {env : Env} {st : Store} {R : Bool → Store → Prop} {Q' : Bool → Store → Prop} (w : Wish X.K ca W T H σ (andF f g env st) R)
    (h : ∀ b st1, Wish X.K ca W T H σ (if b = true then g env st1 else M.pure false st1) R → Q' b st1) : Wish X.K ca W T H σ (tstD f env st) Q' := by
  unfold tstD andF M.bind at *
  cases hf : f env st with
  | ok d st1 =>
    rw [hf] at w
    cases d with
    | bl c => cases c <;> exact h _ st1 w
    | _ => exact w.elim
  | exn c p st1 => rw [hf] at w; exact w
  | err => rw [hf] at w; exact w
theorem wish_orF {T : Ts} {H : Hp} {σ : L2.St} {env : Env} {st : Store} {R : Bool → Store → Prop} {Q' : Bool → Store → Prop} (w : Wish X.K ca W T H σ (orF f g env st) R)
    (h : ∀ b st1, Wish X.K ca W T H σ (if b = true then M.pure true st1 else g env st1) R → Q' b st1) : Wish X.K ca W T H σ (tstD f env st) Q' := by
  unfold tstD orF M.bind at *
  cases hf : f env st with
  | ok d st1 =>
    rw [hf] at w
    cases d with
    | bl c => cases c <;> exact h _ st1 w
    | _ => exact w.elim
  | exn c p st1 => rw [hf] at w; exact w
  | err => rw [hf] at w; exact w
theorem st_and1 (h : PT X a (TTv X.K ca W (tstD f))) : PW X (.BoolOp .And [a] pos) (TTv X.K ca W (andF f fun _ => M.pure true)) := by
  refine PW.mono (pw_and1 h) fun σ H Q ⟨T, env, st, eb, so, w⟩ => ⟨T, env, st, eb, so, wish_andF w fun b st1 w1 H1 e1 s1 => ?_⟩
  cases b <;> exact w1 H1 e1 s1
theorem st_or1 (h : PT X a (TTv X.K ca W (tstD f))) : PW X (.BoolOp .Or [a] pos) (TTv X.K ca W (orF f fun _ => M.pure false)) := by
  refine PW.mono (pw_or1 h) fun σ H Q ⟨T, env, st, eb, so, w⟩ => ⟨T, env, st, eb, so, wish_orF w fun b st1 w1 H1 e1 s1 => ?_⟩
  cases b <;> exact w1 H1 e1 s1
theorem ttv_ext {T : Ts} {H H1 : Hp} {σ : L2.St} {env : Env} {st1 : Store} {Q : Bool → Hp → Prop} (eb : EB X.K T H σ env) (e1 : Ext T H H1) (s1 : SOk X.K T H1 st1)
    (w : Wish X.K ca W T H σ (g env st1) fun b st' => ∀ H', Ext T H H' → SOk X.K T H' st' → Q b H') : TTv X.K ca W g σ H1 Q :=
  ⟨T, env, st1, eb.ext e1, s1, (w.ext e1 s1).imp fun b st' _ q H' e s => q H' (e1.trans e) s⟩
theorem st_and (h : PT X a (TTv X.K ca W (tstD f))) (h2 : PW X (.BoolOp .And (b :: rest) pos) (TTv X.K ca W g)) : PW X (.BoolOp .And (a :: b :: rest) pos) (TTv X.K ca W (andF f g)) := by
  refine PW.mono (pw_and h h2) fun σ H Q ⟨T, env, st, eb, so, w⟩ => ⟨T, env, st, eb, so, wish_andF w fun b st1 w1 H1 e1 s1 => ?_⟩
  cases b with
  | true => exact ttv_ext eb e1 s1 w1
  | false => exact w1 H1 e1 s1
theorem st_or (h : PT X a (TTv X.K ca W (tstD f))) (h2 : PW X (.BoolOp .Or (b :: rest) pos) (TTv X.K ca W g)) : PW X (.BoolOp .Or (a :: b :: rest) pos) (TTv X.K ca W (orF f g)) := by
  refine PW.mono (pw_or h h2) fun σ H Q ⟨T, env, st, eb, so, w⟩ => ⟨T, env, st, eb, so, wish_orF w fun b st1 w1 H1 e1 s1 => ?_⟩
  cases b with
  | false => exact ttv_ext eb e1 s1 w1
  | true => exact w1 H1 e1 s1
theorem sv_not (h : PE X a (TEv X.K ca W f)) : PE X (.UnaryOp .Not a pos) (TEv X.K ca W (notF f)) := by
  refine PE.mono (pe_not h) fun σ H Q ⟨T, env, st, eb, so, w⟩ => ⟨T, env, st, eb, so, w.bind fun d1 st1 h1 w1 v1 H1 S1 e1 s1 r1 f1 => ?_⟩
  cases d1 with
  | bl c =>
    cases rep_bl r1
    exact ⟨c, rfl, w1 _ H1 [] e1 s1 (.bl _) (Fr.nil _)⟩
  | _ => exact w1.elim
theorem st_not (h : PT X a (TTv X.K ca W (tstD f))) : PT X (.UnaryOp .Not a pos) (TTv X.K ca W (tstD (notF f))) := by
  refine PT.mono (pt_not h) fun σ H Q ⟨T, env, st, eb, so, w⟩ => ⟨T, env, st, eb, so, ?_⟩
  unfold tstD notF M.bind at *
  cases hf : f env st with
  | ok d st1 =>
    rw [hf] at w
    cases d with
    | bl c => exact w
    | _ => exact w.elim
  | exn c p st1 => rw [hf] at w; exact w
  | err => rw [hf] at w; exact w
variable {c : Expr} {fc fa fb : Env → M D}
theorem tev_ext {T : Ts} {H H1 : Hp} {σ : L2.St} {env : Env} {st1 : Store} {Q : VK} (eb : EB X.K T H σ env) (e1 : Ext T H H1) (s1 : SOk X.K T H1 st1)
    (w : Wish X.K ca W T H σ (f env st1) fun d st' => ∀ v H' S, Ext T H H' → SOk X.K T H' st' → Rep X.K T H' v d S → Fr H S → Q v H') : TEv X.K ca W f σ H1 Q :=
  ⟨T, env, st1, eb.ext e1, s1, (w.ext e1 s1).imp fun b st' _ q v H' S e s r fr => q v H' S (e1.trans e) s r (fr.back e1 s1)⟩
theorem sv_ite (hc : PT X c (TTv X.K ca W (tstD fc))) (ha : PE X a (TEv X.K ca W fa)) (hb : PE X b (TEv X.K ca W fb)) :
    PE X (.IfExp c a b pos) (TEv X.K ca W fun env => M.bind (tstD fc env) fun k => if k then fa env else fb env) := by
  refine PE.mono (pe_ifExp hc ha hb) fun σ H Q ⟨T, env, st, eb, so, w⟩ => ⟨T, env, st, eb, so, w.bind fun k st1 h1 w1 H1 e1 s1 => ?_⟩
  cases k with
  | true => exact tev_ext eb e1 s1 w1
  | false => exact tev_ext eb e1 s1 w1
/-- a chained comparison -/
theorem rd_chain {op op' : Cop} {K : PySem.W.Frag} {σ : L2.St} {H : Hp} {Q : VK} (w : TEv K ca W (fun env => M.bind (fa env) fun x => M.bind (fb env) fun y => M.bind (M.ofOpt (cmpD op x y)) fun k => if k then M.bind (fc env) fun z => M.ofOpt ((cmpD op' y z).map D.bl) else M.pure (.bl false)) σ H Q) :
    tChain (rCop K op) (rCop K op') (TEv K ca W fa) (TEv K ca W fb) (TEv K ca W fc) σ H Q := by
  obtain ⟨T, env, st, eb, so, w⟩ := w
  refine ⟨T, env, st, eb, so, w.bind fun d1 st1 h1 w1 v1 H1 S1 e1 s1 r1 f1 => ?_⟩
  refine ⟨T, env, st1, eb.ext e1, s1, (w1.ext e1 s1).bind fun d2 st2 h2 w2 v2 H2 S2 e2 s2 r2 f2 => ?_⟩
  have w3 : Wish K ca W T H1 σ (M.ofOpt (cmpD op d1 d2) st2) fun k st3 => Wish K ca W T H1 σ ((if k then M.bind (fc env) fun z => M.ofOpt ((cmpD op' d2 z).map D.bl) else M.pure (.bl false) : M D) st3) fun d st' => ∀ v H' S, Ext T H H' → SOk K T H' st' → Rep K T H' v d S → Fr H S → Q v H' := w2.bind fun k st3 _ w => w
  obtain ⟨k, hk, w4⟩ := w3.opt
  refine ops_cop K op T H2 st2 d1 d2 (.bl k) v1 v2 S1 S2 _ s2 (r1.ext e2) r2 (by dsimp only; rw [hk]; rfl) fun z H' S3 F sm rz hs hn hF => ?_
  have ez := Ext.of_same (T := T) sm
  cases rep_bl rz
  refine ⟨k, rfl, ?_⟩
  cases k with
  | false => exact w4 _ H' [] ((e1.trans e2).trans ez) (s2.same sm) (.bl _) (Fr.nil _)
  | true =>
    have e12 := e2.trans ez
    refine ⟨T, env, st2, (eb.ext e1).ext e12, s2.same sm, (w4.ext e12 (s2.same sm)).bind fun d3 st3 h3 w5 v3 H3 S4 e3 s3 r3 f3 => ?_⟩
    obtain ⟨g2, hg2, q⟩ := w5.opt
    refine ops_cop K op' T H3 st3 d2 d3 g2 v2 v3 S2 S4 _ s3 ((r2.ext ez).ext e3) r3 hg2 fun z2 H4 S5 F2 sm2 rz2 hs2 hn2 hF2 => ?_
    obtain ⟨k2, _, rfl⟩ := Option.map_eq_some_iff.mp hg2
    cases rz2
    exact q _ H4 [] ((e1.trans (e12.trans e3)).trans (Ext.of_same sm2)) (s3.same sm2) (.bl _) (Fr.nil _)
theorem sv_chain {op op' : Cop} {e : Expr} (h : PE X e (tChain (rCop X.K op) (rCop X.K op') (TEv X.K ca W fa) (TEv X.K ca W fb) (TEv X.K ca W fc))) :
    PE X e (TEv X.K ca W fun env => M.bind (fa env) fun x => M.bind (fb env) fun y => M.bind (M.ofOpt (cmpD op x y)) fun k => if k then M.bind (fc env) fun z => M.ofOpt ((cmpD op' y z).map D.bl) else M.pure (.bl false)) := PE.mono h fun _ _ _ w => rd_chain w
end
end PL
namespace PL
open PySem PySem.Spec PyProof.Rows L2

/-! ### more lists hidden -/
structure Ts.le (T T' : Ts) (H : Hp) : Prop where
  sh : T'.sh = T.sh
  hid : ∀ a ∈ T'.hid, a ∈ T.hid ∨ H a = none
def Ts.hide (T : Ts) (a : Addr) : Ts := ⟨T.sh, a :: T.hid⟩
section
variable {K : PySem.W.Frag} {T T' T2 : Ts} {H H' H1 : Hp}
theorem Ts.le_refl : T.le T H := ⟨rfl, fun _ h => .inl h⟩
theorem Ts.le_hide {a : Addr} (h : H a = none) : T.le (T.hide a) H := ⟨rfl, fun b m => by
  rcases List.mem_cons.mp m with e | m
  · rw [e]; exact .inr h
  · exact .inl m⟩
theorem Ts.le_trans (l : T.le T' H) (l2 : T'.le T2 H1) (b : ∀ a, H1 a = none → H a = none) : T.le T2 H := ⟨l2.sh.trans l.sh, fun a m => by
  rcases l2.hid a m with m | m
  · exact l.hid a m
  · exact .inr (b a m)⟩
theorem Ts.le.no (l : T.le T' H) {a : Addr} (n : T.no a) (h : H a ≠ none) : T'.no a := ⟨by rw [l.sh]; exact n.1, fun m => by
  rcases l.hid a m with m | m
  · exact n.2 m
  · exact h m⟩
theorem Rd.some {a : Addr} {u : HO} (h : Rd H a u) : H a ≠ none := by
  rcases h with h | ⟨o, h⟩ <;> rw [h] <;> exact fun z => nomatch z
mutual
theorem Rep.le (l : T.le T' H) : ∀ {v : V} {d : D} {S : List Addr}, Rep K T H v d S → Rep K T' H v d S
  | _, _, _, .non => .non
  | _, _, _, .bl b => .bl b
  | _, _, _, .int i => .int i
  | _, _, _, .str x => .str x
  | _, _, _, .tup h r => .tup h (RepL.le l r)
  | _, _, _, .own h n r => .own h (l.no n (by rw [h]; exact fun z => nomatch z)) (RepL.le l r)
  | _, _, _, .fro h r k => .fro h (RepL.le l r) k
  | _, _, _, .bor h n r => .bor h (l.no n (Rd.some h)) (RepL.le l r)
  | _, _, _, .scr h r k => .scr h (RepL.le l r) k
  | _, _, _, .sref h => .sref (by rw [l.sh]; exact h)
theorem RepL.le (l : T.le T' H) : ∀ {vs : List V} {ds : List D} {S : List Addr}, RepL K T H vs ds S → RepL K T' H vs ds S
  | _, _, _, .nil => .nil
  | _, _, _, .cons r t => .cons (Rep.le l r) (RepL.le l t)
end
/-- back -/
theorem Ts.hide_no {D a : Addr} (n : (T.hide D).no a) : T.no a := ⟨n.1, fun m => n.2 (List.mem_cons_of_mem _ m)⟩
mutual
theorem Rep.unhide {D : Addr} : ∀ {v : V} {d : _root_.PL.D} {S : List Addr}, Rep K (T.hide D) H v d S → Rep K T H v d S
  | _, _, _, .non => .non
  | _, _, _, .bl b => .bl b
  | _, _, _, .int i => .int i
  | _, _, _, .str x => .str x
  | _, _, _, .tup h r => .tup h (RepL.unhide r)
  | _, _, _, .own h n r => .own h (Ts.hide_no n) (RepL.unhide r)
  | _, _, _, .fro h r k => .fro h (RepL.unhide r) k
  | _, _, _, .bor h n r => .bor h (Ts.hide_no n) (RepL.unhide r)
  | _, _, _, .scr h r k => .scr h (RepL.unhide r) k
  | _, _, _, .sref h => .sref h
theorem RepL.unhide {D : Addr} : ∀ {vs : List V} {ds : List _root_.PL.D} {S : List Addr}, RepL K (T.hide D) H vs ds S → RepL K T H vs ds S
  | _, _, _, .nil => .nil
  | _, _, _, .cons r t => .cons (Rep.unhide r) (RepL.unhide t)
end
theorem EB.le {σ : L2.St} {env : Env} (l : T.le T' H) (b : EB K T H σ env) : EB K T' H σ env := ⟨b.len, fun i d h => by
  obtain ⟨v, h1, h2⟩ := b.get i d h
  exact ⟨v, h1, h2.le l⟩⟩
theorem SOk.hide {st : Store} {D : Addr} {xs : List V} (s : SOk K T H st) (hD : H D = none) : SOk K (T.hide D) (upd H D (.lst xs)) st :=
  ⟨s.nd, s.len, fun n a ds h1 h2 => by
    obtain ⟨ys, h3, h4, h5⟩ := s.at_ n a ds h1 h2
    exact ⟨ys, same_upd hD _ _ h3, RepL.ext (Ext.of_same (same_upd hD)) (h4.le (Ts.le_hide hD)), h5⟩, fun a m => by
    rcases List.mem_cons.mp m with e | m
    · subst e; exact ⟨xs, upd_same⟩
    · obtain ⟨ys, q⟩ := s.hid a m
      exact ⟨ys, same_upd hD _ _ q⟩⟩
theorem SOk.unhide {st : Store} {D : Addr} (s : SOk K (T.hide D) H st) : SOk K T H st := ⟨s.nd, s.len, fun n a ds h1 h2 => by
  obtain ⟨ys, h3, h4, h5⟩ := s.at_ n a ds h1 h2
  exact ⟨ys, h3, h4.unhide, h5⟩, fun a m => s.hid a (List.mem_cons_of_mem _ m)⟩
/-- the hidden list is written -/
theorem Exw.upd_hid {D : Addr} {xs : List V} (hD : ∃ ys, H D = some (.lst ys)) : Exw (T.hide D) H (upd H D (.lst xs)) := fun a o h n => by
  by_cases e : a = D
  · subst e
    obtain ⟨ys, q⟩ := hD
    rw [q] at h
    cases h
    rcases n with n | n
    · exact absurd List.mem_cons_self n.2
    · exact absurd rfl (n _)
  · rw [upd_ne e]; exact h
end

/-! ### what is walked -/
/-- the walk yields what stands for ds -/
def Wk (K : PySem.W.Frag) (T : Ts) (J : L2.It) (H1 : Hp) (ds : List D) : Prop := ∀ T' H', T.le T' H1 → Exw T' H1 H' →
  (∀ i d, ds[i]? = some d → J.go i H' ∧ ∀ x H'', J.yld i H' x H'' → H'' = H' ∧ Rep K T' H' x d []) ∧ ∀ i, ds[i]? = none → J.stop i H'
theorem sqL_one {K : PySem.W.Frag} {H : Hp} {a : Addr} {xs ys : List V} (h : SqL K H a xs) (q : ∀ zs, SqL K H a zs → zs[0]? = ys[0]?) : xs[0]? = ys[0]? := q xs h
theorem wk_list {K : PySem.W.Frag} {T : Ts} {H1 : Hp} {a : Addr} {xs : List V} {ds : List D} (hs : ∀ T' H', T.le T' H1 → Exw T' H1 H' → SqL K H' a xs) (r : RepL K T H1 xs ds []) : Wk K T (Itl K a) H1 ds := by
  intro T' H' l e
  have q := hs T' H' l e
  have r' := RepL.exw e (r.le l)
  refine ⟨fun i d h => ?_, fun i h => ⟨xs, q, ?_⟩⟩
  · obtain ⟨v, S', h1, h2, h3⟩ := r'.get h
    have eS : S' = [] := List.sublist_nil.mp h3
    subst eS
    refine ⟨⟨xs, v, q, h1⟩, fun x H'' y => ⟨y.1, ?_⟩⟩
    have := y.2 xs q
    rw [h1] at this
    cases this
    exact h2
  · rw [r.length]
    exact List.getElem?_eq_none_iff.mp h
theorem wk_tup {K : PySem.W.Frag} {T : Ts} {H1 : Hp} {a : Addr} {xs : List V} {ds : List D} (hs : SqT K H1 a xs) (r : RepL K T H1 xs ds []) : Wk K T (Itt K a) H1 ds := by
  intro T' H' l e
  have q := e.sqT hs
  have r' := RepL.exw e (r.le l)
  refine ⟨fun i d h => ?_, fun i h => ⟨xs, q, ?_⟩⟩
  · obtain ⟨v, S', h1, h2, h3⟩ := r'.get h
    have eS : S' = [] := List.sublist_nil.mp h3
    subst eS
    refine ⟨⟨xs, v, q, h1⟩, fun x H'' y => ⟨y.1, ?_⟩⟩
    have := y.2 xs q
    rw [h1] at this
    cases this
    exact h2
  · rw [r.length]
    exact List.getElem?_eq_none_iff.mp h
theorem rgD_get {a b : Int} {i : Nat} {d : D} (h : (rgD a b)[i]? = some d) : i < (b - a).toNat ∧ d = .int (a + i) := by
  unfold rgD at h
  rw [List.getElem?_map] at h
  obtain ⟨j, hj, rfl⟩ := Option.map_eq_some_iff.mp h
  rw [List.getElem?_eq_some_iff] at hj
  obtain ⟨h1, h2⟩ := hj
  rw [List.length_range] at h1
  rw [List.getElem_range] at h2
  subst h2
  exact ⟨h1, rfl⟩
theorem rgD_none {a b : Int} {i : Nat} (h : (rgD a b)[i]? = none) : (b - a).toNat ≤ i := by
  have := List.getElem?_eq_none_iff.mp h
  unfold rgD at this
  rw [List.length_map, List.length_range] at this
  exact this
theorem wk_rng {K : PySem.W.Frag} {T : Ts} {H1 : Hp} (a b : Int) : Wk K T (Itr a (b - a).toNat) H1 (rgD a b) := by
  intro T' H' l e
  refine ⟨fun i d h => ?_, fun i h => rgD_none h⟩
  obtain ⟨h1, rfl⟩ := rgD_get h
  refine ⟨h1, fun x H'' y => ⟨y.1, ?_⟩⟩
  rw [y.2]
  exact .int _
def TIv (K : PySem.W.Frag) (ca : Cls_) (W : WX) (f : Env → M (List D)) : TI := fun σ H R => ∃ T env st, EB K T H σ env ∧ SOk K T H st ∧
  Wish K ca W T H σ (f env st) fun ds st' => ∀ J H', Ext T H H' → SOk K T H' st' → Wk K T J H' ds → R J H'
theorem PI.mono {X : Cx} {tg e : Expr} {t t' : TI} (h : PI X tg e t) (hm : ∀ σ H Q, t' σ H Q → t σ H Q) : PI X tg e t' := ⟨fun pins s σ H Q I w => h.run pins s σ H Q I (hm σ H Q w)⟩
theorem Rep.sqS {K : PySem.W.Frag} {T : Ts} {H : Hp} {v : V} {m : Md} {ds : List D} {S : List Addr} (r : Rep K T H v (.lst m ds) S) : ∃ a xs S', v = .ref a ∧ RepL K T H xs ds S' ∧ ∀ T' H', T.le T' H → Exw T' H H' → SqL K H' a xs := by
  cases r with
  | own h n r => exact ⟨_, _, _, rfl, r, fun T' H' l e => .inl (.inl (e _ _ h (.inl (l.no n (by rw [h]; exact fun z => nomatch z)))))⟩
  | fro h r k => exact ⟨_, _, _, rfl, r, fun T' H' l e => .inl (.inr ⟨_, e _ _ h (.inr fun _ z => nomatch z)⟩)⟩
  | bor h n r => exact ⟨_, _, _, rfl, r, fun T' H' l e => .inl (e.rd (l.no n (Rd.some h)) h)⟩
  | scr h r k => exact ⟨_, _, _, rfl, r, fun T' H' l e => (e.scr h).sq⟩
def iSeq (K : PySem.W.Frag) (tl : TE) : TI := fun σ H R => tl σ H fun x H1 => ∃ a, x = .ref a ∧ (((∃ xs, SqL K H1 a xs) ∧ R (Itl K a) H1) ∨ ((∃ xs, SqT K H1 a xs) ∧ R (Itt K a) H1))
section
variable {X : Cx} {ca : Cls_} {W : WX} {pos p : Pos} {tg l a b : Expr}
theorem pi_seq {tl : TE} (hl : PE X l tl) : PI X tg l (iSeq X.K tl) := by
  refine ⟨fun pins s σ H R I h => ?_⟩
  refine thn (hl.run pins s σ H _ I h) fun v s1 ⟨x, H1, I1, r1, q1⟩ => ?_
  obtain ⟨a, e, q⟩ := q1
  subst e
  cases r1
  rcases q with ⟨⟨xs, hq⟩, q⟩ | ⟨⟨xs, hq⟩, q⟩
  · obtain ⟨its, rv, p, hz⟩ := I1.list hq
    refine wpAny_pyIter_list p.isList ?_
    refine ⟨s1.heap.objs.size, [s1.heap.objs.size], _, _, H1, rfl, I1.kept (t' := s1.toks) fun b o e => Heap.get?_push_of_some _ e, turn_list a _, ⟨_, Heap.get?_push_size _ rfl, rfl, rfl⟩, fun b hb => ?_, q⟩
    have e : b = s1.heap.objs.size := by simpa using hb
    subst e
    exact I1.fpOk (Nat.le_refl _) (I1.hok.fresh (Nat.le_refl _))
  · obtain ⟨its, rv, p, hz⟩ := I1.tuple hq
    refine wpAny_pyIter_tuple (show s1.heap.IsTuple a its.toArray from p) ?_
    refine ⟨s1.heap.objs.size, [s1.heap.objs.size], _, _, H1, rfl, I1.kept (t' := s1.toks) fun b o e => Heap.get?_push_of_some _ e, turn_tuple a _, ⟨_, Heap.get?_push_size _ rfl, rfl, rfl⟩, fun b hb => ?_, q⟩
    have e : b = s1.heap.objs.size := by simpa using hb
    subst e
    exact I1.fpOk (Nat.le_refl _) (I1.hok.fresh (Nat.le_refl _))
theorem si_seq {f : Env → M D} (h : PE X l (TEv X.K ca W f)) : PI X tg l (TIv X.K ca W fun env => M.bind (f env) fun d => M.ofOpt (itemsD d)) := by
  refine PI.mono (pi_seq h) fun σ H Q ⟨T, env, st, eb, so, w⟩ => ⟨T, env, st, eb, so, w.bind fun d1 st1 h1 w1 v1 H1 S1 e1 s1 r1 f1 => ?_⟩
  obtain ⟨ds, hds, q⟩ := w1.opt
  cases d1 <;> simp only [itemsD] at hds <;> first | (cases hds; done) | skip
  · cases hds
    cases r1 with
    | tup p1 q1 => exact ⟨_, rfl, .inr ⟨⟨_, p1.sqT⟩, q _ H1 e1 s1 (wk_tup p1.sqT q1.bw)⟩⟩
  · cases hds
    obtain ⟨p, xs, S', rfl, q1, p1⟩ := r1.sqS
    exact ⟨p, rfl, .inl ⟨⟨xs, p1 T H1 Ts.le_refl (Exw.refl _ _)⟩, q _ H1 e1 s1 (wk_list p1 q1.bw)⟩⟩
theorem si_r1 {f : Env → M D} (hg : Gl X "range") (hm : X.mg "range" = none) (h : PE X a (TEv X.K ca W f)) (hs : starEach [a] X.env = (false, eval a X.env) :: starEach [] X.env) :
    PI X tg (.Call (.Name "range" p) [a] [] pos) (TIv X.K ca W fun env => M.bind (f env) fun d => match d with | .int n => if rgOk 0 n then M.pure (rgD 0 n) else M.fail | _ => M.fail) := by
  refine PI.mono (pi_range1 hg hm (pa_cons h pa_nil hs) hs) fun σ H Q ⟨T, env, st, eb, so, w⟩ => ⟨T, env, st, eb, so, w.bind fun d1 st1 h1 w1 v1 H1 S1 e1 s1 r1 f1 => ?_⟩
  cases d1 with
  | int n =>
    obtain ⟨rfl, _⟩ := r1.intI
    dsimp only at w1
    split at w1
    · rename_i hc
      simp only [rgOk, Bool.and_eq_true, decide_eq_true_eq] at hc
      refine ⟨n, rfl, by omega, by omega, ?_⟩
      have := w1 (Itr 0 (n - 0).toNat) H1 e1 s1 (wk_rng 0 n)
      rw [Int.sub_zero] at this
      exact this
    · exact w1.elim
  | _ => exact w1.elim
theorem si_r2 {f g : Env → M D} (hg : Gl X "range") (hm : X.mg "range" = none) (h : PE X a (TEv X.K ca W f)) (h2 : PE X b (TEv X.K ca W g)) (hs : starEach [a, b] X.env = (false, eval a X.env) :: starEach [b] X.env) (hs2 : starEach [b] X.env = (false, eval b X.env) :: starEach [] X.env) :
    PI X tg (.Call (.Name "range" p) [a, b] [] pos) (TIv X.K ca W fun env => M.bind (f env) fun d => M.bind (g env) fun d' => match d, d' with | .int i, .int n => if rgOk i n then M.pure (rgD i n) else M.fail | _, _ => M.fail) := by
  refine PI.mono (pi_range2 hg hm (pa_cons h (pa_cons h2 pa_nil hs2) hs) (by rw [hs, hs2]; rfl) hs2) fun σ H Q ⟨T, env, st, eb, so, w⟩ => ⟨T, env, st, eb, so, w.bind fun d1 st1 h1 w1 v1 H1 S1 e1 s1 r1 f1 => ?_⟩
  refine ⟨T, env, st1, eb.ext e1, s1, (w1.ext e1 s1).bind fun d2 st2 h2 w2 v2 H2 S2 e2 s2 r2 f2 => ?_⟩
  cases d1 with
  | int i =>
    cases d2 with
    | int n =>
      obtain ⟨rfl, _⟩ := r1.intI
      obtain ⟨rfl, _⟩ := r2.intI
      dsimp only at w2
      split at w2
      · rename_i hc
        simp only [rgOk, Bool.and_eq_true, decide_eq_true_eq] at hc
        exact ⟨i, n, rfl, ⟨by omega, by omega, by omega, by omega⟩, w2 _ H2 (e1.trans e2) s2 (wk_rng i n)⟩
      · exact w2.elim
    | _ => exact w2.elim
  | _ => exact w2.elim
end
end PL
namespace PL
open PySem PySem.Spec PyProof.Rows L2

/-! ### targets -/
def setL : L2.St → List Nat → List V → L2.St
  | σ, i :: is, v :: vs => setL (σ.set i (some v)) is vs
  | σ, _, _ => σ
theorem setL_length : ∀ (is : List Nat) (σ : L2.St) (vs : List V), (setL σ is vs).length = σ.length
  | [], _, _ => rfl
  | i :: is, σ, [] => rfl
  | i :: is, σ, v :: vs => by
    unfold setL
    rw [setL_length is, List.length_set]
theorem setL_out : ∀ (is : List Nat) (σ : L2.St) (vs : List V) (j : Nat), j ∉ is → (setL σ is vs)[j]? = σ[j]?
  | [], _, _, _, _ => rfl
  | i :: is, σ, [], _, _ => rfl
  | i :: is, σ, v :: vs, j, h => by
    unfold setL
    rw [setL_out is _ vs j fun m => h (List.mem_cons_of_mem _ m), List.getElem?_set_ne fun e => h (by rw [e]; exact List.mem_cons_self)]
theorem wipe_get {σ : L2.St} {i : Nat} : ∀ {vs : List Nat}, (wipe σ vs)[i]? = if i ∈ vs then (if i < σ.length then some none else none) else σ[i]?
  | [] => by simp [wipe]
  | v :: vs => by
    unfold wipe
    rw [List.getElem?_set, wipe_length, wipe_get (vs := vs)]
    by_cases h : v = i
    · subst h
      simp
    · rw [if_neg h]
      have e : (i ∈ v :: vs) = (i ∈ vs) := by
        apply propext
        rw [List.mem_cons]
        exact ⟨fun z => z.elim (fun q => absurd q.symm h) id, .inr⟩
      simp only [e]
theorem wipe_setL (is : List Nat) (σ : L2.St) (us : List V) (vs : List Nat) (h : ∀ i ∈ is, i ∈ vs) : wipe (setL σ is us) vs = wipe σ vs := by
  apply List.ext_getElem?
  intro j
  rw [wipe_get, wipe_get, setL_length]
  by_cases hj : j ∈ vs
  · simp only [if_pos hj]
  · rw [if_neg hj, if_neg hj, setL_out _ _ _ _ fun m => hj (h j m)]
theorem wipe_wipe (σ : L2.St) (vs : List Nat) : wipe (wipe σ vs) vs = wipe σ vs := by
  apply List.ext_getElem?
  intro j
  rw [wipe_get, wipe_get, wipe_length]
  by_cases hj : j ∈ vs
  · simp only [if_pos hj]
  · rw [if_neg hj, if_neg hj]
theorem unset_length : ∀ (env : Env) (is : List Nat), (unset env is).length = env.length
  | _, [] => rfl
  | env, i :: is => by
    unfold unset
    rw [List.length_set, unset_length env is]
theorem unset_some {env : Env} {i : Nat} {x : D} : ∀ {vs : List Nat}, (unset env vs)[i]? = some (some x) → env[i]? = some (some x) ∧ i ∉ vs
  | [], h => ⟨h, by simp⟩
  | v :: vs, h => by
    unfold unset at h
    by_cases hi : v = i
    · subst hi
      by_cases hv : v < (unset env vs).length
      · rw [List.getElem?_set_self hv] at h; cases h
      · rw [List.getElem?_eq_none (by simpa using hv)] at h; cases h
    · rw [List.getElem?_set_ne hi] at h
      obtain ⟨h1, h2⟩ := unset_some h
      exact ⟨h1, by simp only [List.mem_cons, not_or]; exact ⟨fun e => hi e.symm, h2⟩⟩
section
variable {K : PySem.W.Frag} {T : Ts} {H H1 : Hp} {σ : L2.St} {env env' : Env}
theorem EB.wipe (b : EB K T H σ env) (is : List Nat) : EB K T H (wipe σ is) (unset env is) := ⟨by rw [unset_length, wipe_length]; exact b.len, fun i d h => by
  obtain ⟨h1, h2⟩ := unset_some h
  obtain ⟨v, h3, h4⟩ := b.get i d h1
  exact ⟨v, by rw [wipe_out h2]; exact h3, h4⟩⟩
theorem EB.set {i : Nat} {v : V} {d : D} (b : EB K T H σ env) (r : Rep K T H v d.bw []) : EB K T H (σ.set i (some v)) (env.set i (some d)) := ⟨by rw [List.length_set, List.length_set]; exact b.len, fun j e h => by
  by_cases hj : i = j
  · subst hj
    by_cases hi : i < env.length
    · rw [List.getElem?_set_self hi] at h
      cases h
      exact ⟨v, List.getElem?_set_self (by rw [← b.len]; exact hi), r⟩
    · rw [List.getElem?_eq_none (by rw [List.length_set]; omega)] at h
      cases h
  · rw [List.getElem?_set_ne hj] at h
    obtain ⟨w, h1, h2⟩ := b.get j e h
    exact ⟨w, by rw [List.getElem?_set_ne hj]; exact h1, h2⟩⟩
theorem EB.setL : ∀ (is : List Nat) (vs : List V) (ds : List D) (σ : L2.St) (env : Env), EB K T H σ env → RepL K T H vs (bwL ds) [] → EB K T H (setL σ is vs) ((is.zip (bwL ds)).foldl (fun e p => e.set p.1 (some p.2)) env)
  | [], vs, ds, σ, env, b, r => by
    rw [List.zip_nil_left]
    exact b
  | i :: is, [], [], σ, env, b, r => b
  | i :: is, v :: vs, d :: ds, σ, env, b, r => by
    generalize hS : ([] : List Addr) = S0 at r
    have r' : RepL K T H (v :: vs) (d.bw :: bwL ds) S0 := r
    cases r' with
    | cons r1 t1 =>
      obtain ⟨e1, e2⟩ := List.append_eq_nil_iff.mp hS.symm
      subst e1; subst e2
      exact EB.setL is vs ds _ _ (b.set r1.bw) t1
theorem RepL.lens {vs : List V} {ds : List D} {S : List Addr} (r : RepL K T H vs (bwL ds) S) : vs.length = ds.length := r.length.trans (bwL_length ds)
end
def TGv (K : PySem.W.Frag) (tg : List Nat) (tup : Bool) : TG := fun v σ H Q => ∃ T d env env', EB K T H σ env ∧ Rep K T H v d [] ∧ bindT tg tup d env = some env' ∧
  ∀ us, EB K T H (setL σ tg us) env' → Q (setL σ tg us) H
theorem PG.mono {X : Cx} {e : Expr} {t t' : TG} (h : PG X e t) (hm : ∀ v σ H Q, t' v σ H Q → t v σ H Q) : PG X e t' := ⟨fun pins s σ H v u Q I r w => h.run pins s σ H v u Q I r (hm v σ H Q w)⟩
theorem PGs.mono {X : Cx} {e : List Expr} {t t' : TGs} (h : PGs X e t) (hm : ∀ v σ H Q, t' v σ H Q → t v σ H Q) : PGs X e t' := ⟨fun pins s σ H v u Q I r w => h.run pins s σ H v u Q I r (hm v σ H Q w)⟩
def gNames (tg : List Nat) : TGs := fun vs σ H Q => vs.length = tg.length ∧ Q (setL σ tg vs) H
/-- the targets are names at these places -/
inductive NamesAt (X : Cx) : List Expr → List Nat → Prop
  | nil : NamesAt X [] []
  | cons {x : Str} {i : Nat} {p : Pos} {es : List Expr} {is : List Nat} (hi : X.N[i]? = some x) (hx : Loc X.env.scope x) (hf : X.fn x = true ∨ X.env.scope.names.lookup x = some .local) (h : NamesAt X es is) : NamesAt X (.Name x p :: es) (i :: is)
section
variable {X : Cx} {pos : Pos}
theorem sg_names (hN : X.N.Nodup) : ∀ {es : List Expr} {tg : List Nat}, NamesAt X es tg → PGs X es (gNames tg)
  | _, _, .nil => PGs.mono pgs_nil fun vs σ H Q ⟨h, q⟩ => ⟨List.eq_nil_of_length_eq_zero h, by
      have e : vs = [] := List.eq_nil_of_length_eq_zero h
      subst e
      exact q⟩
  | _, _, .cons hi hx hf h => by
    refine PGs.mono (pgs_cons (pg_name hN hi hx hf) (sg_names hN h) rfl) fun vs σ H Q ⟨hl, q⟩ => ?_
    cases vs with
    | nil => simp at hl
    | cons v vs => exact ⟨v, vs, rfl, by simpa using hl, q⟩
theorem names_each : ∀ {es : List Expr} {tg : List Nat}, NamesAt X es tg → ∀ env, (assignEach es env).length = tg.length ∧ (assignEach es env).findIdx? (·.1) = none
  | _, _, .nil, env => ⟨rfl, rfl⟩
  | _, _, .cons hi hx hf h, env => by
    obtain ⟨h1, h2⟩ := names_each h env
    rename_i x i p es is
    have e : assignEach (.Name x p :: es) env = (false, assign (.Name x p) env) :: assignEach es env := rfl
    rw [e]
    refine ⟨by rw [List.length_cons, List.length_cons, h1], ?_⟩
    rw [List.findIdx?_cons]
    simp [h2]
theorem sg_name {x : Str} {i : Nat} (hN : X.N.Nodup) (hi : X.N[i]? = some x) (hx : Loc X.env.scope x) (hf : X.fn x = true ∨ X.env.scope.names.lookup x = some .local) : PG X (.Name x pos) (TGv X.K [i] false) := by
  refine PG.mono (pg_name hN hi hx hf) fun v σ H Q ⟨T, d, env, env', eb, r, hb, q⟩ => ?_
  cases hb
  exact q [v] (eb.set r.bw)
theorem sg_tup {es : List Expr} {tg : List Nat} {k : Nat} (hc : X.calm = true) (hN : X.N.Nodup) (h : NamesAt X es tg) : PG X (.Tuple es k pos) (TGv X.K tg true) := by
  obtain ⟨h1, h2⟩ := names_each h X.env
  refine PG.mono (pg_tup hc (sg_names hN h) h1 h2) fun v σ H Q ⟨T, d, env, env', eb, r, hb, q⟩ => ?_
  cases d with
  | tup ds =>
    simp only [bindT] at hb
    split at hb
    · rename_i hl
      cases hb
      cases r with
      | tup p1 r1 =>
        have hlen := r1.length
        exact ⟨_, _, rfl, p1.sqT, by omega, by omega, q _ (EB.setL tg _ ds σ env eb r1.bw)⟩
    · cases hb
  | _ => simp [bindT] at hb
end

/-! ### comprehensions -/
section
variable {X : Cx} {ca : Cls_} {W : WX} {pos : Pos}
abbrev W0 : WX := fun _ _ _ _ => False
theorem PTs.mono {e : List Expr} {t t' : TT} (h : PTs X e t) (hm : ∀ σ H Q, t' σ H Q → t σ H Q) : PTs X e t' := ⟨fun pins s σ H Q I w => h.run pins s σ H Q I (hm σ H Q w)⟩
theorem sts_nil : PTs X [] (TTv X.K ca W fun _ => M.pure true) := PTs.mono pts_nil fun σ H Q ⟨T, env, st, eb, so, w⟩ => w H (Ext.refl _ _) so
theorem sts_one {c : Expr} {f : Env → M D} (h : PT X c (TTv X.K ca W (tstD f))) : PTs X [c] (TTv X.K ca W (ifsF f fun _ => M.pure true)) := by
  refine PTs.mono (pts_one h) fun σ H Q ⟨T, env, st, eb, so, w⟩ => ⟨T, env, st, eb, so, ?_⟩
  refine w.bind fun b st1 h1 w1 => ?_
  cases b <;> exact w1
theorem Ext.sh {T : Ts} {D : Addr} {H H' : Hp} (e : Ext (T.hide D) H H') : Ext T H H' := fun a o h n => e a o h n
theorem compM_step {f : D → M (List D)} {xs : List D} {i : Nat} {x : D} {st st2 : Store} {ys : List D} (h : xs[i]? = some x) (c : compM f (xs.drop i) st = .ok ys st2) :
    ∃ ys1 st1 ys2, f x st = .ok ys1 st1 ∧ compM f (xs.drop (i + 1)) st1 = .ok ys2 st2 ∧ ys = ys1 ++ ys2 := by
  obtain ⟨hl, rfl⟩ := List.getElem?_eq_some_iff.mp h
  rw [List.drop_eq_getElem_cons hl] at c
  unfold compM M.bind at c
  cases hf : f xs[i] st with
  | ok a st1 =>
    rw [hf] at c
    dsimp only at c
    cases hg : compM f (xs.drop (i + 1)) st1 with
    | ok b st3 =>
      rw [hg] at c
      cases c
      exact ⟨_, _, _, rfl, hg, rfl⟩
    | exn c' p st3 => rw [hg] at c; cases c
    | err => rw [hg] at c; cases c
  | exn c' p st1 => rw [hf] at c; cases c
  | err => rw [hf] at c; cases c
theorem bind_ok {α β : Type} {m : M α} {k : α → M β} {st st2 : Store} {b : β} (h : M.bind m k st = .ok b st2) : ∃ a st1, m st = .ok a st1 ∧ k a st1 = .ok b st2 := by
  unfold M.bind at h
  cases hm : m st with
  | ok a st1 => rw [hm] at h; exact ⟨a, st1, rfl, h⟩
  | exn c p st1 => rw [hm] at h; cases h
  | err => rw [hm] at h; cases h
theorem quiet_ok {α : Type} {m : M α} {T : Ts} {H : Hp} {σ : L2.St} {st : Store} {Q : α → Store → Prop} {K : PySem.W.Frag} (w : Wish K ca W T H σ (M.quiet m st) Q) : ∃ a st1, m st = .ok a st1 ∧ Q a st1 := by
  unfold M.quiet at w
  cases hm : m st with
  | ok a st1 => rw [hm] at w; exact ⟨a, st1, rfl, w⟩
  | exn c p st1 => rw [hm] at w; exact w.elim
  | err => rw [hm] at w; exact w.elim
theorem compM_len {f : D → M (List D)} (hf : ∀ x st ys st', f x st = .ok ys st' → ys.length ≤ 1) : ∀ {xs : List D} {st st' : Store} {ys : List D}, compM f xs st = .ok ys st' → ys.length ≤ xs.length
  | [], st, st', ys, h => by
    cases h
    exact Nat.le_refl _
  | x :: xs, st, st', ys, h => by
    obtain ⟨a, st1, h1, h2⟩ := bind_ok h
    obtain ⟨b, st2, h3, h4⟩ := bind_ok h2
    cases h4
    have := hf _ _ _ _ h1
    have := compM_len hf h3
    rw [List.length_append, List.length_cons]
    omega
theorem turn_len {tg : List Nat} {tup : Bool} {own : List Nat} {fi : Env → M Bool} {fe : Env → M D} {env : Env} (x : D) (st : Store) (ys : List D) (st' : Store) (h : turnF tg tup own fi fe env x st = .ok ys st') : ys.length ≤ 1 := by
  unfold turnF at h
  cases hb : bindT tg tup x (unset env own) with
  | some env' =>
    rw [hb] at h
    obtain ⟨b, st1, h1, h2⟩ := bind_ok h
    cases b with
    | true =>
      obtain ⟨y, st2, h3, h4⟩ := bind_ok (show M.bind (fe _) (fun y => M.pure [y]) st1 = .ok ys st' from h2)
      cases h4
      exact Nat.le_refl _
    | false =>
      cases (show M.pure [] st1 = .ok ys st' from h2)
      exact Nat.zero_le _
  | none => rw [hb] at h; cases h
theorem rd_comp {K : PySem.W.Frag} {own : List (Str × Nat)} {tg : List Nat} {tup : Bool} {fit : Env → M (List D)} {fi : Env → M Bool} {fe : Env → M D} (htg : ∀ i ∈ tg, i ∈ own.map (·.2)) {σ : L2.St} {H : Hp} {Q : VK}
    (w : TEv K ca W (fun env => M.bind (fit env) fun xs => M.bind (M.quiet (compM (turnF tg tup (own.map (·.2)) fi fe env) xs)) fun ys => if ys.length ≤ LIM then M.pure (.lst .own ys) else M.fail) σ H Q) :
    tLc (TIv K ca W fit) (TGv K tg tup) (TTv K ca W0 fi) (TEv K ca W0 fe) (own.map (·.2)) σ H Q := by
  obtain ⟨T, env, st, eb, so, w⟩ := w
  refine ⟨T, env, st, eb, so, w.bind fun xs st1 h1 w1 J H1 e1 s1 wk D hD => ?_⟩
  have w2 := w1.bind (R := fun ys st' => ys.length ≤ LIM ∧ ∀ v H' S, Ext T H H' → SOk K T H' st' → Rep K T H' v (.lst .own ys) S → Fr H S → Q v H') fun ys st2 hq w => by
    split at w
    · rename_i hl; exact ⟨hl, w⟩
    · exact w.elim
  obtain ⟨ys, st2, hcm, hlim, q⟩ := quiet_ok w2
  have le : T.le (T.hide D) H1 := Ts.le_hide hD
  have sm : Same H1 (upd H1 D (.lst [])) := same_upd hD
  refine ⟨fun i m Hc => ∃ st_i ys1 ys2 acc S, m = xs.length - i ∧ i ≤ xs.length ∧ compM (turnF tg tup (own.map (·.2)) fi fe env) (xs.drop i) st_i = .ok ys2 st2 ∧ ys = ys1 ++ ys2 ∧
    Exw (T.hide D) (upd H1 D (.lst [])) Hc ∧ Ext T H1 Hc ∧ SOk K (T.hide D) Hc st_i ∧ Hc D = some (.lst acc) ∧ RepL K (T.hide D) Hc acc ys1 S ∧ S.Nodup ∧ ∀ a ∈ S, H1 a = none, ⟨xs.length, st1, [], ys, [], [], by simp, Nat.zero_le _, by simpa using hcm, rfl, Exw.refl _ _, Ext.of_same sm, s1.hide hD, upd_same, .nil, List.nodup_nil, fun _ m => nomatch m⟩, ?_⟩
  rintro i m Hc ⟨st_i, ys1, ys2, acc, S, rfl, hi, hcomp, hy, ex, e2, so2, hDc, racc, nd, frs⟩
  obtain ⟨wgo, wstop⟩ := wk (T.hide D) Hc le ((Ext.of_same sm).w.trans ex)
  cases hx : xs[i]? with
  | none =>
    refine .inl ⟨wstop i hx, ?_⟩
    have hi2 : xs.length ≤ i := List.getElem?_eq_none_iff.mp hx
    rw [List.drop_eq_nil_of_le hi2] at hcomp
    cases hcomp
    have ey : ys = ys1 := by rw [hy, List.append_nil]
    subst ey
    refine q (.ref D) Hc (D :: S) (e1.trans e2) so2.unhide (.own hDc ?_ racc.unhide) ⟨List.nodup_cons.mpr ⟨fun m => (racc.noT D m).2 List.mem_cons_self, nd⟩, fun a m => ?_⟩
    · exact s1.fresh hD
    · rcases List.mem_cons.mp m with e | m
      · rw [e]; exact free_back e1 s1 hD
      · exact free_back e1 s1 (frs a m)
  | some x =>
    obtain ⟨yv1, st_j, yv2, hf, hcomp2, hyy⟩ := compM_step hx hcomp
    have hilt : i < xs.length := (List.getElem?_eq_some_iff.mp hx).1
    obtain ⟨go, yl⟩ := wgo i x hx
    refine .inr ⟨go, fun H' => ∃ acc' S', Exw (T.hide D) (upd H1 D (.lst [])) H' ∧ Ext T H1 H' ∧ SOk K (T.hide D) H' st_j ∧ H' D = some (.lst acc') ∧ RepL K (T.hide D) H' acc' (ys1 ++ yv1) S' ∧ S'.Nodup ∧ ∀ a ∈ S', H1 a = none, fun H' ⟨acc', S', a1, a2, a3, a4, a5, a6, a7⟩ => ⟨xs.length - (i + 1), by omega, st_j, ys1 ++ yv1, yv2, acc', S', rfl, hilt, hcomp2, by rw [hy, hyy, List.append_assoc], a1, a2, a3, a4, a5, a6, a7⟩, fun xv H'' yld => ?_⟩
    obtain ⟨rfl, rx⟩ := yl xv H'' yld
    unfold turnF at hf
    cases hb : bindT tg tup x (unset env (own.map (·.2))) with
    | none => rw [hb] at hf; cases hf
    | some env' =>
      rw [hb] at hf
      have ebc : EB K (T.hide D) H'' (wipe σ (own.map (·.2))) (unset env (own.map (·.2))) := by
        have b1 : EB K (T.hide D) H1 σ env := (eb.ext e1).le le
        have b2 : EB K (T.hide D) H'' σ env := ⟨b1.len, fun j d h => by
          obtain ⟨v, g1, g2⟩ := b1.get j d h
          exact ⟨v, g1, (g2.exw (Ext.of_same sm).w).exw ex⟩⟩
        exact b2.wipe _
      refine ⟨T.hide D, x, _, env', ebc, rx, hb, fun us eb' => ⟨by rw [wipe_setL _ _ _ _ htg, wipe_wipe], ?_⟩⟩
      obtain ⟨b, st3, hfi, hrest⟩ := bind_ok hf
      have hsh : Wish K ca W0 (T.hide D) H'' (setL (wipe σ (own.map (·.2))) tg us) (fi env' st_i) (fun b' st' => b' = b ∧ st' = st3) := by
        rw [hfi]; exact ⟨rfl, rfl⟩
      refine ⟨T.hide D, env', st_i, eb', so2, hsh.imp fun b' st' _ ⟨z1, z2⟩ H3 e3 so3 => ?_⟩
      subst z1; subst z2
      have hD3 : H3 D = some (.lst acc) := e3 D _ hDc (.inl fun m => (s1.fresh hD).1 m)
      cases b' with
      | false =>
        cases (show M.pure [] st' = .ok yv1 st_j from hrest)
        rw [if_neg Bool.false_ne_true]
        refine ⟨acc, S, ex.trans e3.w, e2.trans e3.sh, so3, hD3, by rw [List.append_nil]; exact racc.ext e3, nd, frs⟩
      | true =>
        obtain ⟨y, st4, hfe, hp⟩ := bind_ok (show M.bind (fe env') (fun y => M.pure [y]) st' = .ok yv1 st_j from hrest)
        cases hp
        rw [if_pos rfl]
        have hsh2 : Wish K ca W0 (T.hide D) H3 (setL (wipe σ (own.map (·.2))) tg us) (fe env' st') (fun y' st'' => y' = y ∧ st'' = st_j) := by
          rw [hfe]; exact ⟨rfl, rfl⟩
        refine ⟨T.hide D, env', st', eb'.ext e3, so3, hsh2.imp fun y' st'' _ ⟨z1, z2⟩ v H4 S4 e4 so4 rv f4 => ?_⟩
        subst z1; subst z2
        have hD4 : H4 D = some (.lst acc) := e4 D _ hD3 (.inl fun m => (s1.fresh hD).1 m)
        have racc4 := (racc.ext e3).ext e4
        have hup : Exw (T.hide D) H4 (upd H4 D (.lst (acc ++ [v]))) := Exw.upd_hid ⟨acc, hD4⟩
        have e14 : Ext T H1 H4 := (e2.trans e3.sh).trans e4.sh
        have hl2 : acc.length < sizeLine := by
          have l1 := racc.length
          have l2 : ys1.length ≤ ys.length := by rw [hy, List.length_append]; omega
          exact lim_lt (by omega)
        have frS4 : ∀ a ∈ S4, H1 a = none := fun a m => free_back (e2.trans e3.sh) (SOk.unhide so3) (f4.2 a m)
        refine ⟨acc, hD4, hl2, acc ++ [v], S ++ S4, (ex.trans (e3.w.trans e4.w)).trans hup, ?_, ?_, upd_same, ?_, ?_, ?_⟩
        · intro a o h n
          have ne : a ≠ D := fun z => by rw [z, hD] at h; cases h
          rw [upd_ne ne]
          exact e14 a o h n
        · refine ⟨so4.nd, so4.len, fun n a ds g1 g2 => ?_, fun a m => ?_⟩
          · obtain ⟨zs, g3, g4, g5⟩ := so4.at_ n a ds g1 g2
            have ne : a ≠ D := fun z => (s1.fresh hD).1 (by rw [← z]; exact List.mem_of_getElem? g1)
            exact ⟨zs, by rw [upd_ne ne]; exact g3, g4.exw hup, g5⟩
          · by_cases ne : a = D
            · rw [ne]; exact ⟨_, upd_same⟩
            · rw [upd_ne ne]; exact so4.hid a m
        · exact RepL.append (racc4.exw hup) (by simpa using RepL.cons (rv.exw hup) RepL.nil)
        · refine List.nodup_append.mpr ⟨nd, f4.1, fun a m b mb z => ?_⟩
          subst z
          obtain ⟨zs, g⟩ := racc.dom a m
          have := e3 a _ g (.inl (racc.noT a m).1)
          rw [f4.2 a mb] at this
          cases this
        · intro a m
          rcases List.mem_append.mp m with m | m
          · exact frs a m
          · exact frS4 a m
theorem sv_comp {elt tge iter : Expr} {ifs : List Expr} {scope : Scope} {own : List (Str × Nat)} {tg : List Nat} {tup : Bool} {fit : Env → M (List D)} {fi : Env → M Bool} {fe : Env → M D} (hc : X.calm = true) (hN : X.N.Nodup) (hi : PI X tge iter (TIv X.K ca W fit)) (ok : BlkOk X.N X.env.scope scope own) (htg : ∀ i ∈ tg, i ∈ own.map (·.2))
    (hg : ∀ (s : Shared) (H : Hp) (C : Addr) (cl : List (Str × Addr)) (fp : List Addr), PG (X.blk s H scope (compEnvC scope cl C X.env) fp) tge (TGv X.K tg tup)) (ht : ∀ (s : Shared) (H : Hp) (C : Addr) (cl : List (Str × Addr)) (fp : List Addr), PTs (X.blk s H scope (compEnvC scope cl C X.env) fp) ifs (TTv X.K ca W0 fi))
    (he : ∀ (s : Shared) (H : Hp) (C : Addr) (cl : List (Str × Addr)) (fp : List Addr), PE (X.blk s H scope (compEnvC scope cl C X.env) fp) elt (TEv X.K ca W0 fe)) (hs : ∀ x, foldedSetIterable iter X.env x = Pure.pure x) :
    PE X (.ListComp elt [⟨tge, iter, ifs, 0⟩] scope pos) (TEv X.K ca W fun env => M.bind (fit env) fun xs => M.bind (M.quiet (compM (turnF tg tup (own.map (·.2)) fi fe env) xs)) fun ys => if ys.length ≤ LIM then M.pure (.lst .own ys) else M.fail) := PE.mono (pe_lc hc hN hi ok hg ht he hs) fun _ _ _ w => rd_comp htg w
end
end PL
namespace PL
open PySem PySem.Spec PyProof.Rows L2

/-! ### statements -/
mutual
inductive St where
  | set (i : Nat) (e : E) | setT (is : List Nat) (e : E) | par (is : List Nat) (es : Es)
  | aug (i : Nat) (op : Bop) (e : E)
  | setIx (i : Nat) (ix e : E) | setIx2 (i : Nat) (ix jx e : E) | augIx (i : Nat) (ix : E) (op : Bop) (e : E)
  | swap (i : Nat) (a b c d : E)
  | append (i : Nat) (e : E) | extend (i : Nat) (e : E) | popT (tg : List Nat) (tup : Bool) (i : Nat) | popAt (tg : List Nat) (tup : Bool) (i : Nat) (e : E)
  | expr (e : E)
  | ite (c : E) (a b : Sts) | whl (n : Nat) (c : E) (b : Sts) | for_ (tg : List Nat) (tup : Bool) (it : It) (b : Sts)
  | ret (e : E) | retV (i : Nat) | retN | pass | brk | cont | bad
inductive Sts where
  | nil | cons (s : St) (ss : Sts) | frz (i : Nat) (ss : Sts) | share (i : Nat) (ss : Sts)
end
inductive Fl where
  | nx (env : Env) | rt (d : D) | bk (env : Env) | ct (env : Env)
def itF (fe : Env → M D) : Env → M (List D) := fun env => M.bind (fe env) fun d => if d.keep then M.ofOpt (itemsD d.frz) else M.fail
def itRF (fe : Env → M D) : Env → M (List D) := fun env => M.bind (fe env) fun d => if d.keep then M.ofOpt ((itemsD d.frz).map List.reverse) else M.fail
def setF (i : Nat) (f : Env → M D) : Env → M Fl := fun env => M.bind (f env) fun d => if d.keep then M.pure (.nx (env.set i (some d))) else M.fail
def seqF (f g : Env → M Fl) : Env → M Fl := fun env => M.bind (f env) fun fl => match fl with
  | .nx env' => g env'
  | fl => M.pure fl
def iteF (c : Env → M Bool) (f g : Env → M Fl) : Env → M Fl := fun env => M.bind (c env) fun b => if b then f env else g env
def forM (tg : List Nat) (tup : Bool) (f : Env → M Fl) : List D → Env → M Fl
  | [], env => M.pure (.nx env)
  | x :: xs, env => M.bind (match bindT tg tup x env with | some env' => f env' | none => M.fail) fun fl => match fl with
    | .nx e => forM tg tup f xs e
    | .ct e => forM tg tup f xs e
    | .bk e => M.pure (.nx e)
    | .rt d => M.pure (.rt d)
def whileM (c : Env → M Bool) (f : Env → M Fl) : Nat → Env → M Fl
  | 0, _ => M.fail
  | n + 1, env => M.bind (c env) fun b => if b then M.bind (f env) fun fl => match fl with
    | .nx e => whileM c f n e
    | .ct e => whileM c f n e
    | .bk e => M.pure (.nx e)
    | .rt d => M.pure (.rt d)
    else M.pure (.nx env)
def retF (f : Env → M D) : Env → M Fl := fun env => M.bind (f env) fun d => if d.keep then M.pure (.rt d) else M.fail
def retVF (i : Nat) : Env → M Fl := fun env => match env[i]? with
  | some (some d) => M.pure (.rt d)
  | _ => M.fail
def frzF (i : Nat) (g : Env → M Fl) : Env → M Fl := fun env => match env[i]? with
  | some (some d) => g (env.set i (some d.frz))
  | _ => M.fail
def shareF (i : Nat) (g : Env → M Fl) : Env → M Fl := fun env => match env[i]? with
  | some (some (.lst .own ds)) => fun st => g (env.set i (some (.sref st.length))) (st ++ [frzL ds])
  | _ => M.fail
/-- x[k] = d of what x holds -/
def updF (i : Nat) (k : Int) (d : D) (env : Env) : M Fl := match env[i]? with
  | some (some (.lst .own ds)) => match ixN ds.length k with
    | some j => M.pure (.nx (env.set i (some (.lst .own (ds.set j d)))))
    | none => M.fail
  | some (some (.sref n)) => fun st => match st[n]? with
    | some ds => match ixN ds.length k with
      | some j => if d.noOwn then .ok (.nx env) (st.set n (ds.set j d)) else .err
      | none => .err
    | none => .err
  | _ => M.fail
def setIxF (i : Nat) (fx f : Env → M D) : Env → M Fl := fun env => match env[i]? with
  | some (some _) => M.bind (f env) fun d => M.bind (fx env) fun x => match x with
    | .int k => if d.keep then updF i k d env else M.fail
    | _ => M.fail
  | _ => M.fail
/-- x[k][l] = d of a list of lists of one's own -/
def setIx2F (i : Nat) (fx fy f : Env → M D) : Env → M Fl := fun env => match env[i]? with
  | some (some (.lst .own ds)) => M.bind (f env) fun d => M.bind (fx env) fun x => match x with
    | .int k => match ixN ds.length k with
      | some j => match ds[j]? with
        | some (.lst .own es) => M.bind (fy env) fun y => match y with
          | .int l => match ixN es.length l with
            | some m => if d.keep then M.pure (.nx (env.set i (some (.lst .own (ds.set j (.lst .own (es.set m d))))))) else M.fail
            | none => M.fail
          | _ => M.fail
        | _ => M.fail
      | none => M.fail
    | _ => M.fail
  | _ => M.fail
/-- x[a], x[b] = x[c], x[d]: two items change places -/
def swapF (i : Nat) (fa fb fc fd : Env → M D) : Env → M Fl := fun env => match env[i]? with
  | some (some (.lst .own ds)) => M.bind (fc env) fun xc => match xc with
    | .int kc => match ixN ds.length kc with
      | some jc => match ds[jc]? with
        | some dc => M.bind (fd env) fun xd => match xd with
          | .int kd => match ixN ds.length kd with
            | some jd => match ds[jd]? with
              | some dd => M.bind (fa env) fun xa => match xa with
                | .int ka => if ixN ds.length ka = some jd then M.bind (M.quiet (fb (env.set i (some (.lst .own (ds.set jd dc)))))) fun xb => match xb with
                  | .int kb => if ixN ds.length kb = some jc then M.pure (.nx (env.set i (some (.lst .own ((ds.set jd dc).set jc dd))))) else M.fail
                  | _ => M.fail
                  else M.fail
                | _ => M.fail
              | none => M.fail
            | none => M.fail
          | _ => M.fail
        | none => M.fail
      | none => M.fail
    | _ => M.fail
  | _ => M.fail
def appF (i : Nat) (f : Env → M D) : Env → M Fl := fun env => match env[i]? with
  | some (some (.lst .own ds)) => M.bind (f env) fun d => if d.keep && decide (ds.length < LIM) then M.pure (.nx (env.set i (some (.lst .own (ds ++ [d]))))) else M.fail
  | _ => M.fail
def exprF (f : Env → M D) : Env → M Fl := fun env => M.bind (f env) fun _ => M.pure (.nx env)
/-- two names at once -/
def setN : Env → List Nat → List D → Env
  | env, i :: is, d :: ds => setN (env.set i (some d)) is ds
  | env, _, _ => env
def parF (is : List Nat) (f : Env → M (List D)) : Env → M Fl := fun env => M.bind (f env) fun ds => if keepL ds && decide (ds.length = is.length) then M.pure (.nx (setN env is ds)) else M.fail
def setTF (is : List Nat) (f : Env → M D) : Env → M Fl := fun env => M.bind (f env) fun d => match d with
  | .tup ds => if keepL ds && decide (ds.length = is.length) then M.pure (.nx (setN env is ds)) else M.fail
  | _ => M.fail
def augF (i : Nat) (op : Bop) (f : Env → M D) : Env → M Fl := fun env => match env[i]? with
  | some (some (.int a)) => M.bind (f env) fun d => match op, d with
    | .add, .int b => M.pure (.nx (env.set i (some (.int (a + b)))))
    | .sub, .int b => M.pure (.nx (env.set i (some (.int (a - b)))))
    | _, _ => M.fail
  | _ => M.fail
section
variable (call : Nat → List D → M D)
def evF : It → Env → M (List D)
  | .seq e => itF (ev call e)
  | .rev e => itRF (ev call e)
  | it => evI call it
mutual
def exec : St → Env → M Fl
  | .set i e => setF i (ev call e)
  | .setT is e => setTF is (ev call e)
  | .par is es => parF is (evs call es)
  | .aug i op e => augF i op (ev call e)
  | .setIx i ix e => setIxF i (ev call ix) (ev call e)
  | .setIx2 i ix jx e => setIx2F i (ev call ix) (ev call jx) (ev call e)
  | .swap i a b c d => swapF i (ev call a) (ev call b) (ev call c) (ev call d)
  | .append i e => appF i (ev call e)
  | .expr e => exprF (ev call e)
  | .ite c a b => iteF (tstD (ev call c)) (execs a) (execs b)
  | .whl n c b => whileM (tstD (ev call c)) (execs b) n
  | .for_ tg tup it b => fun env => M.bind (evF call it env) fun xs => forM tg tup (execs b) xs env
  | .ret e => retF (ev call e)
  | .retV i => retVF i
  | .retN => fun _ => M.pure (.rt .non)
  | .pass => fun env => M.pure (.nx env)
  | .brk => fun env => M.pure (.bk env)
  | .cont => fun env => M.pure (.ct env)
  | _ => fun _ => M.fail
def execs : Sts → Env → M Fl
  | .nil => fun env => M.pure (.nx env)
  | .cons s ss => seqF (exec s) (execs ss)
  | .frz i ss => frzF i (execs ss)
  | .share i ss => shareF i (execs ss)
end
end

/-! ### frozen -/
section
variable {X : Cx} {pins : List (Addr × Obj)} {σ : L2.St} {H : Hp} {s : Shared}
theorem Inv.freeze (I : Inv X pins σ H s) {a : Addr} {xs : List V} (h : H a = some (.lst xs)) : ∃ o, Inv X pins σ (upd H a (.frz o (.lst xs))) s := by
  obtain ⟨hz, its, n, r, e⟩ := I.hok a _ h
  refine ⟨{ cls := .type "list", data := .seq its.toArray n }, ?_⟩
  have ne : ∀ b, H b = none → b ≠ a := fun b q z => by rw [z, h] at q; cases q
  refine ⟨I.ok, I.os, I.bare, ⟨I.base.keep, I.base.slot, fun b o q n hx => ?_, I.base.there, fun b xs q => ?_, fun b o u q => ?_, fun b ps q => ?_⟩, I.loc, I.cell, ?_, fun x c q => ?_, fun p hp => ?_, fun b u q => ?_, I.len⟩
  · have z := I.base.free b o q n hx
    rw [upd_ne (ne b z)]; exact z
  · have z := I.base.tups b xs q
    rw [upd_ne (fun w => by rw [w, h] at z; cases z)]; exact z
  · have z := I.base.frzs b o u q
    rw [upd_ne (fun w => by rw [w, h] at z; cases z)]; exact z
  · obtain ⟨m, z⟩ := I.base.tbls b ps q
    exact ⟨m, by rw [upd_ne (fun w => by rw [w, h] at z; cases z)]; exact z⟩
  · rw [upd_ne (ne _ I.free)]; exact I.free
  · rw [upd_ne (ne _ (I.freeC x c q))]; exact I.freeC x c q
  · obtain ⟨p1, p2, p3, p4, p5⟩ := I.pin p hp
    exact ⟨p1, by rw [upd_ne (ne _ p2)]; exact p2, p3, p4, p5⟩
  · by_cases hb : b = a
    · subst hb
      rw [upd_same] at q
      cases q
      exact ⟨e, hz, its, n, r, e⟩
    · rw [upd_ne hb] at q
      refine (I.hok b u q).stay (fun c v _ z => z) (fun c z => ?_) fun c xs z => ?_
      · rw [upd_ne (fun w => by rw [w, h] at z; cases z)]; exact z
      · rw [upd_ne (fun w => by rw [w, h] at z; cases z)]; exact z
/-- the lists at S are frozen -/
structure Fz (S : List Addr) (H H2 : Hp) : Prop where
  out : ∀ b, ¬ b ∈ S → H2 b = H b
  at_ : ∀ a ∈ S, ∃ o xs, H a = some (.lst xs) ∧ H2 a = some (.frz o (.lst xs))
theorem Fz.nil (H : Hp) : Fz [] H H := ⟨fun _ _ => rfl, fun _ h => nomatch h⟩
theorem Inv.freezeS : ∀ (S : List Addr) {H : Hp}, Inv X pins σ H s → S.Nodup → (∀ a ∈ S, ∃ xs, H a = some (.lst xs)) → ∃ H2, Inv X pins σ H2 s ∧ Fz S H H2
  | [], H, I, _, _ => ⟨H, I, Fz.nil H⟩
  | a :: S, H, I, nd, h => by
    obtain ⟨n1, n2⟩ := List.nodup_cons.mp nd
    obtain ⟨H1, I1, f⟩ := Inv.freezeS S I n2 fun b m => h b (List.mem_cons_of_mem _ m)
    obtain ⟨xs, hx⟩ := h a List.mem_cons_self
    have h1 : H1 a = some (.lst xs) := (f.out a n1).trans hx
    obtain ⟨o, I2⟩ := Inv.freeze I1 h1
    refine ⟨_, I2, fun b m => ?_, fun b m => ?_⟩
    · have m1 : b ≠ a := fun z => m (by rw [z]; exact List.mem_cons_self)
      rw [upd_ne m1]
      exact f.out b fun z => m (List.mem_cons_of_mem _ z)
    · by_cases hb : b = a
      · subst hb; exact ⟨o, xs, hx, upd_same⟩
      · rw [upd_ne hb]
        exact f.at_ b ((List.mem_cons.mp m).elim (fun z => absurd z hb) id)
end
/-- all but lists stays -/
def Imx (H H' : Hp) : Prop := ∀ a o, H a = some o → (∀ xs, o ≠ .lst xs) → H' a = some o
theorem Imx.refl (H : Hp) : Imx H H := fun _ _ h _ => h
theorem Imx.trans {H H1 H2 : Hp} (a : Imx H H1) (b : Imx H1 H2) : Imx H H2 := fun c o h n => b c o (a c o h n) n
theorem Ext.imx {T : Ts} {H H' : Hp} (e : Ext T H H') : Imx H H' := fun a o h n => e a o h (.inr n)
theorem Fz.imx {S : List Addr} {H H2 : Hp} (f : Fz S H H2) : Imx H H2 := fun a o h n => by
  by_cases m : a ∈ S
  · obtain ⟨_, xs, q, _⟩ := f.at_ a m
    rw [q] at h; cases h
    exact absurd rfl (n _)
  · rw [f.out a m]; exact h
section
variable {K : PySem.W.Frag} {T T' : Ts} {H H' H2 : Hp} {S : List Addr}
mutual
theorem Rep.imm (e : Imx H H') (t : ∀ (n : Nat) (a : Addr), T.sh[n]? = some a → T'.sh[n]? = some a) : ∀ {v : V} {d : D} {S0 : List Addr}, Rep K T H v d S0 → S0 = [] → d.keep = true → Rep K T' H' v d []
  | _, _, _, .non, _, _ => .non
  | _, _, _, .bl b, _, _ => .bl b
  | _, _, _, .int i, _, _ => .int i
  | _, _, _, .str x, _, _ => .str x
  | _, _, _, .tup h r, z, k => by
    refine .tup ?_ (RepL.imm e t r z (by simpa [D.keep] using k))
    obtain ⟨o, h, t⟩ := h
    exact ⟨o, e _ _ h (fun _ z => nomatch z), t⟩
  | _, _, _, .own h _ r, z, k => by cases z
  | _, _, _, .fro h r k, _, _ => .fro (e _ _ h fun _ z => nomatch z) (RepL.imm e t r rfl k) k
  | _, _, _, .bor h _ r, _, k => by simp [D.keep] at k
  | _, _, _, .scr h r k, _, _ => by
    refine .scr ?_ (RepL.imm e t r rfl k) k
    rcases h with ⟨o, h⟩ | h
    · exact .inl ⟨o, e _ _ h fun _ z => nomatch z⟩
    · exact .inr h
  | _, _, _, .sref h, _, _ => .sref (t _ _ h)
theorem RepL.imm (e : Imx H H') (t : ∀ (n : Nat) (a : Addr), T.sh[n]? = some a → T'.sh[n]? = some a) : ∀ {vs : List V} {ds : List D} {S0 : List Addr}, RepL K T H vs ds S0 → S0 = [] → keepL ds = true → RepL K T' H' vs ds []
  | _, _, _, .nil, _, _ => .nil
  | _, _, _, .cons r q, z, k => by
    simp only [keepL, Bool.and_eq_true] at k
    obtain ⟨z1, z2⟩ := List.append_eq_nil_iff.mp z
    exact .cons (S := []) (S' := []) (Rep.imm e t r z1 k.1) (RepL.imm e t q z2 k.2)
end
mutual
theorem Rep.frz (f : Fz S H H2) : ∀ {v : V} {d : D} {S0 : List Addr}, Rep K T H v d S0 → (∀ a ∈ S0, a ∈ S) → d.keep = true → Rep K T H2 v d.frz [] ∧ d.frz.keep = true
  | _, _, _, .non, _, _ => ⟨.non, rfl⟩
  | _, _, _, .bl b, _, _ => ⟨.bl b, rfl⟩
  | _, _, _, .int i, _, _ => ⟨.int i, rfl⟩
  | _, _, _, .str x, _, _ => ⟨.str x, rfl⟩
  | _, _, _, .tup h r, m, k => by
    obtain ⟨q, k2⟩ := RepL.frz f r m (by simpa [D.keep] using k)
    refine ⟨.tup ?_ q, by simpa [D.frz, D.keep] using k2⟩
    have e := f.imx
    obtain ⟨o, h, t⟩ := h
    exact ⟨o, e _ _ h (fun _ z => nomatch z), t⟩
  | _, _, _, .own h _ r, m, k => by
    obtain ⟨q, k2⟩ := RepL.frz f r (fun a z => m a (List.mem_cons_of_mem _ z)) (by simpa [D.keep] using k)
    obtain ⟨o, xs, h1, h2⟩ := f.at_ _ (m _ List.mem_cons_self)
    rw [h] at h1
    cases h1
    exact ⟨.fro h2 q k2, rfl⟩
  | _, _, _, .fro h r k, _, _ => ⟨(Rep.fro h r k).imm f.imx (fun _ _ z => z) rfl rfl, rfl⟩
  | _, _, _, .bor h _ r, _, k => by simp [D.keep] at k
  | _, _, _, .scr h r k, _, _ => ⟨(Rep.scr h r k).imm f.imx (fun _ _ z => z) rfl rfl, rfl⟩
  | _, _, _, .sref h, _, _ => ⟨.sref h, rfl⟩
theorem RepL.frz (f : Fz S H H2) : ∀ {vs : List V} {ds : List D} {S0 : List Addr}, RepL K T H vs ds S0 → (∀ a ∈ S0, a ∈ S) → keepL ds = true → RepL K T H2 vs (frzL ds) [] ∧ keepL (frzL ds) = true
  | _, _, _, .nil, _, _ => ⟨.nil, rfl⟩
  | _, _, _, .cons r q, m, k => by
    simp only [keepL, Bool.and_eq_true] at k
    obtain ⟨a1, a2⟩ := Rep.frz f r (fun a z => m a (List.mem_append_left _ z)) k.1
    obtain ⟨b1, b2⟩ := RepL.frz f q (fun a z => m a (List.mem_append_right _ z)) k.2
    exact ⟨.cons (S := []) (S' := []) a1 b1, by simp only [frzL, keepL, Bool.and_eq_true]; exact ⟨a2, b2⟩⟩
end
/-- data kept, where one owned list is written, or others frozen -/
def Chg (S : List Addr) (H H2 : Hp) : Prop := (∀ b, ¬ b ∈ S → H2 b = H b) ∧ ∀ a ∈ S, ∃ xs, H a = some (.lst xs)
theorem Fz.chg (f : Fz S H H2) : Chg S H H2 := ⟨f.out, fun a m => let ⟨_, xs, q, _⟩ := f.at_ a m; ⟨xs, q⟩⟩
theorem chg_upd {a : Addr} {xs : List V} {o : HO} (h : H a = some (.lst xs)) : Chg [a] H (upd H a o) := ⟨fun b m => upd_ne fun z => m (by rw [z]; exact List.mem_cons_self), fun b m => by rw [List.mem_singleton.mp m]; exact ⟨xs, h⟩⟩
theorem Chg.imx (c : Chg S H H2) : Imx H H2 := fun a o h n => by
  by_cases m : a ∈ S
  · obtain ⟨xs, q⟩ := c.2 a m
    rw [q] at h; cases h
    exact absurd rfl (n _)
  · rw [c.1 a m]; exact h
mutual
theorem Rep.chg (c : Chg S H H2) : ∀ {v : V} {d : D} {S0 : List Addr}, Rep K T H v d S0 → (∀ a ∈ S0, ¬ a ∈ S) → d.keep = true → Rep K T H2 v d S0
  | _, _, _, .non, _, _ => .non
  | _, _, _, .bl b, _, _ => .bl b
  | _, _, _, .int i, _, _ => .int i
  | _, _, _, .str x, _, _ => .str x
  | _, _, _, .tup h r, m, k => by
    refine .tup ?_ (RepL.chg c r m (by simpa [D.keep] using k))
    have e := c.imx
    obtain ⟨o, h, t⟩ := h
    exact ⟨o, e _ _ h (fun _ z => nomatch z), t⟩
  | _, _, _, .own h n r, m, k => .own ((c.1 _ (m _ List.mem_cons_self)).trans h) n (RepL.chg c r (fun a z => m a (List.mem_cons_of_mem _ z)) (by simpa [D.keep] using k))
  | _, _, _, .fro h r k, _, _ => (Rep.fro h r k).imm c.imx (fun _ _ z => z) rfl rfl
  | _, _, _, .bor h _ r, _, k => by simp [D.keep] at k
  | _, _, _, .scr h r k, _, _ => (Rep.scr h r k).imm c.imx (fun _ _ z => z) rfl rfl
  | _, _, _, .sref h, _, _ => .sref h
theorem RepL.chg (c : Chg S H H2) : ∀ {vs : List V} {ds : List D} {S0 : List Addr}, RepL K T H vs ds S0 → (∀ a ∈ S0, ¬ a ∈ S) → keepL ds = true → RepL K T H2 vs ds S0
  | _, _, _, .nil, _, _ => .nil
  | _, _, _, .cons r q, m, k => by
    simp only [keepL, Bool.and_eq_true] at k
    exact .cons (Rep.chg c r (fun a z => m a (List.mem_append_left _ z)) k.1) (RepL.chg c q (fun a z => m a (List.mem_append_right _ z)) k.2)
end
end
end PL
namespace PL
open PySem PySem.Spec PyProof.Rows L2

/-! ### a def's names and what they hold -/
inductive EnvR (K : PySem.W.Frag) (T : Ts) (H : Hp) : L2.St → Env → List Addr → Prop
  | em : EnvR K T H [] [] []
  | un {o : Option V} {σ : L2.St} {env : Env} {S : List Addr} : EnvR K T H σ env S → EnvR K T H (o :: σ) (none :: env) S
  | is {v : V} {d : D} {S S' : List Addr} {σ : L2.St} {env : Env} : Rep K T H v d S → d.keep = true → EnvR K T H σ env S' → EnvR K T H (some v :: σ) (some d :: env) (S ++ S')
section
variable {K : PySem.W.Frag} {T T' : Ts} {H H' : Hp} {σ : L2.St} {env : Env} {S : List Addr}
theorem EnvR.ext (e : Ext T H H') : ∀ {σ : L2.St} {env : Env} {S : List Addr}, EnvR K T H σ env S → EnvR K T H' σ env S
  | _, _, _, .em => .em
  | _, _, _, .un r => .un (EnvR.ext e r)
  | _, _, _, .is r k q => .is (r.ext e) k (EnvR.ext e q)
theorem EnvR.chg {S1 : List Addr} (c : Chg S1 H H') : ∀ {σ : L2.St} {env : Env} {S : List Addr}, EnvR K T H σ env S → (∀ a ∈ S, ¬ a ∈ S1) → EnvR K T H' σ env S
  | _, _, _, .em, _ => .em
  | _, _, _, .un r, m => .un (EnvR.chg c r m)
  | _, _, _, .is r k q, m => .is (r.chg c (fun a z => m a (List.mem_append_left _ z)) k) k (EnvR.chg c q fun a z => m a (List.mem_append_right _ z))
theorem EnvR.dom : ∀ {σ : L2.St} {env : Env} {S : List Addr}, EnvR K T H σ env S → ∀ a ∈ S, ∃ xs, H a = some (.lst xs)
  | _, _, _, .em, _, m => nomatch m
  | _, _, _, .un r, a, m => EnvR.dom r a m
  | _, _, _, .is r k q, a, m => (List.mem_append.mp m).elim (r.dom a) (EnvR.dom q a)
theorem EnvR.noT : ∀ {σ : L2.St} {env : Env} {S : List Addr}, EnvR K T H σ env S → ∀ a ∈ S, T.no a
  | _, _, _, .em, _, m => nomatch m
  | _, _, _, .un r, a, m => EnvR.noT r a m
  | _, _, _, .is r k q, a, m => (List.mem_append.mp m).elim (r.noT a) (EnvR.noT q a)
theorem EnvR.len : ∀ {σ : L2.St} {env : Env} {S : List Addr}, EnvR K T H σ env S → env.length = σ.length
  | _, _, _, .em => rfl
  | _, _, _, .un r => congrArg Nat.succ (EnvR.len r)
  | _, _, _, .is _ _ q => congrArg Nat.succ (EnvR.len q)
theorem EnvR.get : ∀ {σ : L2.St} {env : Env} {S : List Addr} {i : Nat} {d : D}, EnvR K T H σ env S → env[i]? = some (some d) → ∃ v A S1 B, σ[i]? = some (some v) ∧ Rep K T H v d S1 ∧ d.keep = true ∧ S = A ++ (S1 ++ B)
  | _, _, _, i, d, .em, e => by simp at e
  | _, _, _, 0, d, .un r, e => by simp at e
  | _, _, _, i + 1, d, .un r, e => by
    obtain ⟨v, A, S1, B, h1, h2, h3, h4⟩ := EnvR.get (i := i) r (by simpa using e)
    exact ⟨v, A, S1, B, by simpa using h1, h2, h3, h4⟩
  | _, _, _, 0, d, .is (S := S) (S' := S') r k q, e => by
    simp at e; subst e
    exact ⟨_, [], S, S', rfl, r, k, rfl⟩
  | _, _, _, i + 1, d, .is (S := S) (S' := S') r k q, e => by
    obtain ⟨v, A, S1, B, h1, h2, h3, h4⟩ := EnvR.get (i := i) q (by simpa using e)
    exact ⟨v, S ++ A, S1, B, by simpa using h1, h2, h3, by rw [h4]; simp [List.append_assoc]⟩
theorem EnvR.eb (r : EnvR K T H σ env S) : EB K T H σ env := ⟨r.len, fun i d h => by
  obtain ⟨v, A, S1, B, h1, h2, _⟩ := r.get h
  exact ⟨v, h1, h2.bw⟩⟩
/-- a name is stored -/
theorem EnvR.set {v : V} {d : D} {S' : List Addr} (hr : Rep K T H v d S') (hk : d.keep = true) : ∀ {σ : L2.St} {env : Env} {S : List Addr} (i : Nat), EnvR K T H σ env S → ∃ A S1 B, S = A ++ (S1 ++ B) ∧
    (EnvR K T H (σ.set i (some v)) (env.set i (some d)) (A ++ (S' ++ B)) ∨ EnvR K T H (σ.set i (some v)) (env.set i (some d)) S)
  | _, _, _, i, .em => ⟨[], [], [], rfl, .inr (by simpa using EnvR.em)⟩
  | _, _, _, 0, .un (S := S) r => ⟨[], [], S, rfl, .inl (show EnvR K T H _ _ (S' ++ S) from .is hr hk r)⟩
  | _, _, _, i + 1, .un r => by
    obtain ⟨A, S1, B, h1, h2⟩ := EnvR.set hr hk i r
    exact ⟨A, S1, B, h1, h2.imp (fun h => .un h) fun h => .un h⟩
  | _, _, _, 0, .is (S := S) (S' := S2) r k q => ⟨[], S, S2, rfl, .inl (show EnvR K T H _ _ (S' ++ S2) from .is hr hk q)⟩
  | _, _, _, i + 1, .is (S := S) (S' := S2) r k q => by
    obtain ⟨A, S1, B, h1, h2⟩ := EnvR.set hr hk i q
    refine ⟨S ++ A, S1, B, by rw [h1]; simp [List.append_assoc], h2.imp (fun h => ?_) fun h => .is r k h⟩
    have := EnvR.is r k h
    rw [← List.append_assoc] at this
    exact this
/-- one name's lists are changed, and the name is stored: the others stay -/
theorem EnvR.split : ∀ {σ : L2.St} {env : Env} {S : List Addr} {i : Nat} {v : V} {d : D}, EnvR K T H σ env S → env[i]? = some (some d) → σ[i]? = some (some v) → S.Nodup →
    ∃ A S0 B, S = A ++ (S0 ++ B) ∧ Rep K T H v d S0 ∧ d.keep = true ∧ ∀ (S1 : List Addr) (H' : Hp) (v' : V) (d' : D) (S' : List Addr), Chg S1 H H' → (∀ a ∈ S1, a ∈ S0) → Rep K T H' v' d' S' → d'.keep = true → EnvR K T H' (σ.set i (some v')) (env.set i (some d')) (A ++ (S' ++ B))
  | _, _, _, i, v, d, .em, e, _, _ => by simp at e
  | _, _, _, 0, v, d, .un r, e, _, _ => by simp at e
  | _, _, _, i + 1, v, d, .un r, e, e2, nd => by
    obtain ⟨A, S0, B, h1, h2, h3, h4⟩ := EnvR.split (i := i) r (by simpa using e) (by simpa using e2) nd
    exact ⟨A, S0, B, h1, h2, h3, fun S1 H' v' d' S' c m hr hk => .un (h4 S1 H' v' d' S' c m hr hk)⟩
  | _, _, _, 0, v, d, .is (S := S) (S' := S2) r k q, e, e2, nd => by
    simp at e e2; subst e; subst e2
    obtain ⟨_, _, n3⟩ := List.nodup_append.mp nd
    exact ⟨[], S, S2, rfl, r, k, fun S1 H' v' d' S' c m hr hk => show EnvR K T H' _ _ (S' ++ S2) from .is hr hk (q.chg c fun a z w => n3 a (m a w) a z rfl)⟩
  | _, _, _, i + 1, v, d, .is (S := S) (S' := S2) r k q, e, e2, nd => by
    obtain ⟨n1, n2, n3⟩ := List.nodup_append.mp nd
    obtain ⟨A, S0, B, h1, h2, h3, h4⟩ := EnvR.split (i := i) q (by simpa using e) (by simpa using e2) n2
    refine ⟨S ++ A, S0, B, by rw [h1]; simp [List.append_assoc], h2, h3, fun S1 H' v' d' S' c m hr hk => ?_⟩
    have r' := r.chg c (fun a z w => n3 a z a (by rw [h1]; exact List.mem_append_right _ (List.mem_append_left _ (m a w))) rfl) k
    have := EnvR.is r' k (h4 S1 H' v' d' S' c m hr hk)
    rw [← List.append_assoc] at this
    exact this
/-- one list more is shared -/
theorem Rep.shr {p : Addr} {d : D} {v : V} {S0 : List Addr} (r : Rep K T H v d S0) : True := trivial
end
/-! ### the state of a def's body -/
structure RE (K : PySem.W.Frag) (T0 T : Ts) (H0 H : Hp) (σ : L2.St) (env : Env) (S : List Addr) (st : Store) : Prop where
  env_ : EnvR K T H σ env S
  nd : S.Nodup
  fresh : ∀ a ∈ S, H0 a = none
  ext : Ext T0 H0 H
  so : SOk K T H st
  so0 : ∃ st0, SOk K T0 H0 st0
  grow : ∃ more, T.sh = T0.sh ++ more ∧ ∀ a ∈ more, H0 a = none
  hid : T.hid = T0.hid
section
variable {K : PySem.W.Frag} {T0 T T' : Ts} {H0 H H1 : Hp} {σ : L2.St} {env : Env} {S : List Addr} {st st1 : Store}
theorem RE.ext1 (r : RE K T0 T H0 H σ env S st) (e : Ext T H H1) : Ext T0 H0 H1 := fun a o h n => by
  obtain ⟨more, g1, g2⟩ := r.grow
  refine e a o (r.ext a o h n) (n.imp (fun n m => ?_) id)
  rw [g1] at m
  rcases List.mem_append.mp m with m | m
  · exact n m
  · rw [g2 a m] at h; cases h
theorem RE.step (r : RE K T0 T H0 H σ env S st) (e : Ext T H H1) (s1 : SOk K T H1 st1) : RE K T0 T H0 H1 σ env S st1 :=
  ⟨r.env_.ext e, r.nd, r.fresh, r.ext1 e, s1, r.so0, r.grow, r.hid⟩
/-- what is free was free at the entry -/
theorem RE.free (r : RE K T0 T H0 H σ env S st) {a : Addr} (h : H a = none) : H0 a = none := by
  cases q : H0 a with
  | none => rfl
  | some o =>
    by_cases m : a ∈ T0.sh
    · obtain ⟨more, g1, _⟩ := r.grow
      obtain ⟨xs, z⟩ := r.so.get (a := a) fun n => n.1 (by rw [g1]; exact List.mem_append_left _ m)
      rw [z] at h; cases h
    · have := r.ext a o q (.inl m)
      rw [this] at h; cases h
theorem nodup_put {A S1 B S' : List Addr} (nd : (A ++ (S1 ++ B)).Nodup) (nd' : S'.Nodup) (d1 : ∀ a ∈ S', ¬ a ∈ A) (d2 : ∀ a ∈ S', ¬ a ∈ B) : (A ++ (S' ++ B)).Nodup := by
  obtain ⟨n1, n2, n3⟩ := List.nodup_append.mp nd
  obtain ⟨n4, n5, n6⟩ := List.nodup_append.mp n2
  refine List.nodup_append.mpr ⟨n1, List.nodup_append.mpr ⟨nd', n5, fun a m b mb z => d2 a m (by rw [z]; exact mb)⟩, fun a m b mb z => ?_⟩
  rcases List.mem_append.mp mb with mb | mb
  · exact d1 b mb (by rw [← z]; exact m)
  · exact n3 a m b (List.mem_append_right _ mb) z
/-- a name is stored -/
theorem RE.set (r : RE K T0 T H0 H σ env S st) {v : V} {d : D} {S' : List Addr} (hr : Rep K T H v d S') (hk : d.keep = true) (nd' : S'.Nodup) (fr' : ∀ a ∈ S', H0 a = none) (dj : ∀ a ∈ S', ¬ a ∈ S) (i : Nat) :
    ∃ S2, RE K T0 T H0 H (σ.set i (some v)) (env.set i (some d)) S2 st ∧ ∀ a ∈ S2, a ∈ S ∨ a ∈ S' := by
  obtain ⟨A, S1, B, rfl, h⟩ := EnvR.set hr hk i r.env_
  rcases h with h | h
  · refine ⟨_, ⟨h, nodup_put r.nd nd' (fun a m z => dj a m (List.mem_append_left _ z)) (fun a m z => dj a m (List.mem_append_right _ (List.mem_append_right _ z))), fun a m => ?_, r.ext, r.so, r.so0, r.grow, r.hid⟩, fun a m => ?_⟩
    · rcases List.mem_append.mp m with m | m
      · exact r.fresh a (List.mem_append_left _ m)
      · rcases List.mem_append.mp m with m | m
        · exact fr' a m
        · exact r.fresh a (List.mem_append_right _ (List.mem_append_right _ m))
    · rcases List.mem_append.mp m with m | m
      · exact .inl (List.mem_append_left _ m)
      · rcases List.mem_append.mp m with m | m
        · exact .inr m
        · exact .inl (List.mem_append_right _ (List.mem_append_right _ m))
  · exact ⟨_, ⟨h, r.nd, r.fresh, r.ext, r.so, r.so0, r.grow, r.hid⟩, fun a m => .inl m⟩
end
/-! ### wishes of statements -/
def Grow (T0 T : Ts) (H0 : Hp) : Prop := (∃ more, T.sh = T0.sh ++ more ∧ ∀ a ∈ more, H0 a = none) ∧ T.hid = T0.hid
def WishS {α : Type} (K : PySem.W.Frag) (ca : Cls_) (W : WX) (T0 : Ts) (H0 : Hp) (r : Res α) (okQ : α → Store → Prop) : Prop := match r with
  | .ok a st' => okQ a st'
  | .exn c p st' => ∀ T' σ' H' dx, Ext T0 H0 H' → Grow T0 T' H0 → SOk K T' H' st' → H0 dx = none → XnOk K T' H' dx (ca c).2 p → W (.ref (ca c).1) (some dx) σ' H'
  | .err => False
section
variable {K : PySem.W.Frag} {ca : Cls_} {W : WX} {T0 T : Ts} {H0 H : Hp} {σ : L2.St} {env : Env} {S : List Addr} {st : Store} {α β : Type}
theorem WishS.bind {m : M α} {k : α → M β} {Q : β → Store → Prop} {R : α → Store → Prop} (w : WishS K ca W T0 H0 (M.bind m k st) Q) (h : ∀ a st1, m st = .ok a st1 → WishS K ca W T0 H0 (k a st1) Q → R a st1) : WishS K ca W T0 H0 (m st) R := by
  unfold M.bind at w
  cases hm : m st with
  | ok a st1 => rw [hm] at w; exact h a st1 hm w
  | exn c p st1 => rw [hm] at w; exact w
  | err => rw [hm] at w; exact w
theorem WishS.imp {r : Res α} {Q R : α → Store → Prop} (w : WishS K ca W T0 H0 r Q) (h : ∀ a st', r = .ok a st' → Q a st' → R a st') : WishS K ca W T0 H0 r R := by
  cases r with
  | ok a st' => exact h a st' rfl w
  | exn c p st' => exact w
  | err => exact w
theorem WishS.opt {o : Option α} {Q : α → Store → Prop} (w : WishS K ca W T0 H0 (M.ofOpt o st) Q) : ∃ a, o = some a ∧ Q a st := by
  cases o with
  | some a => exact ⟨a, rfl, w⟩
  | none => exact w.elim
/-- an expression's wish within a statement -/
theorem RE.wish (r : RE K T0 T H0 H σ env S st) {m : M α} {k : α → M β} {Q : β → Store → Prop} {R : α → Store → Prop} (w : WishS K ca W T0 H0 (M.bind m k st) Q) (h : ∀ a st1, m st = .ok a st1 → WishS K ca W T0 H0 (k a st1) Q → R a st1) :
    Wish K ca W T H σ (m st) R := by
  unfold M.bind at w
  cases hm : m st with
  | ok a st1 => rw [hm] at w; exact h a st1 hm w
  | exn c p st1 =>
    rw [hm] at w
    exact fun H' dx e s' hd x => w T σ H' dx (r.ext1 e) ⟨r.grow, r.hid⟩ s' (r.free hd) x
  | err => rw [hm] at w; exact w
end
/-- what is wanted of a flow, from the state ahead of it on -/
def TLe (T T' : Ts) : Prop := ∀ (n : Nat) (a : Addr), T.sh[n]? = some a → T'.sh[n]? = some a
def FlQ (K : PySem.W.Frag) (T0 : Ts) (H0 : Hp) (T : Ts) (H : Hp) (D : Ends) (fl : Fl) (st' : Store) : Prop := match fl with
  | .nx env' => ∀ T' σ' H' S', Imx H H' → TLe T T' → RE K T0 T' H0 H' σ' env' S' st' → D.nx σ' H'
  | .bk env' => ∀ T' σ' H' S', Imx H H' → TLe T T' → RE K T0 T' H0 H' σ' env' S' st' → D.bk σ' H'
  | .ct env' => ∀ T' σ' H' S', Imx H H' → TLe T T' → RE K T0 T' H0 H' σ' env' S' st' → D.ct σ' H'
  | .rt d => ∀ T' v H' S', Ext T0 H0 H' → Grow T0 T' H0 → SOk K T' H' st' → Rep K T' H' v d S' → d.keep = true → S'.Nodup → (∀ a ∈ S', H0 a = none) → D.rt v H'
theorem TLe.refl (T : Ts) : TLe T T := fun _ _ h => h
theorem TLe.trans {T T1 T2 : Ts} (a : TLe T T1) (b : TLe T1 T2) : TLe T T2 := fun n c h => b n c (a n c h)
theorem FlQ.weak {K : PySem.W.Frag} {T0 T T1 : Ts} {H0 H H1 : Hp} {D : Ends} {fl : Fl} {st' : Store} (i : Imx H H1) (t : TLe T T1) (q : FlQ K T0 H0 T H D fl st') : FlQ K T0 H0 T1 H1 D fl st' := by
  cases fl with
  | nx env' => exact fun T' σ' H' S' i' t' r => q T' σ' H' S' (i.trans i') (t.trans t') r
  | bk env' => exact fun T' σ' H' S' i' t' r => q T' σ' H' S' (i.trans i') (t.trans t') r
  | ct env' => exact fun T' σ' H' S' i' t' r => q T' σ' H' S' (i.trans i') (t.trans t') r
  | rt d => exact q
def TSv (K : PySem.W.Frag) (ca : Cls_) (W : WX) (f : Env → M Fl) : TS := fun D σ H => ∃ T0 T H0 env S st, RE K T0 T H0 H σ env S st ∧ WishS K ca W T0 H0 (f env st) (FlQ K T0 H0 T H D)
theorem PS.mono {X : Cx} {e : Stmt} {t t' : TS} (h : PS X e t) (hm : ∀ D σ H, t' D σ H → t D σ H) : PS X e t' := ⟨fun pins s σ H D I w => h.run pins s σ H D I (hm D σ H w)⟩
theorem PSs.mono {X : Cx} {e : List Stmt} {t t' : TS} (h : PSs X e t) (hm : ∀ D σ H, t' D σ H → t D σ H) : PSs X e t' := ⟨fun pins s σ H D I w => h.run pins s σ H D I (hm D σ H w)⟩
section
variable {X : Cx} {ca : Cls_} {W : WX} {pos : Pos}
theorem ss_nil : PSs X [] (TSv X.K ca W fun env => M.pure (.nx env)) := PSs.mono pss_nil fun D σ H ⟨T0, T, H0, env, S, st, r, w⟩ => w T σ H S (Imx.refl _) (TLe.refl _) r
theorem ss_cons {s : Stmt} {rest : List Stmt} {f g : Env → M Fl} (h1 : PS X s (TSv X.K ca W f)) (h2 : PSs X rest (TSv X.K ca W g)) : PSs X (s :: rest) (TSv X.K ca W (seqF f g)) := by
  refine PSs.mono (pss_cons h1 h2) fun D σ H ⟨T0, T, H0, env, S, st, r, w⟩ => ⟨T0, T, H0, env, S, st, r, w.bind fun fl st1 h w1 => ?_⟩
  cases fl with
  | nx env' => exact fun T' σ' H' S' im t r' => ⟨T0, T', H0, env', S', st1, r', w1.imp fun fl st' _ q => q.weak im t⟩
  | bk env' => exact w1
  | ct env' => exact w1
  | rt d => exact w1
/-- assignments to a name -/
theorem ss_set {s : Stmt} {i : Nat} {te : TE} {f : Env → M D} (h : PS X s (tAsg te (gName i))) (hm : ∀ σ H Q, TEv X.K ca W f σ H Q → te σ H Q) : PS X s (TSv X.K ca W (setF i f)) := by
  refine PS.mono h fun D σ H ⟨T0, T, H0, env, S, st, r, w⟩ => hm _ _ _ ⟨T, env, st, r.env_.eb, r.so, r.wish w fun d st1 h w1 v H1 S1 e1 s1 r1 f1 => ?_⟩
  show D.nx (σ.set i (some v)) H1
  split at w1
  · rename_i hk
    have r2 := r.step e1 s1
    obtain ⟨S2, r3, _⟩ := r2.set r1 hk f1.1 (fun a m => r.free (f1.2 a m)) (fun a m z => by
      obtain ⟨xs, q⟩ := r.env_.dom a z
      rw [f1.2 a m] at q; cases q) i
    exact w1 T _ H1 S2 e1.imx (TLe.refl _) r3
  · exact w1.elim
theorem ss_expr {e : Expr} {f : Env → M D} (he : PE X e (TEv X.K ca W f)) (hs : swapsWith e none pos.line X.env = Pure.pure false) : PS X (.Expr e pos) (TSv X.K ca W (exprF f)) := by
  refine PS.mono (ps_expr he hs) fun D σ H ⟨T0, T, H0, env, S, st, r, w⟩ => ⟨T, env, st, r.env_.eb, r.so, r.wish w fun d st1 h w1 v H1 S1 e1 s1 r1 f1 => ?_⟩
  exact w1 T σ H1 S e1.imx (TLe.refl _) (r.step e1 s1)
theorem ss_ret {e : Expr} {f : Env → M D} (he : PE X e (TEv X.K ca W f)) : PS X (.Return (some e) pos) (TSv X.K ca W (retF f)) := by
  refine PS.mono (ps_ret he) fun D σ H ⟨T0, T, H0, env, S, st, r, w⟩ => ⟨T, env, st, r.env_.eb, r.so, r.wish w fun d st1 h w1 v H1 S1 e1 s1 r1 f1 => ?_⟩
  split at w1
  · rename_i hk
    exact w1 T v H1 S1 (r.ext1 e1) ⟨r.grow, r.hid⟩ s1 r1 hk f1.1 fun a m => r.free (f1.2 a m)
  · exact w1.elim
theorem ss_retN : PS X (.Return none pos) (TSv X.K ca W fun _ => M.pure (.rt .non)) :=
  PS.mono ps_retN fun D σ H ⟨T0, T, H0, env, S, st, r, w⟩ => w T .non H [] r.ext ⟨r.grow, r.hid⟩ r.so .non rfl List.nodup_nil fun _ m => nomatch m
theorem ss_pass : PS X (.Pass pos) (TSv X.K ca W fun env => M.pure (.nx env)) := PS.mono ps_pass fun D σ H ⟨T0, T, H0, env, S, st, r, w⟩ => w T σ H S (Imx.refl _) (TLe.refl _) r
theorem ss_brk : PS X (.Break pos) (TSv X.K ca W fun env => M.pure (.bk env)) := PS.mono ps_break fun D σ H ⟨T0, T, H0, env, S, st, r, w⟩ => w T σ H S (Imx.refl _) (TLe.refl _) r
theorem ss_cont : PS X (.Continue pos) (TSv X.K ca W fun env => M.pure (.ct env)) := PS.mono ps_continue fun D σ H ⟨T0, T, H0, env, S, st, r, w⟩ => w T σ H S (Imx.refl _) (TLe.refl _) r
theorem ss_ite {c : Expr} {a b : List Stmt} {fc : Env → M Bool} {f g : Env → M Fl} (hc : PT X c (TTv X.K ca W fc)) (ha : PSs X a (TSv X.K ca W f)) (hb : PSs X b (TSv X.K ca W g)) : PS X (.If c a b pos) (TSv X.K ca W (iteF fc f g)) := by
  refine PS.mono (ps_if hc ha hb) fun D σ H ⟨T0, T, H0, env, S, st, r, w⟩ => ⟨T, env, st, r.env_.eb, r.so, r.wish w fun b st1 h w1 H1 e1 s1 => ?_⟩
  have r1 := r.step e1 s1
  cases b with
  | true => exact ⟨T0, T, H0, env, S, st1, r1, w1.imp fun fl st' _ q => q.weak e1.imx (TLe.refl _)⟩
  | false => exact ⟨T0, T, H0, env, S, st1, r1, w1.imp fun fl st' _ q => q.weak e1.imx (TLe.refl _)⟩
end
end PL
namespace PL
open PySem PySem.Spec PyProof.Rows L2

section
variable {K : PySem.W.Frag} {T0 T T' : Ts} {H0 H H1 H2 : Hp} {σ : L2.St} {env : Env} {S : List Addr} {st st1 : Store}
theorem set_self {σ : L2.St} {i : Nat} {v : V} (h : σ[i]? = some (some v)) : σ.set i (some v) = σ := by
  apply List.ext_getElem?
  intro j
  by_cases hj : i = j
  · subst hj
    obtain ⟨hl, _⟩ := List.getElem?_eq_some_iff.mp h
    rw [List.getElem?_set_self hl, h]
  · rw [List.getElem?_set_ne hj]
/-- what is shared stays where lists that are not shared change -/
theorem SOk.chg {S1 : List Addr} (s : SOk K T H st) (c : Chg S1 H H2) (n : ∀ a ∈ S1, T.no a) (hid : ∀ a ∈ T.hid, ∃ xs, H2 a = some (.lst xs)) : SOk K T H2 st := ⟨s.nd, s.len, fun k a ds h1 h2 => by
  obtain ⟨xs, h3, h4, h5⟩ := s.at_ k a ds h1 h2
  refine ⟨xs, ?_, h4.chg c (fun _ m => nomatch m) h5, h5⟩
  rw [c.1 a fun m => (n a m).1 (List.mem_of_getElem? h1)]
  exact h3, hid⟩
theorem RE.extc {S1 : List Addr} (r : RE K T0 T H0 H σ env S st) (c : Chg S1 H H2) (f : ∀ a ∈ S1, H0 a = none) : Ext T0 H0 H2 := fun a o h n => by
  have := r.ext a o h n
  by_cases m : a ∈ S1
  · rw [f a m] at h; cases h
  · rw [c.1 a m]; exact this
/-- one name's own lists are changed -/
theorem RE.mut (r : RE K T0 T H0 H σ env S st) {i : Nat} {v : V} {d : D} (h1 : env[i]? = some (some d)) (h2 : σ[i]? = some (some v)) :
    ∃ S0, Rep K T H v d S0 ∧ d.keep = true ∧ S0.Nodup ∧ (∀ a ∈ S0, a ∈ S) ∧ ∀ (S1 : List Addr) (H2 : Hp) (v' : V) (d' : D) (S' : List Addr), Chg S1 H H2 → (∀ a ∈ S1, a ∈ S0) → Rep K T H2 v' d' S' → d'.keep = true → S'.Nodup →
      (∀ a ∈ S', a ∈ S0 ∨ (¬ a ∈ S ∧ H0 a = none)) → (∀ a ∈ T.hid, ∃ xs, H2 a = some (.lst xs)) → ∃ S2, RE K T0 T H0 H2 (σ.set i (some v')) (env.set i (some d')) S2 st := by
  obtain ⟨A, S0, B, e, q, k, re⟩ := r.env_.split h1 h2 r.nd
  have nd0 := r.nd
  rw [e] at nd0
  obtain ⟨n1, n2, n3⟩ := List.nodup_append.mp nd0
  obtain ⟨n4, n5, n6⟩ := List.nodup_append.mp n2
  have inS : ∀ a ∈ S0, a ∈ S := fun a m => by rw [e]; exact List.mem_append_right _ (List.mem_append_left _ m)
  have fr : ∀ a ∈ S0, H0 a = none := fun a m => r.fresh a (inS a m)
  refine ⟨S0, q, k, n4, inS, fun S1 H2 v' d' S' c o1 hr hk nd o2 hid => ?_⟩
  refine ⟨_, re S1 H2 v' d' S' c o1 hr hk, nodup_put nd0 nd (fun a m z => ?_) (fun a m z => ?_), fun a m => ?_, r.extc c fun a m => fr a (o1 a m), r.so.chg c (fun a m => q.noT a (o1 a m)) hid, r.so0, r.grow, r.hid⟩
  · rcases o2 a m with w | ⟨w, _⟩
    · exact n3 a z a (List.mem_append_left _ w) rfl
    · exact w (by rw [e]; exact List.mem_append_left _ z)
  · rcases o2 a m with w | ⟨w, _⟩
    · exact n6 a w a z rfl
    · exact w (by rw [e]; exact List.mem_append_right _ (List.mem_append_right _ z))
  · rcases List.mem_append.mp m with m | m
    · exact r.fresh a (by rw [e]; exact List.mem_append_left _ m)
    · rcases List.mem_append.mp m with m | m
      · rcases o2 a m with w | ⟨_, w⟩
        · exact fr a w
        · exact w
      · exact r.fresh a (by rw [e]; exact List.mem_append_right _ (List.mem_append_right _ m))
theorem RE.at_ (r : RE K T0 T H0 H σ env S st) {i : Nat} {d : D} (h : env[i]? = some (some d)) : ∃ v, σ[i]? = some (some v) := by
  obtain ⟨v, _, _, _, h1, _⟩ := r.env_.get h
  exact ⟨v, h1⟩
/-- hidden lists at the entry are tracked: they stay -/
theorem RE.hidOk (r : RE K T0 T H0 H σ env S st) {S1 : List Addr} (c : Chg S1 H H2) (n : ∀ a ∈ S1, T.no a) : ∀ a ∈ T.hid, ∃ xs, H2 a = some (.lst xs) := fun a m => by
  rw [c.1 a fun z => (n a z).2 m]
  exact r.so.hid a m
/-! ### items of a list, put -/
theorem RepL.put : ∀ {vs : List V} {ds : List D} {S : List Addr} {j : Nat} {u : V} {d : D} {S' : List Addr}, RepL K T H vs ds S → Rep K T H u d S' → ∃ A S1 B, S = A ++ (S1 ++ B) ∧ (RepL K T H (vs.set j u) (ds.set j d) (A ++ (S' ++ B)) ∨ RepL K T H (vs.set j u) (ds.set j d) S)
  | _, _, _, j, u, d, S', .nil, hu => ⟨[], [], [], rfl, .inr (by simpa using RepL.nil)⟩
  | _, _, _, 0, u, d, S', .cons (S := S) (S' := S2) r t, hu => ⟨[], S, S2, rfl, .inl (show RepL K T H _ _ (S' ++ S2) from .cons hu t)⟩
  | _, _, _, j + 1, u, d, S', .cons (S := S) (S' := S2) r t, hu => by
    obtain ⟨A, S1, B, h1, h2⟩ := RepL.put (j := j) t hu
    refine ⟨S ++ A, S1, B, by rw [h1]; simp [List.append_assoc], h2.imp (fun h => ?_) fun h => .cons r h⟩
    have := RepL.cons r h
    rw [← List.append_assoc] at this
    exact this
theorem keepL_set : ∀ {ds : List D} {j : Nat} {d : D}, keepL ds = true → d.keep = true → keepL (ds.set j d) = true
  | [], _, _, h, _ => h
  | e :: ds, 0, d, h, hd => by
    simp only [keepL, Bool.and_eq_true] at h
    simp only [List.set_cons_zero, keepL, Bool.and_eq_true]
    exact ⟨hd, h.2⟩
  | e :: ds, j + 1, d, h, hd => by
    simp only [keepL, Bool.and_eq_true] at h
    simp only [List.set_cons_succ, keepL, Bool.and_eq_true]
    exact ⟨h.1, keepL_set h.2 hd⟩
theorem keepL_app : ∀ {ds es : List D}, keepL ds = true → keepL es = true → keepL (ds ++ es) = true
  | [], _, _, h => h
  | d :: ds, es, h, h2 => by
    simp only [keepL, Bool.and_eq_true] at h
    simp only [List.cons_append, keepL, Bool.and_eq_true]
    exact ⟨h.1, keepL_app h.2 h2⟩
end

/-! ### x[k] = d, x.append(d) -/
section
variable {X : Cx} {ca : Cls_} {W : WX} {pos p1 p2 p3 : Pos}
/-- a list of one's own is written: the state behind -/
theorem RE.write {K : PySem.W.Frag} {T0 T : Ts} {H0 H : Hp} {σ : L2.St} {env : Env} {S : List Addr} {st : Store} (r : RE K T0 T H0 H σ env S st) {i : Nat} {p : Addr} {ds : List D} (h1 : env[i]? = some (some (.lst .own ds))) (h2 : σ[i]? = some (some (.ref p))) :
    ∃ xs S0, H p = some (.lst xs) ∧ RepL K T H xs ds S0 ∧ keepL ds = true ∧ (∀ a ∈ S0, a ∈ S) ∧ p ∈ S ∧ S0.Nodup ∧ ∀ (ys : List V) (es : List D) (S' : List Addr), RepL K T H ys es S' → keepL es = true → S'.Nodup → (∀ a ∈ S', a ∈ S0 ∨ (¬ a ∈ S ∧ H0 a = none)) →
      ∃ S2, RE K T0 T H0 (upd H p (.lst ys)) σ (env.set i (some (.lst .own es))) S2 st := by
  obtain ⟨S0, q, k, nd, inS, re⟩ := r.mut h1 h2
  cases q with
  | @own _ xs _ S1 hp np rl =>
    obtain ⟨n1, n2⟩ := List.nodup_cons.mp nd
    have k' : keepL ds = true := by simpa [D.keep] using k
    refine ⟨xs, S1, hp, rl, k', fun a m => inS a (List.mem_cons_of_mem _ m), inS p List.mem_cons_self, n2, fun ys es S' rl' k2 nd' o => ?_⟩
    have c := chg_upd (o := .lst ys) hp
    have pS : ¬ p ∈ S' := fun m => by
      rcases o p m with w | ⟨w, _⟩
      · exact n1 w
      · exact w (inS p List.mem_cons_self)
    obtain ⟨S2, h⟩ := re [p] (upd H p (.lst ys)) (.ref p) (.lst .own es) (p :: S') c (fun a m => by rw [List.mem_singleton.mp m]; exact List.mem_cons_self)
      (.own upd_same np (rl'.chg c (fun a m z => pS (by rw [← List.mem_singleton.mp z]; exact m)) k2)) (by simpa [D.keep] using k2) (List.nodup_cons.mpr ⟨pS, nd'⟩)
      (fun a m => by
        rcases List.mem_cons.mp m with e | m
        · exact .inl (by rw [e]; exact List.mem_cons_self)
        · exact (o a m).imp (fun w => List.mem_cons_of_mem _ w) id)
      (r.hidOk c fun a m => by rw [List.mem_singleton.mp m]; exact np)
    rw [set_self h2] at h
    exact ⟨S2, h⟩
theorem rep_own {K : PySem.W.Frag} {T : Ts} {H : Hp} {v : V} {ds : List D} {S : List Addr} (r : Rep K T H v (.lst .own ds) S) : ∃ p, v = .ref p := by
  cases r; exact ⟨_, rfl⟩
/-- a shared list is written -/
theorem SOk.put {K : PySem.W.Frag} {T : Ts} {H : Hp} {st : Store} (s : SOk K T H st) {n : Nat} {p : Addr} {ds : List D} (h1 : T.sh[n]? = some p) (h2 : st[n]? = some ds) {d : D} {v : V} (r : Rep K T H v d []) (k : d.keep = true) (j : Nat) :
    ∃ xs, H p = some (.lst xs) ∧ xs.length = ds.length ∧ Ext T H (upd H p (.lst (xs.set j v))) ∧ SOk K T (upd H p (.lst (xs.set j v))) (st.set n (ds.set j d)) := by
  obtain ⟨xs, hp, rl, kl⟩ := s.at_ n p ds h1 h2
  have pin : p ∈ T.sh := List.mem_of_getElem? h1
  have e : Ext T H (upd H p (.lst (xs.set j v))) := fun a o h n => by
    by_cases q : a = p
    · subst q
      rw [hp] at h; cases h
      rcases n with n | n
      · exact absurd pin n
      · exact absurd rfl (n _)
    · rw [upd_ne q]; exact h
  have hn : n < st.length := (List.getElem?_eq_some_iff.mp h2).1
  refine ⟨xs, hp, rl.length, e, s.nd, by rw [List.length_set]; exact s.len, fun m a es g1 g2 => ?_, fun a m => ?_⟩
  · by_cases q : n = m
    · subst q
      rw [h1] at g1; cases g1
      rw [List.getElem?_set_self hn] at g2; cases g2
      refine ⟨_, upd_same, ?_, keepL_set kl k⟩
      obtain ⟨A, S1, B, z, w⟩ := RepL.put (j := j) rl r
      rcases w with w | w
      · have : A ++ ([] ++ B) = [] := by
          cases A with
          | nil => cases S1 with
            | nil => exact z.symm
            | cons => cases z
          | cons => cases z
        rw [this] at w
        exact w.ext e
      · exact w.ext e
    · rw [List.getElem?_set_ne q] at g2
      obtain ⟨ys, g3, g4, g5⟩ := s.at_ m a es g1 g2
      refine ⟨ys, ?_, g4.ext e, g5⟩
      rw [upd_ne ?_]; exact g3
      intro z
      subst z
      have := (List.getElem?_inj (List.getElem?_eq_some_iff.mp h1).1 s.nd).mp (h1.trans g1.symm)
      exact q this
  · by_cases q : a = p
    · subst q; exact ⟨_, upd_same⟩
    · rw [upd_ne q]; exact s.hid a m
/-- x[k] = e -/
theorem ss_setIx {x : Str} {i : Nat} {ie e : Expr} {fx f : Env → M D} (hN : X.N[i]? = some x) (hv : Vis X.env.scope x) (hd : (x == ("__debug__" : Str)) = false) (hcd : (x == ("__classdict__" : Str)) = false) (he : PE X e (TEv X.K ca W f)) (hi : PE X ie (TEv X.K ca W fx))
    (ha : ∀ v, assign (.Subscript (.Name x p1) ie p2) X.env v = (do
      let ov ← holding [v] (eval (.Name x p1) X.env)
      let iv ← holding [v, ov] (eval ie X.env)
      standAt p2
      holding [v, ov, iv] (setItem ov iv v)
      release [v, ov, iv] [])) (hs : swapsWithSole [.Subscript (.Name x p1) ie p2] e pos.line X.env = Pure.pure false) (hw : swappedStores [.Subscript (.Name x p1) ie p2] e X.env = Pure.pure none)
    (h1 : (assignEach [.Subscript (.Name x p1) ie p2] X.env).map (·.2) = [assign (.Subscript (.Name x p1) ie p2) X.env]) :
    PS X (.Assign [.Subscript (.Name x p1) ie p2] e pos) (TSv X.K ca W (setIxF i fx f)) := by
  refine PS.mono (ps_asg he (pg_sub (pe_var hN hv hd hcd) hi set_list ha) hs hw h1) fun D σ H ⟨T0, T, H0, env, S, st, r, w⟩ => ?_
  obtain ⟨dx, hx⟩ : ∃ dx, env[i]? = some (some dx) := by
    cases hx : env[i]? with
    | none => simp only [setIxF, hx] at w; exact w.elim
    | some o => cases o with
      | none => simp only [setIxF, hx] at w; exact w.elim
      | some dx => exact ⟨dx, rfl⟩
  simp only [setIxF, hx] at w
  obtain ⟨o, ho⟩ := r.at_ hx
  refine ⟨T, env, st, r.env_.eb, r.so, r.wish w fun d st1 hf w1 v H1 S1 e1 s1 r1 f1 => ?_⟩
  have q1 := r.step e1 s1
  refine ⟨o, ho, T, env, st1, q1.env_.eb, s1, q1.wish w1 fun kx st2 hk w2 v2 H2 S2 e2 s2 r2 f2 => ?_⟩
  have q2 := q1.step e2 s2
  cases kx with
  | non => exact w2.elim
  | bl _ => exact w2.elim
  | str _ => exact w2.elim
  | tup _ => exact w2.elim
  | lst _ _ => exact w2.elim
  | sref _ => exact w2.elim
  | int k =>
    cases r2
    dsimp only at w2
    split at w2
    case isFalse => exact w2.elim
    rename_i kd
    simp only [updF, hx] at w2
    cases dx with
    | non => exact w2.elim
    | bl _ => exact w2.elim
    | int _ => exact w2.elim
    | str _ => exact w2.elim
    | tup _ => exact w2.elim
    | lst m ds =>
      cases m with
      | fro => exact w2.elim
      | bor => exact w2.elim
      | scr => exact w2.elim
      | own =>
      dsimp only at w2
      cases hj : ixN ds.length k with
      | none => rw [hj] at w2; exact w2.elim
      | some j =>
      rw [hj] at w2
      dsimp only at w2
      obtain ⟨v0, _, S0, _, g1, g2, _⟩ := q2.env_.get hx
      rw [ho] at g1; cases g1
      obtain ⟨p, rfl⟩ := rep_own g2
      obtain ⟨xs, S3, hp, rl, kl, inS, pS, nd, wr⟩ := q2.write hx ho
      refine ⟨p, xs, k, j, rfl, rfl, hp, by rw [rl.length]; exact hj, ?_⟩
      have fr1 : ∀ a ∈ S1, ¬ a ∈ S := fun a m z => by
        obtain ⟨ys, q⟩ := r.env_.dom a z
        rw [f1.2 a m] at q; cases q
      obtain ⟨A, S4, B, z, w'⟩ := RepL.put (j := j) rl (r1.ext e2)
      rcases w' with w' | w'
      · have nd' : (A ++ (S1 ++ B)).Nodup := nodup_put (S1 := S4) (by rw [← z]; exact nd) f1.1 (fun a m y => fr1 a m (inS a (by rw [z]; exact List.mem_append_left _ y))) (fun a m y => fr1 a m (inS a (by rw [z]; exact List.mem_append_right _ (List.mem_append_right _ y))))
        obtain ⟨S5, q3⟩ := wr _ _ _ w' (keepL_set kl kd) nd' fun a m => by
          rcases List.mem_append.mp m with m | m
          · exact .inl (by rw [z]; exact List.mem_append_left _ m)
          · rcases List.mem_append.mp m with m | m
            · exact .inr ⟨fr1 a m, r.free (f1.2 a m)⟩
            · exact .inl (by rw [z]; exact List.mem_append_right _ (List.mem_append_right _ m))
        exact w2 T σ _ S5 (e1.imx.trans (e2.imx.trans (chg_upd hp).imx)) (TLe.refl _) q3
      · obtain ⟨S5, q3⟩ := wr _ _ _ w' (keepL_set kl kd) nd fun a m => .inl m
        exact w2 T σ _ S5 (e1.imx.trans (e2.imx.trans (chg_upd hp).imx)) (TLe.refl _) q3
    | sref n =>
      dsimp only at w2
      cases hst : st2[n]? with
      | none => rw [hst] at w2; exact w2.elim
      | some ds =>
      rw [hst] at w2
      dsimp only at w2
      cases hj : ixN ds.length k with
      | none => rw [hj] at w2; exact w2.elim
      | some j =>
      rw [hj] at w2
      dsimp only at w2
      split at w2
      case isFalse => exact w2.elim
      rename_i no
      obtain ⟨v0, _, S0, _, g1, g2, _⟩ := q2.env_.get hx
      rw [ho] at g1; cases g1
      cases g2 with
      | sref hsh =>
        have z := r1.noOwn no
        subst z
        obtain ⟨xs, hp, hl, e3, s3⟩ := s2.put hsh hst (r1.ext e2) kd j
        exact ⟨_, xs, k, j, rfl, rfl, hp, by rw [hl]; exact hj, w2 T σ _ S (e1.imx.trans (e2.imx.trans e3.imx)) (TLe.refl _) (q2.step e3 s3)⟩
end
end PL
namespace PL
open PySem PySem.Spec PyProof.Rows L2

section
variable {K : PySem.W.Frag} {T0 T T' : Ts} {H0 H H1 H2 : Hp} {σ : L2.St} {env : Env} {S : List Addr} {st st1 : Store}
theorem nodup_split {Sa Sb : List Addr} (h : (Sa ++ Sb).Nodup) : Sa.Nodup ∧ Sb.Nodup ∧ ∀ a ∈ Sa, ¬ a ∈ Sb := by
  obtain ⟨n1, n2, n3⟩ := List.nodup_append.mp h
  exact ⟨n1, n2, fun a m z => n3 a m a z rfl⟩
/-- names are stored -/
theorem RE.setN : ∀ {is : List Nat} {vs : List V} {ds : List D} {S' : List Addr} {σ : L2.St} {env : Env} {S : List Addr}, RE K T0 T H0 H σ env S st → RepL K T H vs ds S' → keepL ds = true → S'.Nodup → (∀ a ∈ S', H0 a = none) → (∀ a ∈ S', ¬ a ∈ S) → ds.length = is.length →
    ∃ S2, RE K T0 T H0 H (setL σ is vs) (PL.setN env is ds) S2 st
  | [], [], [], _, σ, env, S, r, _, _, _, _, _, _ => ⟨S, r⟩
  | [], _, _ :: _, _, _, _, _, _, _, _, _, _, _, h => by simp at h
  | [], _ :: _, [], _, _, _, _, _, q, _, _, _, _, h => nomatch q
  | _ :: _, _, [], _, _, _, _, _, _, _, _, _, _, h => by simp at h
  | i :: is, [], _ :: _, _, _, _, _, _, q, _, _, _, _, h => nomatch q
  | i :: is, v :: vs, d :: ds, _, σ, env, S, r, .cons (S := Sa) (S' := Sb) q t, k, nd, fr, dj, h => by
    simp only [keepL, Bool.and_eq_true] at k
    obtain ⟨n1, n2, n3⟩ := nodup_split nd
    obtain ⟨S2, r2, m2⟩ := r.set q k.1 n1 (fun a m => fr a (List.mem_append_left _ m)) (fun a m => dj a (List.mem_append_left _ m)) i
    exact show ∃ S2, RE K T0 T H0 H (setL (σ.set i (some v)) is vs) (PL.setN (env.set i (some d)) is ds) S2 st from RE.setN r2 t k.2 n2 (fun a m => fr a (List.mem_append_right _ m)) (fun a m z => by
      rcases m2 a z with z | z
      · exact dj a (List.mem_append_right _ m) z
      · exact n3 a z m) (by simpa using h)
theorem RE.out (r : RE K T0 T H0 H σ env S st) {S1 : List Addr} (f : ∀ a ∈ S1, H a = none) : ∀ a ∈ S1, ¬ a ∈ S := fun a m z => by
  obtain ⟨ys, q⟩ := r.env_.dom a z
  rw [f a m] at q; cases q
mutual
theorem frz_noOwn : ∀ d : D, d.frz.noOwn = true
  | .non => rfl
  | .bl _ => rfl
  | .int _ => rfl
  | .str _ => rfl
  | .tup ds => by simpa [D.frz, D.noOwn] using frzL_noOwn ds
  | .lst .own ds => rfl
  | .lst .fro ds => rfl
  | .lst .bor ds => rfl
  | .lst .scr ds => rfl
  | .sref _ => rfl
theorem frzL_noOwn : ∀ ds : List D, noOwnL (frzL ds) = true
  | [] => rfl
  | d :: ds => by simp [frzL, noOwnL, frz_noOwn d, frzL_noOwn ds]
end
/-! ### one list is shared -/
def Ts.push (T : Ts) (p : Addr) : Ts := ⟨T.sh ++ [p], T.hid⟩
theorem Ts.push_no {p a : Addr} (n : T.no a) (h : a ≠ p) : (T.push p).no a := ⟨fun m => (List.mem_append.mp m).elim n.1 fun z => h (List.mem_singleton.mp z), n.2⟩
theorem Ts.push_le {p : Addr} : TLe T (T.push p) := fun n a h => by
  show (T.sh ++ [p])[n]? = some a
  rw [List.getElem?_append_left (List.getElem?_eq_some_iff.mp h).1]
  exact h
mutual
theorem Rep.push {p : Addr} : ∀ {v : V} {d : D} {S : List Addr}, Rep K T H v d S → (∀ a ∈ S, a ≠ p) → d.keep = true → Rep K (T.push p) H v d S
  | _, _, _, .non, _, _ => .non
  | _, _, _, .bl b, _, _ => .bl b
  | _, _, _, .int i, _, _ => .int i
  | _, _, _, .str x, _, _ => .str x
  | _, _, _, .tup h r, m, k => .tup h (RepL.push r m (by simpa [D.keep] using k))
  | _, _, _, .own h n r, m, k => .own h (Ts.push_no n (m _ List.mem_cons_self)) (RepL.push r (fun a z => m a (List.mem_cons_of_mem _ z)) (by simpa [D.keep] using k))
  | _, _, _, .fro h r k', m, k => .fro h (RepL.push r m k') k'
  | _, _, _, .bor h n r, m, k => by simp [D.keep] at k
  | _, _, _, .scr h r k', m, k => .scr h (RepL.push r m k') k'
  | _, _, _, .sref h, _, _ => .sref (Ts.push_le _ _ h)
theorem RepL.push {p : Addr} : ∀ {vs : List V} {ds : List D} {S : List Addr}, RepL K T H vs ds S → (∀ a ∈ S, a ≠ p) → keepL ds = true → RepL K (T.push p) H vs ds S
  | _, _, _, .nil, _, _ => .nil
  | _, _, _, .cons r t, m, k => by
    simp only [keepL, Bool.and_eq_true] at k
    exact .cons (Rep.push r (fun a z => m a (List.mem_append_left _ z)) k.1) (RepL.push t (fun a z => m a (List.mem_append_right _ z)) k.2)
end
theorem EnvR.push {p : Addr} : ∀ {σ : L2.St} {env : Env} {S : List Addr}, EnvR K T H σ env S → (∀ a ∈ S, a ≠ p) → EnvR K (T.push p) H σ env S
  | _, _, _, .em, _ => .em
  | _, _, _, .un r, m => .un (EnvR.push r m)
  | _, _, _, .is r k q, m => .is (r.push (fun a z => m a (List.mem_append_left _ z)) k) k (EnvR.push q fun a z => m a (List.mem_append_right _ z))
theorem SOk.push {p : Addr} {xs : List V} {es : List D} (s : SOk K T H st) (np : T.no p) (h : H p = some (.lst xs)) (r : RepL K T H xs es []) (k : keepL es = true) : SOk K (T.push p) H (st ++ [es]) :=
  ⟨List.nodup_append.mpr ⟨s.nd, by simp, fun a m b mb z => np.1 (by rw [← List.mem_singleton.mp mb, ← z]; exact m)⟩, by
    show (T.sh ++ [p]).length = _
    rw [List.length_append, List.length_append, s.len]; rfl, fun n a ds g1 g2 => by
    have g1' : (T.sh ++ [p])[n]? = some a := g1
    by_cases hn : n < st.length
    · rw [List.getElem?_append_left (by rw [s.len]; exact hn)] at g1'
      rw [List.getElem?_append_left hn] at g2
      obtain ⟨ys, z1, z2, z3⟩ := s.at_ n a ds g1' g2
      exact ⟨ys, z1, z2.push (fun _ m => nomatch m) z3, z3⟩
    · have e : n = st.length := by
        have := (List.getElem?_eq_some_iff.mp g2).1
        rw [List.length_append] at this
        simp at this
        omega
      subst e
      rw [← s.len, List.getElem?_append_right (Nat.le_refl _)] at g1'
      rw [List.getElem?_append_right (Nat.le_refl _)] at g2
      simp at g1' g2
      subst g1'; subst g2
      exact ⟨xs, h, r.push (fun _ m => nomatch m) k, k⟩, s.hid⟩
theorem set_set_self {σ : L2.St} {i : Nat} {v w : V} (h : σ[i]? = some (some v)) : (σ.set i (some w)).set i (some v) = σ := by
  rw [List.set_set]; exact set_self h
theorem RE.share (r : RE K T0 T H0 H σ env S st) {i : Nat} {p : Addr} {ds : List D} (h1 : env[i]? = some (some (.lst .own ds))) (h2 : σ[i]? = some (some (.ref p))) (no : ∀ xs S0, H p = some (.lst xs) → RepL K T H xs ds S0 → S0 = []) :
    ∃ S2, RE K T0 (T.push p) H0 H σ (env.set i (some (.sref st.length))) S2 (st ++ [ds]) := by
  obtain ⟨A, S0, B, e, q, k, re⟩ := r.env_.split h1 h2 r.nd
  have nd0 := r.nd
  rw [e] at nd0
  have k' : keepL ds = true := by simpa [D.keep] using k
  cases q with
  | @own _ xs _ S1 hp np rl =>
    have z := no xs S1 hp rl
    subst z
    have en := re [] H .non .non [] ⟨fun _ _ => rfl, fun _ m => nomatch m⟩ (fun _ m => nomatch m) .non rfl
    obtain ⟨n1, n2, n3⟩ := nodup_split nd0
    obtain ⟨n4, n5, n6⟩ := nodup_split n2
    have np' : ∀ a ∈ A ++ ([] ++ B), a ≠ p := fun a m z => by
      subst z
      rcases List.mem_append.mp m with m | m
      · exact n3 a m (List.mem_append_left _ List.mem_cons_self)
      · exact n6 a List.mem_cons_self m
    have inS : ∀ a ∈ A ++ ([] ++ B), a ∈ S := fun a m => by
      rw [e]
      rcases List.mem_append.mp m with m | m
      · exact List.mem_append_left _ m
      · exact List.mem_append_right _ (List.mem_append_right _ m)
    obtain ⟨more, g1, g2⟩ := r.grow
    have r1 : RE K T0 (T.push p) H0 H (σ.set i (some .non)) (env.set i (some .non)) (A ++ ([] ++ B)) (st ++ [ds]) :=
      ⟨en.push np', nodup_put nd0 List.nodup_nil (fun _ m => nomatch m) (fun _ m => nomatch m), fun a m => r.fresh a (inS a m), r.ext, r.so.push np hp rl k', r.so0, ⟨more ++ [p], by
        show T.sh ++ [p] = _
        rw [g1, List.append_assoc], fun a m => by
        rcases List.mem_append.mp m with m | m
        · exact g2 a m
        · rw [List.mem_singleton.mp m]
          exact r.fresh p (by rw [e]; exact List.mem_append_right _ (List.mem_append_left _ List.mem_cons_self))⟩, r.hid⟩
    obtain ⟨S2, r2, _⟩ := r1.set (v := .ref p) (d := .sref st.length) (S' := []) (.sref (by
      show (T.sh ++ [p])[st.length]? = some p
      rw [← r.so.len, List.getElem?_append_right (Nat.le_refl _)]
      simp)) rfl List.nodup_nil (fun _ m => nomatch m) (fun _ m => nomatch m) i
    rw [set_set_self h2, List.set_set] at r2
    exact ⟨S2, r2⟩
end
section
variable {X : Cx} {ca : Cls_} {W : WX} {pos p1 p2 p3 : Pos}
/-! ### ghosts -/
theorem ss_frz {ss : List Stmt} {i : Nat} {g : Env → M Fl} (h : PSs X ss (TSv X.K ca W g)) : PSs X ss (TSv X.K ca W (frzF i g)) := by
  refine ⟨fun pins s σ H D I ⟨T0, T, H0, env, S, st, r, w⟩ => ?_⟩
  obtain ⟨d, hx⟩ : ∃ dx, env[i]? = some (some dx) := by
    cases hx : env[i]? with
    | none => simp only [frzF, hx] at w; exact w.elim
    | some o => cases o with
      | none => simp only [frzF, hx] at w; exact w.elim
      | some dx => exact ⟨dx, rfl⟩
  simp only [frzF, hx] at w
  obtain ⟨v, hv⟩ := r.at_ hx
  obtain ⟨S0, q, k, nd, inS, mu⟩ := r.mut hx hv
  obtain ⟨H2, I2, fz⟩ := Inv.freezeS S0 I nd q.dom
  obtain ⟨q1, q2⟩ := q.frz fz (fun a m => m) k
  obtain ⟨S2, r2⟩ := mu S0 H2 v d.frz [] fz.chg (fun a m => m) q1 q2 List.nodup_nil (fun _ m => nomatch m) (r.hidOk fz.chg q.noT)
  rw [set_self hv] at r2
  exact h.run pins s σ H2 D I2 ⟨T0, T, H0, _, S2, st, r2, w.imp fun fl st' _ q => q.weak fz.imx (TLe.refl _)⟩
theorem ss_share {ss : List Stmt} {i : Nat} {g : Env → M Fl} (h : PSs X ss (TSv X.K ca W g)) : PSs X ss (TSv X.K ca W (shareF i g)) := by
  refine ⟨fun pins s σ H D I ⟨T0, T, H0, env, S, st, r, w⟩ => ?_⟩
  obtain ⟨ds, hx⟩ : ∃ ds, env[i]? = some (some (.lst .own ds)) := by
    unfold shareF at w
    cases hx : env[i]? with
    | none => rw [hx] at w; exact w.elim
    | some o => cases o with
      | none => rw [hx] at w; exact w.elim
      | some dx => cases dx with
        | lst m ds => cases m with
          | own => exact ⟨ds, rfl⟩
          | _ => rw [hx] at w; exact w.elim
        | _ => rw [hx] at w; exact w.elim
  simp only [shareF, hx] at w
  obtain ⟨v, hv⟩ := r.at_ hx
  obtain ⟨S0, q, k, nd, inS, mu⟩ := r.mut hx hv
  have k' : keepL ds = true := by simpa [PL.D.keep] using k
  cases q with
  | @own p xs _ S1 hp np rl =>
    obtain ⟨n1, n2⟩ := List.nodup_cons.mp nd
    obtain ⟨H2, I2, fz⟩ := Inv.freezeS S1 I n2 rl.dom
    obtain ⟨q1, q2⟩ := rl.frz fz (fun a m => m) k'
    have hp2 : H2 p = some (.lst xs) := (fz.out p n1).trans hp
    obtain ⟨S2, r2⟩ := mu S1 H2 (.ref p) (.lst .own (frzL ds)) [p] fz.chg (fun a m => List.mem_cons_of_mem _ m) (.own hp2 np q1) (by simpa [PL.D.keep] using q2) (by simp) (fun a m => .inl (by rw [List.mem_singleton.mp m]; exact List.mem_cons_self)) (r.hidOk fz.chg rl.noT)
    rw [set_self hv] at r2
    have hl : i < env.length := (List.getElem?_eq_some_iff.mp hx).1
    obtain ⟨S3, r3⟩ := r2.share (i := i) (p := p) (ds := frzL ds) (List.getElem?_set_self hl) hv (fun ys S0 z1 z2 => by
      exact z2.noOwn (frzL_noOwn ds))
    rw [List.set_set] at r3
    exact h.run pins s σ H2 D I2 ⟨T0, T.push p, H0, _, S3, _, r3, w.imp fun fl st' _ q => q.weak fz.imx Ts.push_le⟩
end
end PL
namespace PL
open PySem PySem.Spec PyProof.Rows L2

section
variable {X : Cx} {ca : Cls_} {W : WX} {pos p1 p2 p3 : Pos}
theorem Wish.one {K : PySem.W.Frag} {ca : Cls_} {W : WX} {T : Ts} {H : Hp} {σ : L2.St} {st : Store} {m : M D} {Q : List D → Store → Prop} (w : Wish K ca W T H σ (m st) fun d st' => Q [d] st') :
    Wish K ca W T H σ (M.bind m (fun d => M.bind (M.pure []) fun ds => M.pure (d :: ds)) st) Q := by
  unfold M.bind
  cases hm : m st with
  | ok a st1 => rw [hm] at w; exact w
  | exn c p st1 => rw [hm] at w; exact w
  | err => rw [hm] at w; exact w
/-- x.append(e) -/
theorem ss_append {i : Nat} {c : Expr} {f : Env → M D} (h : PE X c (tBM X.K "list" rAppend (tVar i) (TAv X.K ca W fun env => M.bind (f env) fun d => M.bind (M.pure []) fun ds => M.pure (d :: ds)))) (hs : swapsWith c none pos.line X.env = Pure.pure false) :
    PS X (.Expr c pos) (TSv X.K ca W (appF i f)) := by
  refine PS.mono (ps_expr h hs) fun D σ H ⟨T0, T, H0, env, S, st, r, w⟩ => ?_
  obtain ⟨ds, hx⟩ : ∃ ds, env[i]? = some (some (.lst .own ds)) := by
    unfold appF at w
    cases hx : env[i]? with
    | none => rw [hx] at w; exact w.elim
    | some o => cases o with
      | none => rw [hx] at w; exact w.elim
      | some dx => cases dx with
        | lst m ds => cases m with
          | own => exact ⟨ds, rfl⟩
          | _ => rw [hx] at w; exact w.elim
        | _ => rw [hx] at w; exact w.elim
  simp only [appF, hx] at w
  obtain ⟨v, hv⟩ := r.at_ hx
  obtain ⟨v0, _, S0, _, g1, g2, _⟩ := r.env_.get hx
  rw [hv] at g1; cases g1
  obtain ⟨p, rfl⟩ := rep_own g2
  obtain ⟨xs0, S6, hp0, rl0, _⟩ := r.write hx hv
  refine ⟨.ref p, hv, .inl ⟨rfl, xs0, SqL.of hp0⟩, T, env, st, r.env_.eb, r.so, Wish.one (r.wish w fun d st1 hf w1 vs H1 S1 e1 s1 r1 f1 => ?_)⟩
  have q1 := r.step e1 s1
  cases r1 with
  | @cons v1 _ _ _ Sa Sb ra rb =>
  cases rb
  rw [List.append_nil] at f1
  split at w1
  case isFalse => exact w1.elim
  rename_i hk
  simp only [Bool.and_eq_true, decide_eq_true_eq] at hk
  obtain ⟨xs, S3, hp, rl, kl, inS, pS, nd, wr⟩ := q1.write hx hv
  refine ⟨p, xs, v1, rfl, rfl, hp, by rw [rl.length]; exact lim_lt (by omega), ?_⟩
  have fr1 := r.out f1.2
  obtain ⟨S5, q3⟩ := wr (xs ++ [v1]) (ds ++ [d]) (S3 ++ Sa) (RepL.append rl (by simpa using RepL.cons ra RepL.nil)) (keepL_app kl (by simp [keepL, hk.1])) (List.nodup_append.mpr ⟨nd, f1.1, fun a m b mb z => fr1 b mb (by rw [← z]; exact inS a m)⟩) fun a m => by
    rcases List.mem_append.mp m with m | m
    · exact .inl m
    · exact .inr ⟨fr1 a m, r.free (f1.2 a m)⟩
  exact w1 T σ _ S5 (e1.imx.trans (chg_upd hp).imx) (TLe.refl _) q3
/-- x += e, x -= e of ints -/
theorem ss_aug {x : Str} {i : Nat} {op : Bop} {o : Operator} {e : Expr} {f : Env → M D} {ti : TIp} (h : PS X (.AugAssign (.Name x p1) o e pos) (tAug i (TEv X.K ca W f) ti)) (ho : (op = .add ∧ ti = ipI fun i j => i + j) ∨ (op = .sub ∧ ti = ipI fun i j => i - j)) :
    PS X (.AugAssign (.Name x p1) o e pos) (TSv X.K ca W (augF i op f)) := by
  refine PS.mono h fun D σ H ⟨T0, T, H0, env, S, st, r, w⟩ => ?_
  obtain ⟨a, hx⟩ : ∃ a, env[i]? = some (some (.int a)) := by
    unfold augF at w
    cases hx : env[i]? with
    | none => rw [hx] at w; exact w.elim
    | some o => cases o with
      | none => rw [hx] at w; exact w.elim
      | some dx => cases dx with
        | int a => exact ⟨a, rfl⟩
        | _ => rw [hx] at w; exact w.elim
  simp only [augF, hx] at w
  obtain ⟨v0, _, S0, _, g1, g2, _⟩ := r.env_.get hx
  cases g2
  refine ⟨_, g1, T, env, st, r.env_.eb, r.so, r.wish w fun d st1 hf w1 v H1 S1 e1 s1 r1 f1 => ?_⟩
  have q1 := r.step e1 s1
  rcases ho with ⟨rfl, rfl⟩ | ⟨rfl, rfl⟩ <;> cases d with
    | int b =>
      cases r1
      obtain ⟨S2, q2, _⟩ := q1.set (.int _) rfl List.nodup_nil (fun _ m => nomatch m) (fun _ m => nomatch m) i
      exact ⟨_, _, rfl, rfl, w1 T _ _ _ e1.imx (TLe.refl _) q2⟩
    | _ => exact w1.elim
/-- a, b = e -/
theorem ss_setT {s : Stmt} {is : List Nat} {te : TE} {f : Env → M D} {n : Nat} (h : PS X s (tAsg te (gTup X.K n (gNames is)))) (hn : n = is.length) (hm : ∀ σ H Q, TEv X.K ca W f σ H Q → te σ H Q) : PS X s (TSv X.K ca W (setTF is f)) := by
  refine PS.mono h fun D σ H ⟨T0, T, H0, env, S, st, r, w⟩ => hm _ _ _ ⟨T, env, st, r.env_.eb, r.so, r.wish w fun d st1 h w1 v H1 S1 e1 s1 r1 f1 => ?_⟩
  cases r1 with
  | tup ht rl =>
    dsimp only at w1
    split at w1
    case isFalse => exact w1.elim
    rename_i hk
    simp only [Bool.and_eq_true, decide_eq_true_eq] at hk
    have r2 := r.step e1 s1
    obtain ⟨S2, r3⟩ := r2.setN rl hk.1 f1.1 (fun a m => r.free (f1.2 a m)) (r.out f1.2) hk.2
    exact ⟨_, _, rfl, ht.sqT, by rw [rl.length, hk.2, hn], by rw [rl.length, hk.2], w1 T _ H1 S2 e1.imx (TLe.refl _) r3⟩
  | _ => exact w1.elim
/-- a, b = x, y -/
theorem ss_par {s : Stmt} {is : List Nat} {g : Env → M (List D)} {t : TS} (h : PS X s t) (hm : ∀ D σ H, TAv X.K ca W g σ H (fun vs H1 => vs.length = is.length ∧ D.nx (setL σ is vs) H1) → t D σ H) : PS X s (TSv X.K ca W (parF is g)) := by
  refine PS.mono h fun D σ H ⟨T0, T, H0, env, S, st, r, w⟩ => hm _ _ _ ⟨T, env, st, r.env_.eb, r.so, r.wish w fun ds st1 h w1 vs H1 S1 e1 s1 rl f1 => ?_⟩
  split at w1
  case isFalse => exact w1.elim
  rename_i hk
  simp only [Bool.and_eq_true, decide_eq_true_eq] at hk
  have r2 := r.step e1 s1
  obtain ⟨S2, r3⟩ := r2.setN rl hk.1 f1.1 (fun a m => r.free (f1.2 a m)) (r.out f1.2) hk.2
  exact ⟨by rw [rl.length, hk.2], w1 T _ H1 S2 e1.imx (TLe.refl _) r3⟩
end
/-! ### loops -/
section
variable {X : Cx} {ca : Cls_} {W : WX} {pos p : Pos} {tg tge l a b : Expr}
/-- the walk yields what stands for ds, whatever becomes of lists -/
def Wki (K : PySem.W.Frag) (T : Ts) (J : L2.It) (H1 : Hp) (ds : List D) : Prop := keepL ds = true ∧ ∀ T' H', Imx H1 H' → TLe T T' →
  (∀ i d, ds[i]? = some d → J.go i H' ∧ ∀ x H'', J.yld i H' x H'' → H'' = H' ∧ Rep K T' H' x d []) ∧ ∀ i, ds[i]? = none → J.stop i H'
def TIz (K : PySem.W.Frag) (ca : Cls_) (W : WX) (f : Env → M (List D)) : TI := fun σ H R => ∃ T0 T H0 env S st, RE K T0 T H0 H σ env S st ∧
  WishS K ca W T0 H0 (f env st) fun ds st' => ∀ J H', Imx H H' → RE K T0 T H0 H' σ env S st' → Wki K T J H' ds → R J H'
theorem keepL_get : ∀ {ds : List D} {i : Nat} {d : D}, keepL ds = true → ds[i]? = some d → d.keep = true
  | [], i, d, _, h => by simp at h
  | e :: ds, 0, d, k, h => by
    simp only [keepL, Bool.and_eq_true] at k
    simp at h; subst h; exact k.1
  | e :: ds, i + 1, d, k, h => by
    simp only [keepL, Bool.and_eq_true] at k
    exact keepL_get k.2 (by simpa using h)
theorem keepL_rg : ∀ (l : List Nat) (a : Int), keepL (l.map fun (i : Nat) => D.int (a + (i : Nat))) = true
  | [], _ => rfl
  | x :: l, a => by
    show (true && keepL _) = true
    rw [keepL_rg l a]; rfl
theorem wki_rng {K : PySem.W.Frag} {T : Ts} {H1 : Hp} (a b : Int) : Wki K T (Itr a (b - a).toNat) H1 (rgD a b) := by
  refine ⟨keepL_rg _ a, fun T' H' l e => ⟨fun i d h => ?_, fun i h => rgD_none h⟩⟩
  obtain ⟨h1, rfl⟩ := rgD_get h
  refine ⟨h1, fun x H'' y => ⟨y.1, ?_⟩⟩
  rw [y.2]
  exact .int _
theorem sz_r1 {f : Env → M D} (hg : Gl X "range") (hm : X.mg "range" = none) (h : PE X a (TEv X.K ca W f)) (hs : starEach [a] X.env = (false, eval a X.env) :: starEach [] X.env) :
    PI X tg (.Call (.Name "range" p) [a] [] pos) (TIz X.K ca W fun env => M.bind (f env) fun d => match d with | .int n => if rgOk 0 n then M.pure (rgD 0 n) else M.fail | _ => M.fail) := by
  refine PI.mono (pi_range1 hg hm (pa_cons h pa_nil hs) hs) fun σ H Q ⟨T0, T, H0, env, S, st, r, w⟩ => ⟨T, env, st, r.env_.eb, r.so, r.wish w fun d1 st1 h1 w1 v1 H1 S1 e1 s1 r1 f1 => ?_⟩
  cases d1 with
  | int n =>
    obtain ⟨rfl, _⟩ := r1.intI
    dsimp only at w1
    split at w1
    · rename_i hc
      simp only [rgOk, Bool.and_eq_true, decide_eq_true_eq] at hc
      refine ⟨n, rfl, by omega, by omega, ?_⟩
      have := w1 (Itr 0 (n - 0).toNat) H1 e1.imx (r.step e1 s1) (wki_rng 0 n)
      rw [Int.sub_zero] at this
      exact this
    · exact w1.elim
  | _ => exact w1.elim
theorem sz_r2 {f g : Env → M D} (hg : Gl X "range") (hm : X.mg "range" = none) (h : PE X a (TEv X.K ca W f)) (h2 : PE X b (TEv X.K ca W g)) (hs : starEach [a, b] X.env = (false, eval a X.env) :: starEach [b] X.env) (hs2 : starEach [b] X.env = (false, eval b X.env) :: starEach [] X.env) :
    PI X tg (.Call (.Name "range" p) [a, b] [] pos) (TIz X.K ca W fun env => M.bind (f env) fun d => M.bind (g env) fun d' => match d, d' with | .int i, .int n => if rgOk i n then M.pure (rgD i n) else M.fail | _, _ => M.fail) := by
  refine PI.mono (pi_range2 hg hm (pa_cons h (pa_cons h2 pa_nil hs2) hs) (by rw [hs, hs2]; rfl) hs2) fun σ H Q ⟨T0, T, H0, env, S, st, r, w⟩ => ⟨T, env, st, r.env_.eb, r.so, r.wish w fun d1 st1 h1 w1 v1 H1 S1 e1 s1 r1 f1 => ?_⟩
  have q1 := r.step e1 s1
  refine ⟨T, env, st1, q1.env_.eb, s1, q1.wish w1 fun d2 st2 h2 w2 v2 H2 S2 e2 s2 r2 f2 => ?_⟩
  cases d1 with
  | int i =>
    cases d2 with
    | int n =>
      obtain ⟨rfl, _⟩ := r1.intI
      obtain ⟨rfl, _⟩ := r2.intI
      dsimp only at w2
      split at w2
      · rename_i hc
        simp only [rgOk, Bool.and_eq_true, decide_eq_true_eq] at hc
        exact ⟨i, n, rfl, ⟨by omega, by omega, by omega, by omega⟩, w2 _ H2 (e1.imx.trans e2.imx) (q1.step e2 s2) (wki_rng i n)⟩
      · exact w2.elim
    | _ => exact w2.elim
  | _ => exact w2.elim
/-- frozen as it comes -/
theorem PI.ghost {t t' : TI} (h : PI X tg l t) (hm : ∀ σ H R, t' σ H R → t σ H fun J H1 => ∃ S : List Addr, S.Nodup ∧ (∀ a ∈ S, ∃ xs, H1 a = some (.lst xs)) ∧ ∀ H2, Fz S H1 H2 → R J H2) : PI X tg l t' := by
  refine ⟨fun pins s σ H R I w => thn (h.run pins s σ H _ I (hm σ H R w)) fun v s1 q => thn q fun itv s2 ⟨it, fp, tn, J, H1, e, I1, T, st, f, S, nd, dm, q⟩ => ?_⟩
  obtain ⟨H2, I2, fz⟩ := Inv.freezeS S I1 nd dm
  exact ⟨it, fp, tn, J, H2, e, I2, T, st, fun b hb => ⟨by
    have n := (f b hb).1
    rw [fz.out b fun m => by obtain ⟨xs, z⟩ := dm b m; rw [n] at z; cases z]
    exact n, (f b hb).2⟩, q H2 fz⟩
mutual
theorem bw_id : ∀ {d : D}, d.noOwn = true → d.keep = true → d.bw = d
  | .non, _, _ => rfl
  | .bl _, _, _ => rfl
  | .int _, _, _ => rfl
  | .str _, _, _ => rfl
  | .tup ds, n, k => by
    show D.tup (bwL ds) = _
    rw [bwL_id (by simpa [D.noOwn] using n) (by simpa [D.keep] using k)]
  | .lst .own ds, n, k => by simp [D.noOwn] at n
  | .lst .fro ds, _, _ => rfl
  | .lst .bor ds, n, k => by simp [D.keep] at k
  | .lst .scr ds, _, _ => rfl
  | .sref _, _, _ => rfl
theorem bwL_id : ∀ {ds : List D}, noOwnL ds = true → keepL ds = true → bwL ds = ds
  | [], _, _ => rfl
  | d :: ds, n, k => by
    simp only [noOwnL, keepL, Bool.and_eq_true] at n k
    show d.bw :: bwL ds = _
    rw [bw_id n.1 k.1, bwL_id n.2 k.2]
end
mutual
theorem Rep.noOwn_of {K : PySem.W.Frag} {T : Ts} {H : Hp} : ∀ {v : V} {d : D} {S : List Addr}, Rep K T H v d S → S = [] → d.noOwn = true
  | _, _, _, .non, _ => rfl
  | _, _, _, .bl b, _ => rfl
  | _, _, _, .int i, _ => rfl
  | _, _, _, .str x, _ => rfl
  | _, _, _, .tup _ r, h => by simpa [D.noOwn] using RepL.noOwn_of r h
  | _, _, _, .own _ _ _, h => by cases h
  | _, _, _, .fro _ _ _, _ => rfl
  | _, _, _, .bor _ _ _, _ => rfl
  | _, _, _, .scr _ _ _, _ => rfl
  | _, _, _, .sref _, _ => rfl
theorem RepL.noOwn_of {K : PySem.W.Frag} {T : Ts} {H : Hp} : ∀ {vs : List V} {ds : List D} {S : List Addr}, RepL K T H vs ds S → S = [] → noOwnL ds = true
  | _, _, _, .nil, _ => rfl
  | _, _, _, .cons r t, h => by
    obtain ⟨z1, z2⟩ := List.append_eq_nil_iff.mp h
    simp only [noOwnL, Bool.and_eq_true]
    exact ⟨Rep.noOwn_of r z1, RepL.noOwn_of t z2⟩
end
theorem wki_list {K : PySem.W.Frag} {T : Ts} {H1 : Hp} {a : Addr} {xs : List V} {ds : List D} (hs : ∀ H', Imx H1 H' → SqL K H' a xs) (r : RepL K T H1 xs ds []) (k : keepL ds = true) : Wki K T (Itl K a) H1 ds := by
  refine ⟨k, fun T' H' e l => ?_⟩
  have q := hs H' e
  have r' := RepL.imm e l r rfl k
  refine ⟨fun i d h => ?_, fun i h => ⟨xs, q, ?_⟩⟩
  · obtain ⟨v, S', h1, h2, h3⟩ := r'.get h
    have eS : S' = [] := List.sublist_nil.mp h3
    subst eS
    refine ⟨⟨xs, v, q, h1⟩, fun x H'' y => ⟨y.1, ?_⟩⟩
    have := y.2 xs q
    rw [h1] at this
    cases this
    exact h2
  · rw [r.length]
    exact List.getElem?_eq_none_iff.mp h
theorem wki_tup {K : PySem.W.Frag} {T : Ts} {H1 : Hp} {a : Addr} {xs : List V} {ds : List D} (hs : SqT K H1 a xs) (r : RepL K T H1 xs ds []) (k : keepL ds = true) : Wki K T (Itt K a) H1 ds := by
  refine ⟨k, fun T' H' e l => ?_⟩
  have q : SqT K H' a xs := by
    rcases hs with (h | ⟨o, h⟩) | h
    · exact .inl (.inl (e _ _ h fun _ z => nomatch z))
    · exact .inl (.inr ⟨o, e _ _ h fun _ z => nomatch z⟩)
    · exact .inr h
  have r' := RepL.imm e l r rfl k
  refine ⟨fun i d h => ?_, fun i h => ⟨xs, q, ?_⟩⟩
  · obtain ⟨v, S', h1, h2, h3⟩ := r'.get h
    have eS : S' = [] := List.sublist_nil.mp h3
    subst eS
    refine ⟨⟨xs, v, q, h1⟩, fun x H'' y => ⟨y.1, ?_⟩⟩
    have := y.2 xs q
    rw [h1] at this
    cases this
    exact h2
  · rw [r.length]
    exact List.getElem?_eq_none_iff.mp h
theorem sz_seq {f : Env → M D} (h : PE X l (TEv X.K ca W f)) : PI X tg l (TIz X.K ca W (itF f)) := by
  refine PI.ghost (pi_seq h) fun σ H R ⟨T0, T, H0, env, S, st, r, w⟩ => ⟨T, env, st, r.env_.eb, r.so, r.wish w fun d st1 h1 w1 v H1 S1 e1 s1 r1 f1 => ?_⟩
  split at w1
  case isFalse => exact w1.elim
  rename_i hk
  obtain ⟨ds, hds, q⟩ := w1.opt
  have q1 := r.step e1 s1
  -- what is behind
  have beh : ∀ H2, Fz S1 H1 H2 → RE X.K T0 T H0 H2 σ env S st1 := fun H2 fz => by
    have c := fz.chg
    have out : ∀ a ∈ S, ¬ a ∈ S1 := fun a m z => r.out f1.2 a z m
    exact ⟨q1.env_.chg c out, q1.nd, q1.fresh, q1.extc c fun a m => r.free (f1.2 a m), q1.so.chg c r1.noT (q1.hidOk c r1.noT), q1.so0, q1.grow, q1.hid⟩
  cases r1 with
  | @tup a xs es _ ht rl =>
    cases hds
    have k' : keepL es = true := by simpa [D.keep] using hk
    refine ⟨a, rfl, .inr ⟨⟨xs, ht.sqT⟩, S1, f1.1, rl.dom, fun H2 fz => ?_⟩⟩
    obtain ⟨g1, g2⟩ := rl.frz fz (fun a m => m) k'
    have ht2 : SqT X.K H2 a xs := by
      obtain ⟨o, h, _⟩ := ht
      exact .inl (.inr ⟨o, fz.imx _ _ h fun _ z => nomatch z⟩)
    refine q _ H2 (e1.imx.trans fz.imx) (beh H2 fz) (wki_tup ht2 ?_ ?_)
    · rw [bwL_id (frzL_noOwn es) g2]; exact g1
    · rw [bwL_id (frzL_noOwn es) g2]; exact g2
  | @own a xs es S2 hp np rl =>
    cases hds
    have k' : keepL es = true := by simpa [D.keep] using hk
    refine ⟨a, rfl, .inl ⟨⟨xs, SqL.of hp⟩, a :: S2, f1.1, (Rep.own hp np rl).dom, fun H2 fz => ?_⟩⟩
    obtain ⟨g1, g2⟩ := rl.frz fz (fun a m => List.mem_cons_of_mem _ m) k'
    obtain ⟨o, ys, z1, z2⟩ := fz.at_ a List.mem_cons_self
    rw [hp] at z1; cases z1
    refine q _ H2 (e1.imx.trans fz.imx) (beh H2 fz) (wki_list (fun H' e => .inl (.inr ⟨o, e _ _ z2 fun _ z => nomatch z⟩)) ?_ ?_)
    · rw [bwL_id (frzL_noOwn es) g2]; exact g1
    · rw [bwL_id (frzL_noOwn es) g2]; exact g2
  | @fro a o xs es hp rl k' =>
    cases hds
    refine ⟨a, rfl, .inl ⟨⟨xs, .inl (.inr ⟨o, hp⟩)⟩, [], List.nodup_nil, (fun _ m => nomatch m), fun H2 fz => ?_⟩⟩
    have g := rl.imm fz.imx (TLe.refl T) rfl k'
    have n := g.noOwn_of rfl
    refine q _ H2 (e1.imx.trans fz.imx) (beh H2 fz) (wki_list (fun H' e => .inl (.inr ⟨o, e _ _ (fz.imx _ _ hp fun _ z => nomatch z) fun _ z => nomatch z⟩)) ?_ ?_)
    · rw [bwL_id n k']; exact g
    · rw [bwL_id n k']; exact k'
  | bor _ _ _ => simp [D.keep] at hk
  | @scr a xs es hp rl k' =>
    cases hds
    refine ⟨a, rfl, .inl ⟨⟨xs, hp.sq⟩, [], List.nodup_nil, (fun _ m => nomatch m), fun H2 fz => ?_⟩⟩
    have g := rl.imm fz.imx (TLe.refl T) rfl k'
    have n := g.noOwn_of rfl
    refine q _ H2 (e1.imx.trans fz.imx) (beh H2 fz) (wki_list (xs := xs) (fun H' e => ?_) ?_ ?_)
    · rcases hp with ⟨o, hp⟩ | hp
      · exact .inl (.inr ⟨o, e _ _ (fz.imx _ _ hp fun _ z => nomatch z) fun _ z => nomatch z⟩)
      · exact .inr hp
    · rw [bwL_id n k']; exact g
    · rw [bwL_id n k']; exact k'
  | _ => cases hds
end
end PL
namespace PL
open PySem PySem.Spec PyProof.Rows L2

section
variable {X : Cx} {ca : Cls_} {W : WX} {pos p : Pos} {tge l a b : Expr}
/-- a target of a for -/
def TGr (K : PySem.W.Frag) (tg : List Nat) (tup : Bool) : TG := fun v σ H Q => ∃ T0 T H0 env S st d env', RE K T0 T H0 H σ env S st ∧ Rep K T H v d [] ∧ d.keep = true ∧ bindT tg tup d env = some env' ∧
  ∀ σ' S', RE K T0 T H0 H σ' env' S' st → Q σ' H
theorem RE.foldN {K : PySem.W.Frag} {T0 T : Ts} {H0 H : Hp} {st : Store} : ∀ {is : List Nat} {vs : List V} {ds : List D} {σ : L2.St} {env : Env} {S : List Addr}, RE K T0 T H0 H σ env S st → RepL K T H vs ds [] → keepL ds = true → ds.length = is.length →
    ∃ S2, RE K T0 T H0 H (setL σ is vs) ((is.zip ds).foldl (fun e p => e.set p.1 (some p.2)) env) S2 st
  | [], [], [], σ, env, S, r, _, _, _ => ⟨S, r⟩
  | [], _, _ :: _, _, _, _, _, _, _, h => by simp at h
  | [], _ :: _, [], _, _, _, _, q, _, h => nomatch q
  | _ :: _, _, [], _, _, _, _, _, _, h => by simp at h
  | i :: is, [], _ :: _, _, _, _, _, q, _, h => nomatch q
  | i :: is, v :: vs, d :: ds, σ, env, S, r, q, k, h => by
    generalize hS : ([] : List Addr) = S0 at q
    cases q with
    | cons q t =>
      obtain ⟨e1, e2⟩ := List.append_eq_nil_iff.mp hS.symm
      subst e1; subst e2
      simp only [keepL, Bool.and_eq_true] at k
      obtain ⟨S2, r2, m2⟩ := r.set q k.1 List.nodup_nil (fun _ m => nomatch m) (fun _ m => nomatch m) i
      exact show ∃ S2, RE K T0 T H0 H (setL (σ.set i (some v)) is vs) ((is.zip ds).foldl (fun e p => e.set p.1 (some p.2)) (env.set i (some d))) S2 st from RE.foldN r2 t k.2 (by simpa using h)
theorem sr_name {x : Str} {i : Nat} (hN : X.N.Nodup) (hi : X.N[i]? = some x) (hx : Loc X.env.scope x) (hf : X.fn x = true ∨ X.env.scope.names.lookup x = some .local) : PG X (.Name x pos) (TGr X.K [i] false) := by
  refine PG.mono (pg_name hN hi hx hf) fun v σ H Q ⟨T0, T, H0, env, S, st, d, env', r, rv, hk, hb, q⟩ => ?_
  cases hb
  obtain ⟨S2, r2, _⟩ := r.set rv hk List.nodup_nil (fun _ m => nomatch m) (fun _ m => nomatch m) i
  exact q _ S2 r2
theorem sr_tup {es : List Expr} {tg : List Nat} {k : Nat} (hc : X.calm = true) (hN : X.N.Nodup) (h : NamesAt X es tg) : PG X (.Tuple es k pos) (TGr X.K tg true) := by
  obtain ⟨h1, h2⟩ := names_each h X.env
  refine PG.mono (pg_tup hc (sg_names hN h) h1 h2) fun v σ H Q ⟨T0, T, H0, env, S, st, d, env', r, rv, hk, hb, q⟩ => ?_
  cases d with
  | tup ds =>
    simp only [bindT] at hb
    split at hb
    · rename_i hl
      cases hb
      have hn : noOwnL ds = true := by simpa [D.noOwn] using rv.noOwn_of rfl
      have hk' : keepL ds = true := by simpa [D.keep] using hk
      cases rv with
      | tup p1 r1 =>
        have hlen := r1.length
        rw [bwL_id hn hk'] at q
        obtain ⟨S2, r2⟩ := RE.foldN r r1 hk' hl
        exact ⟨_, _, rfl, p1.sqT, by omega, by omega, q _ S2 r2⟩
    · cases hb
  | _ => simp [bindT] at hb
/-- for t in l: body -/
theorem ss_for {iter : Expr} {body : List Stmt} {tg : List Nat} {tup : Bool} {fit : Env → M (List D)} {f : Env → M Fl} (hp : PassesOwn (model X.prog X.w) X.A X.env X.xe) (hc : X.calm = true) (hi : PI X tge iter (TIz X.K ca W fit)) (hg : PG X tge (TGr X.K tg tup)) (hb : PSs X body (TSv X.K ca W f))
    (hs : ∀ x, foldedSetIterable iter X.env x = Pure.pure x) : PS X (.For tge iter body [] pos) (TSv X.K ca W fun env => M.bind (fit env) fun xs => forM tg tup f xs env) := by
  refine PS.mono (ps_for hp hc hi hg hb hs) fun D σ H ⟨T0, T, H0, env, S, st, r, w⟩ => ⟨T0, T, H0, env, S, st, r, w.bind fun xs st1 h1 w1 J H1 im1 r1 wk => ?_⟩
  refine ⟨fun i m σ' H' => ∃ T' env' S' st', m = xs.length - i ∧ RE X.K T0 T' H0 H' σ' env' S' st' ∧ Imx H1 H' ∧ TLe T T' ∧ WishS X.K ca W T0 H0 (forM tg tup f (xs.drop i) env' st') (FlQ X.K T0 H0 T' H' D), ⟨xs.length, T, env, S, st1, by simp, r1, Imx.refl _, TLe.refl _, ?_⟩, ?_⟩
  · rw [List.drop_zero]
    exact w1.imp fun fl st' _ q => q.weak im1 (TLe.refl _)
  rintro i m σ' H' ⟨T', env', S', st', rfl, r', im, tl, w'⟩
  obtain ⟨hk, wk⟩ := wk
  obtain ⟨wgo, wstop⟩ := wk T' H' im tl
  cases hx : xs[i]? with
  | none =>
    have hi2 : xs.length ≤ i := List.getElem?_eq_none_iff.mp hx
    rw [List.drop_eq_nil_of_le hi2] at w'
    exact .inl ⟨wstop i hx, w' T' σ' H' S' (Imx.refl _) (TLe.refl _) r'⟩
  | some x =>
    obtain ⟨go, yl⟩ := wgo i x hx
    have hilt : i < xs.length := (List.getElem?_eq_some_iff.mp hx).1
    rw [List.drop_eq_getElem_cons hilt] at w'
    have ex : xs[i] = x := (List.getElem?_eq_some_iff.mp hx).2
    rw [ex] at w'
    refine .inr ⟨go, fun σ2 H2 => ∃ T2 env2 S2 st2, RE X.K T0 T2 H0 H2 σ2 env2 S2 st2 ∧ Imx H1 H2 ∧ TLe T T2 ∧ WishS X.K ca W T0 H0 (forM tg tup f (xs.drop (i + 1)) env2 st2) (FlQ X.K T0 H0 T2 H2 D), fun σ2 H2 ⟨T2, env2, S2, st2, a1, a2, a3, a4⟩ => ⟨xs.length - (i + 1), by omega, T2, env2, S2, st2, rfl, a1, a2, a3, a4⟩, fun xv H'' yld => ?_⟩
    obtain ⟨rfl, rx⟩ := yl xv H'' yld
    unfold forM at w'
    cases hbd : bindT tg tup x env' with
    | none => rw [hbd] at w'; exact w'.elim
    | some env2 =>
      rw [hbd] at w'
      refine ⟨T0, T', H0, env', S', st', x, env2, r', rx, keepL_get hk hx, hbd, fun σ2 S2 r2 => ⟨T0, T', H0, env2, S2, st', r2, w'.bind fun fl st2 h2 w2 => ?_⟩⟩
      cases fl with
      | nx e => exact fun T3 σ3 H3 S3 im3 tl3 r3 => ⟨T3, e, S3, st2, r3, im.trans im3, tl.trans tl3, w2.imp fun fl st' _ q => q.weak im3 tl3⟩
      | ct e => exact fun T3 σ3 H3 S3 im3 tl3 r3 => ⟨T3, e, S3, st2, r3, im.trans im3, tl.trans tl3, w2.imp fun fl st' _ q => q.weak im3 tl3⟩
      | bk e => exact fun T3 σ3 H3 S3 im3 tl3 r3 => w2 T3 σ3 H3 S3 im3 tl3 r3
      | rt d => exact w2
/-- while c: body -/
theorem ss_while {c : Expr} {body : List Stmt} {fc : Env → M Bool} {f : Env → M Fl} {n : Nat} (hp : PassesOwn (model X.prog X.w) X.A X.env X.xe) (hc : PT X c (TTv X.K ca W fc)) (hb : PSs X body (TSv X.K ca W f)) : PS X (.While c body [] pos) (TSv X.K ca W (whileM fc f n)) := by
  refine PS.mono (ps_while hp hc hb) fun D σ H ⟨T0, T, H0, env, S, st, r, w⟩ => ?_
  refine ⟨fun m σ' H' => ∃ T' env' S' st', RE X.K T0 T' H0 H' σ' env' S' st' ∧ WishS X.K ca W T0 H0 (whileM fc f m env' st') (FlQ X.K T0 H0 T' H' D), ⟨n, T, env, S, st, r, w⟩, ?_⟩
  rintro m σ' H' ⟨T', env', S', st', r', w'⟩
  cases m with
  | zero => exact w'.elim
  | succ m =>
    unfold whileM at w'
    refine ⟨T', env', st', r'.env_.eb, r'.so, r'.wish w' fun b st1 h1 w1 H1 e1 s1 => ?_⟩
    have q1 := r'.step e1 s1
    cases b with
    | false =>
      dsimp only
      rw [if_neg Bool.false_ne_true] at w1 ⊢
      exact w1 T' σ' H1 S' e1.imx (TLe.refl _) q1
    | true =>
      dsimp only
      rw [if_pos rfl] at w1 ⊢
      refine ⟨fun σ2 H2 => ∃ T2 env2 S2 st2, RE X.K T0 T2 H0 H2 σ2 env2 S2 st2 ∧ WishS X.K ca W T0 H0 (whileM fc f m env2 st2) (FlQ X.K T0 H0 T2 H2 D), fun σ2 H2 ⟨T2, env2, S2, st2, a1, a2⟩ => ⟨m, Nat.lt_succ_self m, T2, env2, S2, st2, a1, a2⟩, ?_⟩
      refine ⟨T0, T', H0, env', S', st1, q1, WishS.bind (k := fun fl => match fl with
        | .nx e => whileM fc f m e
        | .ct e => whileM fc f m e
        | .bk e => M.pure (.nx e)
        | .rt d => M.pure (.rt d)) w1 fun fl st2 h2 w2 => ?_⟩
      cases fl with
      | nx e => exact fun T3 σ3 H3 S3 im3 tl3 r3 => ⟨T3, e, S3, st2, r3, w2.imp fun fl st' _ q => q.weak (e1.imx.trans im3) tl3⟩
      | ct e => exact fun T3 σ3 H3 S3 im3 tl3 r3 => ⟨T3, e, S3, st2, r3, w2.imp fun fl st' _ q => q.weak (e1.imx.trans im3) tl3⟩
      | bk e => exact fun T3 σ3 H3 S3 im3 tl3 r3 => w2 T3 σ3 H3 S3 (e1.imx.trans im3) tl3 r3
      | rt d => exact w2
/-- return x: what x holds leaves with it -/
theorem ss_retV {e : Expr} {i : Nat} (he : PE X e (tVar i)) : PS X (.Return (some e) pos) (TSv X.K ca W (retVF i)) := by
  refine PS.mono (ps_ret he) fun D σ H ⟨T0, T, H0, env, S, st, r, w⟩ => ?_
  obtain ⟨d, hx⟩ : ∃ d, env[i]? = some (some d) := by
    cases hx : env[i]? with
    | none => simp only [retVF, hx] at w; exact w.elim
    | some o => cases o with
      | none => simp only [retVF, hx] at w; exact w.elim
      | some dx => exact ⟨dx, rfl⟩
  simp only [retVF, hx] at w
  obtain ⟨v, A, S1, B, h1, h2, h3, h4⟩ := r.env_.get hx
  have nd := r.nd
  rw [h4] at nd
  obtain ⟨_, n2, _⟩ := nodup_split nd
  obtain ⟨n3, _, _⟩ := nodup_split n2
  exact ⟨v, h1, w T v H S1 r.ext ⟨r.grow, r.hid⟩ r.so h2 h3 n3 fun a m => r.fresh a (by rw [h4]; exact List.mem_append_right _ (List.mem_append_left _ m))⟩
end
end PL
namespace PL
open PySem PySem.Spec PyProof.Rows L2

/-! ### list(range(..)), tuple(range(..)) -/
theorem rgV_rep {K : PySem.W.Frag} {T : Ts} {H : Hp} (a b : Int) : RepL K T H (rgV a b) (rgD a b) [] := by
  unfold rgV rgD
  have : ∀ l : List Nat, RepL K T H (l.map fun (i : Nat) => V.int (a + (i : Nat))) (l.map fun (i : Nat) => D.int (a + (i : Nat))) [] := by
    intro l
    induction l with
    | nil => exact .nil
    | cons x l ih => exact RepL.cons (S := []) (S' := []) (.int _) ih
  exact this _
theorem rgOk_ok {a b : Int} (h : rgOk a b = true) : RgOk a b := by
  simp only [rgOk, Bool.and_eq_true, decide_eq_true_eq] at h
  refine ⟨by omega, by omega, by omega, by omega, by omega⟩
section
variable {X : Cx} {ca : Cls_} {W : WX} {pos p : Pos} {a b e : Expr}
/-- what range(..) reads -/
def TRv (K : PySem.W.Frag) (ca : Cls_) (W : WX) (f : Env → M (List D)) : L2.St → Hp → (Int → Int → Hp → Prop) → Prop := fun σ H Q => ∃ T env st, EB K T H σ env ∧ SOk K T H st ∧
  Wish K ca W T H σ (f env st) fun ds st' => ∀ a b H', ds = rgD a b → rgOk a b = true → Ext T H H' → SOk K T H' st' → Q a b H'
theorem PRg.mono {e : Expr} {t t' : L2.St → Hp → (Int → Int → Hp → Prop) → Prop} (h : PRg X e t) (hm : ∀ σ H Q, t' σ H Q → t σ H Q) : PRg X e t' := fun pins s σ H Q I w => h pins s σ H Q I (hm σ H Q w)
theorem sr_1 {f : Env → M D} (hg : Gl X "range") (hm : X.mg "range" = none) (h : PE X a (TEv X.K ca W f)) (hs : starEach [a] X.env = (false, eval a X.env) :: starEach [] X.env) :
    PRg X (.Call (.Name "range" p) [a] [] pos) (TRv X.K ca W fun env => M.bind (f env) fun d => match d with | .int n => if rgOk 0 n then M.pure (rgD 0 n) else M.fail | _ => M.fail) := by
  refine PRg.mono (prg_1 hg hm h hs) fun σ H Q ⟨T, env, st, eb, so, w⟩ => ⟨T, env, st, eb, so, w.bind fun d1 st1 h1 w1 v1 H1 S1 e1 s1 r1 f1 => ?_⟩
  cases d1 with
  | int n =>
    obtain ⟨rfl, _⟩ := r1.intI
    dsimp only at w1
    split at w1
    · rename_i hc
      exact ⟨n, rfl, w1 0 n H1 rfl hc e1 s1⟩
    · exact w1.elim
  | _ => exact w1.elim
theorem sr_2 {f g : Env → M D} (hg : Gl X "range") (hm : X.mg "range" = none) (h : PE X a (TEv X.K ca W f)) (h2 : PE X b (TEv X.K ca W g)) (hs : starEach [a, b] X.env = (false, eval a X.env) :: starEach [b] X.env) (hs2 : starEach [b] X.env = (false, eval b X.env) :: starEach [] X.env) :
    PRg X (.Call (.Name "range" p) [a, b] [] pos) (TRv X.K ca W fun env => M.bind (f env) fun d => M.bind (g env) fun d' => match d, d' with | .int i, .int n => if rgOk i n then M.pure (rgD i n) else M.fail | _, _ => M.fail) := by
  refine PRg.mono (prg_2 hg hm h h2 hs hs2 (by rw [hs2]; rfl)) fun σ H Q ⟨T, env, st, eb, so, w⟩ => ⟨T, env, st, eb, so, w.bind fun d1 st1 h1 w1 v1 H1 S1 e1 s1 r1 f1 => ?_⟩
  refine ⟨T, env, st1, eb.ext e1, s1, (w1.ext e1 s1).bind fun d2 st2 h2 w2 v2 H2 S2 e2 s2 r2 f2 => ?_⟩
  cases d1 with
  | int i =>
    cases d2 with
    | int n =>
      obtain ⟨rfl, _⟩ := r1.intI
      obtain ⟨rfl, _⟩ := r2.intI
      dsimp only at w2
      split at w2
      · rename_i hc
        exact ⟨i, n, rfl, rfl, w2 i n H2 rfl hc (e1.trans e2) s2⟩
      · exact w2.elim
    | _ => exact w2.elim
  | _ => exact w2.elim
/-- what ds must be -/
theorem sv_listR {f : Env → M (List D)} (hf : ∀ env st ds st', f env st = .ok ds st' → ∃ a b, ds = rgD a b ∧ rgOk a b = true) (hc : X.calm = true) (hg : Gl X "list") (hm : X.mg "list" = none) (he : PRg X e (TRv X.K ca W f)) (na : starEach [e] X.env = (false, eval e X.env) :: starEach [] X.env) :
    PE X (.Call (.Name "list" p) [e] [] pos) (TEv X.K ca W fun env => M.bind (f env) fun ds => M.pure (.lst .own ds)) := by
  refine PE.mono (pe_listRg hc hg hm he na) fun σ H Q ⟨T, env, st, eb, so, w⟩ => ⟨T, env, st, eb, so, w.bind fun ds st1 h1 w1 a b H1 hd hr e1 s1 => ⟨rgOk_ok hr, fun q hq => ?_⟩⟩
  subst hd
  exact w1 _ _ [q] (e1.trans (Ext.of_same (same_upd hq))) (s1.same (same_upd hq)) (.own upd_same (s1.fresh hq) (rgV_rep a b)) (fr_one e1 s1 hq)
theorem sv_tupR {f : Env → M (List D)} (hc : X.calm = true) (hg : Gl X "tuple") (hm : X.mg "tuple" = none) (he : PRg X e (TRv X.K ca W f)) (na : starEach [e] X.env = (false, eval e X.env) :: starEach [] X.env) :
    PE X (.Call (.Name "tuple" p) [e] [] pos) (TEv X.K ca W fun env => M.bind (f env) fun ds => M.pure (.tup ds)) := by
  refine PE.mono (pe_tupRgN hc hg hm he na) fun σ H Q ⟨T, env, st, eb, so, w⟩ => ⟨T, env, st, eb, so, w.bind fun ds st1 h1 w1 a b H1 hd hr e1 s1 => ⟨rgOk_ok hr, fun q o hq to => ?_⟩⟩
  subst hd
  exact w1 _ _ [] (e1.trans (Ext.of_same (same_upd hq))) (s1.same (same_upd hq)) (.tup (tupR_upd to) (rgV_rep a b)) (Fr.nil _)
/-! ### comparisons as tests -/
theorem rd_test {K : PySem.W.Frag} {f : Env → M D} (hf : ∀ env st d st', f env st = .ok d st' → ∃ b, d = .bl b) {σ : L2.St} {H : Hp} {Q : Bool → Hp → Prop} (w : TTv K ca W (tstD f) σ H Q) : TEv K ca W f σ H fun x H' => ∃ k, x = .bl k ∧ Q k H' := by
  obtain ⟨T, env, st, eb, so, w⟩ := w
  refine ⟨T, env, st, eb, so, w.bind fun d st1 h1 w1 v H1 S e s r f => ?_⟩
  obtain ⟨b, rfl⟩ := hf _ _ _ _ h1
  cases rep_bl r
  exact ⟨b, rfl, w1 H1 e s⟩
theorem bind_bl {α : Type} {m : M α} {k : α → M D} {st : Store} {d : D} {st' : Store} (h : M.bind m k st = .ok d st') (hk : ∀ a st1, k a st1 = .ok d st' → ∃ b, d = .bl b) : ∃ b, d = .bl b := by
  obtain ⟨a, st1, _, h2⟩ := bind_ok h
  exact hk a st1 h2
theorem ofOpt_bl {o : Option Bool} {st : Store} {d : D} {st' : Store} (h : M.ofOpt (o.map D.bl) st = .ok d st') : ∃ b, d = .bl b := by
  cases o with
  | none => cases h
  | some b => cases h; exact ⟨b, rfl⟩
theorem st_cmp {op : Cop} {fa fb : Env → M D} (hu : X.A.units + 65 < cLine) (ha : PE X a (TEv X.K ca W fa)) (hb : PE X b (TEv X.K ca W fb)) (hm : behindInMarks (cpOf op) b = false) :
    PT X (.Compare a [cpOf op] [b] pos) (TTv X.K ca W (tstD fun env => M.bind (fa env) fun x => M.bind (fb env) fun y => M.ofOpt ((cmpD op x y).map D.bl))) := by
  refine PT.mono (pt_cmpR (op_cop hu op) ha hb hm) fun σ H Q w => ?_
  exact rd_op2 (ops_cop X.K op) (rd_test (fun env st d st' h => bind_bl h fun a st1 h => bind_bl h fun b st2 h => ofOpt_bl h) w)
theorem sv_cmp {op : Cop} {fa fb : Env → M D} (hu : X.A.units + 65 < cLine) (ha : PE X a (TEv X.K ca W fa)) (hb : PE X b (TEv X.K ca W fb)) (hm : behindInMarks (cpOf op) b = false) :
    PE X (.Compare a [cpOf op] [b] pos) (TEv X.K ca W fun env => M.bind (fa env) fun x => M.bind (fb env) fun y => M.ofOpt ((cmpD op x y).map D.bl)) :=
  sv_op2 (ops_cop X.K op) (pe_cmpR (op_cop hu op) ha hb hm)
theorem chain_bl {op op' : Cop} {fa fb fc : Env → M D} (env : Env) (st : Store) (d : D) (st' : Store) (h : (M.bind (fa env) fun x => M.bind (fb env) fun y => M.bind (M.ofOpt (cmpD op x y)) fun k => if k then M.bind (fc env) fun z => M.ofOpt ((cmpD op' y z).map D.bl) else M.pure (.bl false)) st = .ok d st') : ∃ b, d = .bl b := by
  refine bind_bl h fun a st1 h => bind_bl h fun b st2 h => bind_bl h fun k st3 h => ?_
  cases k with
  | true => exact bind_bl (show M.bind (fc env) _ st3 = .ok d st' from h) fun z st4 h => ofOpt_bl h
  | false => cases h; exact ⟨_, rfl⟩
theorem st_chain {op op' : Cop} {c : Expr} {fa fb fc : Env → M D} (hu : X.A.units + 65 < cLine) (ha : PE X a (TEv X.K ca W fa)) (hb : PE X b (TEv X.K ca W fb)) (hc : PE X c (TEv X.K ca W fc)) (hm : lastMarks [cpOf op, cpOf op'] [b, c] = false) :
    PT X (.Compare a [cpOf op, cpOf op'] [b, c] pos) (TTv X.K ca W (tstD fun env => M.bind (fa env) fun x => M.bind (fb env) fun y => M.bind (M.ofOpt (cmpD op x y)) fun k => if k then M.bind (fc env) fun z => M.ofOpt ((cmpD op' y z).map D.bl) else M.pure (.bl false))) := by
  refine PT.mono (pt_chain (op_cop hu op) (op_cop hu op') ha hb hc hm) fun σ H Q w => ?_
  exact rd_chain (rd_test chain_bl w)
/-! ### x = [.. for ..] -/
theorem ss_setLc {i : Nat} {y : Str} {py : Pos} {elt tge iter : Expr} {ifs : List Expr} {scope : Scope} {own : List (Str × Nat)} {tg : List Nat} {tup : Bool} {fit : Env → M (List D)} {fi : Env → M Bool} {fe : Env → M D} {spos : Pos} (hc : X.calm = true) (hN : X.N.Nodup) (hy : X.N[i]? = some y) (hyl : X.env.scope.names.lookup y = some .local)
    (hsw : swapsWith (.ListComp elt [⟨tge, iter, ifs, 0⟩] scope pos) (some (.Name y py)) spos.line X.env = Pure.pure true) (hi : PI X tge iter (TIv X.K ca W fit)) (ok : BlkOk X.N X.env.scope scope own) (htg : ∀ i ∈ tg, i ∈ own.map (·.2))
    (hg : ∀ (s : Shared) (H : Hp) (C : Addr) (cl : List (Str × Addr)) (fp : List Addr), PG (X.blk s H scope (compEnvC scope cl C X.env) fp) tge (TGv X.K tg tup)) (ht : ∀ (s : Shared) (H : Hp) (C : Addr) (cl : List (Str × Addr)) (fp : List Addr), PTs (X.blk s H scope (compEnvC scope cl C X.env) fp) ifs (TTv X.K ca W0 fi))
    (he : ∀ (s : Shared) (H : Hp) (C : Addr) (cl : List (Str × Addr)) (fp : List Addr), PE (X.blk s H scope (compEnvC scope cl C X.env) fp) elt (TEv X.K ca W0 fe)) (hs : ∀ x, foldedSetIterable iter X.env x = Pure.pure x) :
    PS X (.Assign [.Name y py] (.ListComp elt [⟨tge, iter, ifs, 0⟩] scope pos) spos) (TSv X.K ca W (setF i fun env => M.bind (fit env) fun xs => M.bind (M.quiet (compM (turnF tg tup (own.map (·.2)) fi fe env) xs)) fun ys => if ys.length ≤ LIM then M.pure (.lst .own ys) else M.fail)) :=
  ss_set (ps_setLc hc hN hy hyl hsw hi ok hg ht he hs) fun _ _ _ w => rd_comp htg w
end
/-! ### calls -/
/-- all but the shared lists and what is at S stays -/
def ExtS (S : List Addr) (T : Ts) (H H' : Hp) : Prop := ∀ a o, H a = some o → ¬ a ∈ S → (¬ a ∈ T.sh ∨ ∀ xs, o ≠ .lst xs) → H' a = some o
def spOf (K : PySem.W.Frag) (ca : Cls_) (n : Nat) (g : List D → M D) : Sp := fun vs H Q E => vs.length = n ∧ ∃ T st ds S, RepL K T H vs ds S ∧ S.Nodup ∧ SOk K T H st ∧ match g ds st with
  | .ok d st' => ∀ v H' S', ExtS S T H H' → SOk K T H' st' → Rep K T H' v d S' → S'.Nodup → (∀ a ∈ S', H a = none) → Q v H'
  | .exn c p st' => ∀ H' dx, ExtS S T H H' → SOk K T H' st' → H dx = none → XnOk K T H' dx (ca c).2 p → E (.ref (ca c).1) (some dx) H'
  | .err => False
section
variable {X : Cx} {ca : Cls_} {W : WX} {pos p : Pos} {e : Expr} {es : List Expr} {x : Str} {n k : Nat} {f : Addr} {fd : FuncData} {ps : List Str}
theorem sv_call {g : Env → M (List D)} {c : List D → M D} (F : FnOk X.prog X.w X.K X.mg X.base (L2.CX X.prog X.w) k f fd ps (spOf X.K ca n c)) (hl : ∀ ds st, ds.length ≠ n → c ds st = .err) (hr : Room k X.A) (hg : Gl X x) (hm : X.mg x = some (.ref f)) (hk : PySem.W.keepIn X.K (.ref f) = true) (hb : Binds X.K fd ps [])
    (tk : Takes X W) (ha : PA X (e :: es) (TAv X.K ca W g)) (hdb : (x == ("__debug__" : Str)) = false) (he : starEach (e :: es) X.env = (false, eval e X.env) :: starEach es X.env) (hpl : (backTo pos (starEach es X.env)).any (·.1) = false) :
    PE X (.Call (.Name x p) (e :: es) [] pos) (TEv X.K ca W fun env => M.bind (g env) fun ds => c ds) := by
  refine PE.mono (pe_callS F hr hg hm hk hb (passAt tk) ha hdb he hpl) fun σ H Q ⟨T, env, st, eb, so, w⟩ => ⟨T, env, st, eb, so, w.bind fun ds st1 h1 w1 vs H1 S1 e1 s1 r1 f1 => ⟨?_, T, st1, ds, S1, r1, f1.1, s1, ?_⟩⟩
  · rw [r1.length]
    by_cases z : ds.length = n
    · exact z
    · rw [hl ds st1 z] at w1
      exact w1.elim
  · have ext : ∀ {H'}, ExtS S1 T H1 H' → Ext T H H' := fun {H'} e2 a o h nn => by
      have h1 := e1 a o h nn
      exact e2 a o h1 (fun m => by rw [f1.2 a m] at h; cases h) nn
    cases hc : c ds st1 with
    | ok d st2 =>
      rw [hc] at w1
      exact fun v H' S' e2 s2 rv nd fr => w1 v H' S' (ext e2) s2 rv ⟨nd, fun a m => free_back e1 s1 (fr a m)⟩
    | exn cc p st2 =>
      rw [hc] at w1
      exact fun H' dx e2 s2 hd x => w1 H' dx (ext e2) s2 (free_back e1 s1 hd) x
    | err => rw [hc] at w1; exact w1.elim
end
end PL
namespace PL
open PySem PySem.Spec PyProof.Rows L2

/-! ### reversed -/
section
variable {K : PySem.W.Frag} {T : Ts} {H1 : Hp} {a : Addr} {xs : List V} {ds : List D}
theorem RepL.rev {T : Ts} {H : Hp} : ∀ {vs : List V} {ds : List D}, RepL K T H vs ds [] → RepL K T H vs.reverse ds.reverse []
  | [], [], _ => by simpa using RepL.nil
  | [], _ :: _, h => nomatch h
  | _ :: _, [], h => nomatch h
  | v :: vs, d :: ds, h => by
    generalize hS : ([] : List Addr) = S0 at h
    cases h with
    | cons r t =>
      obtain ⟨e1, e2⟩ := List.append_eq_nil_iff.mp hS.symm
      subst e1; subst e2
      rw [List.reverse_cons, List.reverse_cons]
      exact RepL.append (S := []) (S' := []) (RepL.rev t) (.cons (S := []) (S' := []) r .nil)
theorem rev_get {α : Type} {l : List α} {i : Nat} (h : i < l.length) : l.reverse[i]? = l[l.length - 1 - i]? := List.getElem?_reverse h
theorem wk_listR (hs : ∀ T' H', T.le T' H1 → Exw T' H1 H' → SqL K H' a xs) (r : RepL K T H1 xs ds []) : Wk K T (Itv K a xs.length) H1 ds.reverse := by
  intro T' H' l e
  have q := hs T' H' l e
  have r' := RepL.rev (RepL.exw e (r.le l))
  have hl := r.length
  refine ⟨fun i d h => ?_, fun i h => ?_⟩
  · obtain ⟨v, S', h1, h2, h3⟩ := r'.get h
    have eS : S' = [] := List.sublist_nil.mp h3
    subst eS
    have hi : i < xs.length := by have := (List.getElem?_eq_some_iff.mp h1).1; rw [List.length_reverse] at this; exact this
    rw [rev_get hi] at h1
    refine ⟨⟨hi, xs, v, q, h1⟩, fun x H'' y => ⟨y.1, ?_⟩⟩
    have := y.2 xs q
    rw [h1] at this
    cases this
    exact h2
  · have := List.getElem?_eq_none_iff.mp h
    rw [List.length_reverse] at this
    show xs.length ≤ i
    omega
theorem wk_tupR (hs : SqT K H1 a xs) (r : RepL K T H1 xs ds []) : Wk K T (RT.ItvT K a xs.length) H1 ds.reverse := by
  intro T' H' l e
  have q := e.sqT hs
  have r' := RepL.rev (RepL.exw e (r.le l))
  have hl := r.length
  refine ⟨fun i d h => ?_, fun i h => ?_⟩
  · obtain ⟨v, S', h1, h2, h3⟩ := r'.get h
    have eS : S' = [] := List.sublist_nil.mp h3
    subst eS
    have hi : i < xs.length := by have := (List.getElem?_eq_some_iff.mp h1).1; rw [List.length_reverse] at this; exact this
    rw [rev_get hi] at h1
    refine ⟨⟨hi, xs, v, q, h1⟩, fun x H'' y => ⟨y.1, ?_⟩⟩
    have := y.2 xs q
    rw [h1] at this
    cases this
    exact h2
  · have := List.getElem?_eq_none_iff.mp h
    rw [List.length_reverse] at this
    show xs.length ≤ i
    omega
theorem keepL_rev : ∀ {ds : List D}, keepL ds = true → keepL ds.reverse = true
  | [], _ => rfl
  | d :: ds, h => by
    simp only [keepL, Bool.and_eq_true] at h
    rw [List.reverse_cons]
    exact keepL_app (keepL_rev h.2) (by simp [keepL, h.1])
theorem wki_listR (hs : ∀ H', Imx H1 H' → SqL K H' a xs) (r : RepL K T H1 xs ds []) (k : keepL ds = true) : Wki K T (Itv K a xs.length) H1 ds.reverse := by
  refine ⟨keepL_rev k, fun T' H' e l => ?_⟩
  have q := hs H' e
  have r' := RepL.rev (RepL.imm e l r rfl k)
  have hl := r.length
  refine ⟨fun i d h => ?_, fun i h => ?_⟩
  · obtain ⟨v, S', h1, h2, h3⟩ := r'.get h
    have eS : S' = [] := List.sublist_nil.mp h3
    subst eS
    have hi : i < xs.length := by have := (List.getElem?_eq_some_iff.mp h1).1; rw [List.length_reverse] at this; exact this
    rw [rev_get hi] at h1
    refine ⟨⟨hi, xs, v, q, h1⟩, fun x H'' y => ⟨y.1, ?_⟩⟩
    have := y.2 xs q
    rw [h1] at this
    cases this
    exact h2
  · have := List.getElem?_eq_none_iff.mp h
    rw [List.length_reverse] at this
    show xs.length ≤ i
    omega
theorem imx_sqT {H' : Hp} (e : Imx H1 H') (hs : SqT K H1 a xs) : SqT K H' a xs := by
  rcases hs with (h | ⟨o, h⟩) | h
  · exact .inl (.inl (e _ _ h fun _ z => nomatch z))
  · exact .inl (.inr ⟨o, e _ _ h fun _ z => nomatch z⟩)
  · exact .inr h
theorem wki_tupR (hs : SqT K H1 a xs) (r : RepL K T H1 xs ds []) (k : keepL ds = true) : Wki K T (RT.ItvT K a xs.length) H1 ds.reverse := by
  refine ⟨keepL_rev k, fun T' H' e l => ?_⟩
  have q := imx_sqT e hs
  have r' := RepL.rev (RepL.imm e l r rfl k)
  have hl := r.length
  refine ⟨fun i d h => ?_, fun i h => ?_⟩
  · obtain ⟨v, S', h1, h2, h3⟩ := r'.get h
    have eS : S' = [] := List.sublist_nil.mp h3
    subst eS
    have hi : i < xs.length := by have := (List.getElem?_eq_some_iff.mp h1).1; rw [List.length_reverse] at this; exact this
    rw [rev_get hi] at h1
    refine ⟨⟨hi, xs, v, q, h1⟩, fun x H'' y => ⟨y.1, ?_⟩⟩
    have := y.2 xs q
    rw [h1] at this
    cases this
    exact h2
  · have := List.getElem?_eq_none_iff.mp h
    rw [List.length_reverse] at this
    show xs.length ≤ i
    omega
end
section
variable {X : Cx} {ca : Cls_} {W : WX} {pos p p2 pos2 : Pos} {tg a : Expr} {f : Env → M D}
theorem sv_tupRev (hc : X.calm = true) (hg : Gl X "tuple") (hm : X.mg "tuple" = none) (hg2 : Gl X "reversed") (hm2 : X.mg "reversed" = none) (h : PE X a (TEv X.K ca W f)) (hs : starEach [a] X.env = (false, eval a X.env) :: starEach [] X.env) :
    PE X (.Call (.Name "tuple" p) [.Call (.Name "reversed" p2) [a] [] pos2] [] pos) (TEv X.K ca W fun env => M.bind (f env) fun d => M.ofOpt (revD d)) := by
  refine PE.mono (pe_tupRevN hc hg hm hg2 hm2 h hs rfl) fun σ H Q ⟨T, env, st, eb, so, w⟩ => ⟨T, env, st, eb, so, w.bind fun d1 st1 h1 w1 v1 H1 S1 e1 s1 r1 f1 => ?_⟩
  obtain ⟨z, hz, q⟩ := w1.opt
  cases d1 <;> simp only [revD] at hz <;> first | (cases hz; done) | skip
  cases hz
  obtain ⟨a, xs, S', rfl, q1, p1⟩ := r1.sqS
  refine ⟨a, xs, rfl, p1 T H1 Ts.le_refl (Exw.refl _ _), fun q2 o hq to => ?_⟩
  exact q _ _ [] (e1.trans (Ext.of_same (same_upd hq))) (s1.same (same_upd hq)) (.tup (tupR_upd to) (RepL.rev ((RepL.bw q1).ext (Ext.of_same (same_upd hq))))) (Fr.nil _)
theorem si_rev (hg : Gl X "reversed") (hm : X.mg "reversed" = none) (h : PE X a (TEv X.K ca W f)) (hs : starEach [a] X.env = (false, eval a X.env) :: starEach [] X.env) :
    PI X tg (.Call (.Name "reversed" p) [a] [] pos) (TIv X.K ca W fun env => M.bind (f env) fun d => M.ofOpt ((itemsD d).map List.reverse)) := by
  refine PI.mono (RT.pi_revA hg hm h hs) fun σ H Q ⟨T, env, st, eb, so, w⟩ => ⟨T, env, st, eb, so, w.bind fun d1 st1 h1 w1 v1 H1 S1 e1 s1 r1 f1 => ?_⟩
  obtain ⟨ds, hds, q⟩ := w1.opt
  obtain ⟨es, hes, rfl⟩ := Option.map_eq_some_iff.mp hds
  cases d1 <;> simp only [itemsD] at hes <;> first | (cases hes; done) | skip
  · cases hes
    cases r1 with
    | tup p1 q1 => exact ⟨_, _, rfl, .inr ⟨p1.sqT, q _ H1 e1 s1 (wk_tupR p1.sqT q1.bw)⟩⟩
  · cases hes
    obtain ⟨p, xs, S', rfl, q1, p1⟩ := r1.sqS
    exact ⟨p, xs, rfl, .inl ⟨p1 T H1 Ts.le_refl (Exw.refl _ _), q _ H1 e1 s1 (wk_listR p1 q1.bw)⟩⟩
theorem sz_rev (hg : Gl X "reversed") (hm : X.mg "reversed" = none) (h : PE X a (TEv X.K ca W f)) (hs : starEach [a] X.env = (false, eval a X.env) :: starEach [] X.env) :
    PI X tg (.Call (.Name "reversed" p) [a] [] pos) (TIz X.K ca W (itRF f)) := by
  refine PI.ghost (RT.pi_revA hg hm h hs) fun σ H R ⟨T0, T, H0, env, S, st, r, w⟩ => ⟨T, env, st, r.env_.eb, r.so, r.wish w fun d st1 h1 w1 v H1 S1 e1 s1 r1 f1 => ?_⟩
  split at w1
  case isFalse => exact w1.elim
  rename_i hk
  obtain ⟨ds, hds, q⟩ := w1.opt
  obtain ⟨es, hes, rfl⟩ := Option.map_eq_some_iff.mp hds
  have q1 := r.step e1 s1
  -- what is behind
  have beh : ∀ H2, Fz S1 H1 H2 → RE X.K T0 T H0 H2 σ env S st1 := fun H2 fz => by
    have c := fz.chg
    have out : ∀ a ∈ S, ¬ a ∈ S1 := fun a m z => r.out f1.2 a z m
    exact ⟨q1.env_.chg c out, q1.nd, q1.fresh, q1.extc c fun a m => r.free (f1.2 a m), q1.so.chg c r1.noT (q1.hidOk c r1.noT), q1.so0, q1.grow, q1.hid⟩
  cases r1 with
  | @tup a xs es _ ht rl =>
    cases hes
    have k' : keepL es = true := by simpa [D.keep] using hk
    refine ⟨a, xs, rfl, .inr ⟨ht.sqT, S1, f1.1, rl.dom, fun H2 fz => ?_⟩⟩
    obtain ⟨g1, g2⟩ := rl.frz fz (fun a m => m) k'
    refine q _ H2 (e1.imx.trans fz.imx) (beh H2 fz) (wki_tupR (imx_sqT fz.imx ht.sqT) ?_ ?_)
    · rw [bwL_id (frzL_noOwn es) g2]; exact g1
    · rw [bwL_id (frzL_noOwn es) g2]; exact g2
  | @own a xs es S2 hp np rl =>
    cases hes
    have k' : keepL es = true := by simpa [D.keep] using hk
    refine ⟨a, xs, rfl, .inl ⟨SqL.of hp, a :: S2, f1.1, (Rep.own hp np rl).dom, fun H2 fz => ?_⟩⟩
    obtain ⟨g1, g2⟩ := rl.frz fz (fun a m => List.mem_cons_of_mem _ m) k'
    obtain ⟨o, ys, z1, z2⟩ := fz.at_ a List.mem_cons_self
    rw [hp] at z1; cases z1
    refine q _ H2 (e1.imx.trans fz.imx) (beh H2 fz) (wki_listR (fun H' e => .inl (.inr ⟨o, e _ _ z2 fun _ z => nomatch z⟩)) ?_ ?_)
    · rw [bwL_id (frzL_noOwn es) g2]; exact g1
    · rw [bwL_id (frzL_noOwn es) g2]; exact g2
  | @fro a o xs es hp rl k' =>
    cases hes
    refine ⟨a, xs, rfl, .inl ⟨.inl (.inr ⟨o, hp⟩), [], List.nodup_nil, (fun _ m => nomatch m), fun H2 fz => ?_⟩⟩
    have g := rl.imm fz.imx (TLe.refl T) rfl k'
    have n := g.noOwn_of rfl
    refine q _ H2 (e1.imx.trans fz.imx) (beh H2 fz) (wki_listR (fun H' e => .inl (.inr ⟨o, e _ _ (fz.imx _ _ hp fun _ z => nomatch z) fun _ z => nomatch z⟩)) ?_ ?_)
    · rw [bwL_id n k']; exact g
    · rw [bwL_id n k']; exact k'
  | bor _ _ _ => simp [D.keep] at hk
  | @scr a xs es hp rl k' =>
    cases hes
    refine ⟨a, xs, rfl, .inl ⟨hp.sq, [], List.nodup_nil, (fun _ m => nomatch m), fun H2 fz => ?_⟩⟩
    have g := rl.imm fz.imx (TLe.refl T) rfl k'
    have n := g.noOwn_of rfl
    refine q _ H2 (e1.imx.trans fz.imx) (beh H2 fz) (wki_listR (xs := xs) (fun H' e => ?_) ?_ ?_)
    · rcases hp with ⟨o, hp⟩ | hp
      · exact .inl (.inr ⟨o, e _ _ (fz.imx _ _ hp fun _ z => nomatch z) fun _ z => nomatch z⟩)
      · exact .inr hp
    · rw [bwL_id n k']; exact g
    · rw [bwL_id n k']; exact k'
  | _ => cases hes
end
/-! ### range with a step -/
theorem rsD_get {a b c : Int} {i : Nat} {d : D} (h : (rsD a b c)[i]? = some d) : i < (Builtin.Range.rangeSize a b c).toNat ∧ d = .int (a + (i : Nat) * c) := by
  unfold rsD at h
  rw [List.getElem?_map] at h
  obtain ⟨j, hj, rfl⟩ := Option.map_eq_some_iff.mp h
  rw [List.getElem?_eq_some_iff] at hj
  obtain ⟨h1, h2⟩ := hj
  rw [List.length_range] at h1
  rw [List.getElem_range] at h2
  subst h2
  exact ⟨h1, rfl⟩
theorem rsD_none {a b c : Int} {i : Nat} (h : (rsD a b c)[i]? = none) : (Builtin.Range.rangeSize a b c).toNat ≤ i := by
  have := List.getElem?_eq_none_iff.mp h
  unfold rsD at this
  rw [List.length_map, List.length_range] at this
  exact this
theorem keepL_rs : ∀ (l : List Nat) (a c : Int), keepL (l.map fun (i : Nat) => D.int (a + (i : Nat) * c)) = true
  | [], _, _ => rfl
  | x :: l, a, c => by
    show (true && keepL _) = true
    rw [keepL_rs l a c]; rfl
theorem wk_rs {K : PySem.W.Frag} {T : Ts} {H1 : Hp} (a b c : Int) : Wk K T (Itc a c (Builtin.Range.rangeSize a b c).toNat) H1 (rsD a b c) := by
  intro T' H' l e
  refine ⟨fun i d h => ?_, fun i h => rsD_none h⟩
  obtain ⟨h1, rfl⟩ := rsD_get h
  refine ⟨h1, fun x H'' y => ⟨y.1, ?_⟩⟩
  rw [y.2]
  exact .int _
theorem wki_rs {K : PySem.W.Frag} {T : Ts} {H1 : Hp} (a b c : Int) : Wki K T (Itc a c (Builtin.Range.rangeSize a b c).toNat) H1 (rsD a b c) := by
  refine ⟨keepL_rs _ a c, fun T' H' l e => ⟨fun i d h => ?_, fun i h => rsD_none h⟩⟩
  obtain ⟨h1, rfl⟩ := rsD_get h
  refine ⟨h1, fun x H'' y => ⟨y.1, ?_⟩⟩
  rw [y.2]
  exact .int _
theorem rs_ok {a b c : Int} (h : rsOk a b c = true) : RgC a b c (Builtin.Range.rangeSize a b c).toNat := by
  simp only [rsOk, Bool.and_eq_true, decide_eq_true_eq] at h
  obtain ⟨⟨⟨⟨h1, h2⟩, h3⟩, h4⟩, h5⟩ := h
  exact ⟨h1, h2, h3, by omega⟩
section
variable {X : Cx} {ca : Cls_} {W : WX} {pos p : Pos} {tg a b c : Expr} {f g k : Env → M D}
theorem si_r3 (hg : Gl X "range") (hm : X.mg "range" = none) (h : PE X a (TEv X.K ca W f)) (h2 : PE X b (TEv X.K ca W g)) (h3 : PE X c (TEv X.K ca W k)) (hs : starEach [a, b, c] X.env = (false, eval a X.env) :: starEach [b, c] X.env) (hs2 : starEach [b, c] X.env = (false, eval b X.env) :: starEach [c] X.env) (hs3 : starEach [c] X.env = (false, eval c X.env) :: starEach [] X.env) :
    PI X tg (.Call (.Name "range" p) [a, b, c] [] pos) (TIv X.K ca W fun env => M.bind (f env) fun d => M.bind (g env) fun d' => M.bind (k env) fun d2 => match d, d', d2 with | .int i, .int j, .int k => if rsOk i j k then M.pure (rsD i j k) else M.fail | _, _, _ => M.fail) := by
  refine PI.mono (pi_range3 hg hm (pa_cons h (pa_cons h2 (pa_cons h3 pa_nil hs3) hs2) hs) hs (by rw [hs2, hs3]; rfl)) fun σ H Q ⟨T, env, st, eb, so, w⟩ => ⟨T, env, st, eb, so, w.bind fun d1 st1 h1 w1 v1 H1 S1 e1 s1 r1 f1 => ?_⟩
  refine ⟨T, env, st1, eb.ext e1, s1, (w1.ext e1 s1).bind fun d2 st2 h2 w2 v2 H2 S2 e2 s2 r2 f2 => ?_⟩
  refine ⟨T, env, st2, (eb.ext e1).ext e2, s2, (w2.ext e2 s2).bind fun d3 st3 h3 w3 v3 H3 S3 e3 s3 r3 f3 => ?_⟩
  cases d1 with
  | int i =>
    cases d2 with
    | int j =>
      cases d3 with
      | int k =>
        obtain ⟨rfl, _⟩ := r1.intI
        obtain ⟨rfl, _⟩ := r2.intI
        obtain ⟨rfl, _⟩ := r3.intI
        dsimp only at w3
        split at w3
        · rename_i hc
          exact ⟨i, j, k, _, rfl, rs_ok hc, w3 _ H3 ((e1.trans e2).trans e3) s3 (wk_rs i j k)⟩
        · exact w3.elim
      | _ => exact w3.elim
    | _ => exact w3.elim
  | _ => exact w3.elim
theorem sz_r3 (hg : Gl X "range") (hm : X.mg "range" = none) (h : PE X a (TEv X.K ca W f)) (h2 : PE X b (TEv X.K ca W g)) (h3 : PE X c (TEv X.K ca W k)) (hs : starEach [a, b, c] X.env = (false, eval a X.env) :: starEach [b, c] X.env) (hs2 : starEach [b, c] X.env = (false, eval b X.env) :: starEach [c] X.env) (hs3 : starEach [c] X.env = (false, eval c X.env) :: starEach [] X.env) :
    PI X tg (.Call (.Name "range" p) [a, b, c] [] pos) (TIz X.K ca W fun env => M.bind (f env) fun d => M.bind (g env) fun d' => M.bind (k env) fun d2 => match d, d', d2 with | .int i, .int j, .int k => if rsOk i j k then M.pure (rsD i j k) else M.fail | _, _, _ => M.fail) := by
  refine PI.mono (pi_range3 hg hm (pa_cons h (pa_cons h2 (pa_cons h3 pa_nil hs3) hs2) hs) hs (by rw [hs2, hs3]; rfl)) fun σ H Q ⟨T0, T, H0, env, S, st, r, w⟩ => ⟨T, env, st, r.env_.eb, r.so, r.wish w fun d1 st1 h1 w1 v1 H1 S1 e1 s1 r1 f1 => ?_⟩
  have q1 := r.step e1 s1
  refine ⟨T, env, st1, q1.env_.eb, s1, q1.wish w1 fun d2 st2 h2 w2 v2 H2 S2 e2 s2 r2 f2 => ?_⟩
  have q2 := q1.step e2 s2
  refine ⟨T, env, st2, q2.env_.eb, s2, q2.wish w2 fun d3 st3 h3 w3 v3 H3 S3 e3 s3 r3 f3 => ?_⟩
  cases d1 with
  | int i =>
    cases d2 with
    | int j =>
      cases d3 with
      | int k =>
        obtain ⟨rfl, _⟩ := r1.intI
        obtain ⟨rfl, _⟩ := r2.intI
        obtain ⟨rfl, _⟩ := r3.intI
        dsimp only at w3
        split at w3
        · rename_i hc
          exact ⟨i, j, k, _, rfl, rs_ok hc, w3 _ H3 ((e1.imx.trans e2.imx).trans e3.imx) (q2.step e3 s3) (wki_rs i j k)⟩
        · exact w3.elim
      | _ => exact w3.elim
    | _ => exact w3.elim
  | _ => exact w3.elim
end
/-! ### x[i][j] = e -/
theorem RepL.getS {K : PySem.W.Frag} {T : Ts} {H : Hp} : ∀ {vs : List V} {ds : List D} {S : List Addr} {j : Nat} {d : D}, RepL K T H vs ds S → ds[j]? = some d →
    ∃ v A S0 B, vs[j]? = some v ∧ Rep K T H v d S0 ∧ S = A ++ (S0 ++ B) ∧ ∀ (u : V) (d' : D) (S' : List Addr), Rep K T H u d' S' → RepL K T H (vs.set j u) (ds.set j d') (A ++ (S' ++ B))
  | _, _, _, _, _, .nil, h => by simp at h
  | _, _, _, 0, d, .cons (S := S) (S' := S2) r t, h => by
    simp at h; subst h
    exact ⟨_, [], S, S2, rfl, r, rfl, fun u d' S' hr => show RepL K T H _ _ (S' ++ S2) from .cons hr t⟩
  | _, _, _, j + 1, d, .cons (S := S) (S' := S2) r t, h => by
    obtain ⟨v, A, S0, B, h1, h2, h3, h4⟩ := RepL.getS (j := j) t (by simpa using h)
    refine ⟨v, S ++ A, S0, B, by simpa using h1, h2, by rw [h3]; simp [List.append_assoc], fun u d' S' hr => ?_⟩
    have := RepL.cons r (h4 u d' S' hr)
    rw [← List.append_assoc] at this
    exact this
theorem keepL_of_get : ∀ {ds : List D} {j : Nat} {d : D}, keepL ds = true → ds[j]? = some d → d.keep = true
  | [], j, d, _, h => by simp at h
  | e :: ds, 0, d, k, h => by
    simp only [keepL, Bool.and_eq_true] at k
    simp at h; subst h; exact k.1
  | e :: ds, j + 1, d, k, h => by
    simp only [keepL, Bool.and_eq_true] at k
    exact keepL_of_get k.2 (by simpa using h)
theorem set_of_get {α : Type} {l : List α} {j : Nat} {x : α} (h : l[j]? = some x) : l.set j x = l := by
  apply List.ext_getElem?
  intro i
  by_cases hi : j = i
  · subst hi
    rw [List.getElem?_set_self (List.getElem?_eq_some_iff.mp h).1, h]
  · rw [List.getElem?_set_ne hi]
theorem RE.write2 {K : PySem.W.Frag} {T0 T : Ts} {H0 H : Hp} {σ : L2.St} {env : Env} {S : List Addr} {st : Store} (r : RE K T0 T H0 H σ env S st) {i j : Nat} {p : Addr} {ds es : List D} (h1 : env[i]? = some (some (.lst .own ds))) (h2 : σ[i]? = some (some (.ref p))) (hj : ds[j]? = some (.lst .own es)) :
    ∃ xs p2 ys S2, H p = some (.lst xs) ∧ xs.length = ds.length ∧ xs[j]? = some (.ref p2) ∧ H p2 = some (.lst ys) ∧ RepL K T H ys es S2 ∧ keepL es = true ∧ (∀ a ∈ S2, a ∈ S) ∧ S2.Nodup ∧ ∀ (zs : List V) (fs : List D) (S' : List Addr), RepL K T H zs fs S' → keepL fs = true → S'.Nodup → (∀ a ∈ S', a ∈ S2 ∨ (¬ a ∈ S ∧ H0 a = none)) →
      ∃ S3, RE K T0 T H0 (upd H p2 (.lst zs)) σ (env.set i (some (.lst .own (ds.set j (.lst .own fs))))) S3 st := by
  obtain ⟨S0, q, k, nd, inS, re⟩ := r.mut h1 h2
  cases q with
  | @own _ xs _ S1 hp np rl =>
    obtain ⟨n1, n2⟩ := List.nodup_cons.mp nd
    have k' : keepL ds = true := by simpa [D.keep] using k
    obtain ⟨v, A, Sj, B, g1, g2, g3, g4⟩ := rl.getS hj
    have ke : keepL es = true := by simpa [D.keep] using keepL_of_get k' hj
    cases g2 with
    | @own p2 ys _ S2 hp2 np2 rl2 =>
      subst g3
      obtain ⟨m1, m2, m3⟩ := nodup_split n2
      obtain ⟨m4, m5, m6⟩ := nodup_split m2
      obtain ⟨m7, m8⟩ := List.nodup_cons.mp m4
      have i2 : ∀ a ∈ S2, a ∈ S := fun a m => inS a (List.mem_cons_of_mem _ (List.mem_append_right _ (List.mem_append_left _ (List.mem_cons_of_mem _ m))))
      have ip2 : p2 ∈ S := inS p2 (List.mem_cons_of_mem _ (List.mem_append_right _ (List.mem_append_left _ List.mem_cons_self)))
      refine ⟨xs, p2, ys, S2, hp, rl.length, g1, hp2, rl2, ke, i2, m8, fun zs fs S' rl' kf nd' o => ?_⟩
      have c := chg_upd (o := .lst zs) hp2
      have pS : ¬ p2 ∈ S' := fun m => by
        rcases o p2 m with w | ⟨w, _⟩
        · exact m7 w
        · exact w ip2
      have pp : p ≠ p2 := fun z => n1 (by rw [z]; exact List.mem_append_right _ (List.mem_append_left _ List.mem_cons_self))
      have pnS : ¬ p ∈ S' := fun m => by
        rcases o p m with w | ⟨w, _⟩
        · exact n1 (List.mem_append_right _ (List.mem_append_left _ (List.mem_cons_of_mem _ w)))
        · exact w (inS p List.mem_cons_self)
      -- the outer list, its item put away
      have o1 := g4 .non .non [] .non
      have o2 : RepL K T (upd H p2 (.lst zs)) (xs.set j .non) (ds.set j .non) (A ++ ([] ++ B)) := o1.chg c (fun a m z => by
        rw [List.mem_singleton.mp z] at m
        rcases List.mem_append.mp m with m | m
        · exact m3 p2 m (List.mem_append_left _ List.mem_cons_self)
        · exact m6 p2 List.mem_cons_self m) (keepL_set k' rfl)
      have o3 : Rep K T (upd H p2 (.lst zs)) (.ref p2) (.lst .own fs) (p2 :: S') := .own upd_same np2 (rl'.chg c (fun a m z => pS (by rw [← List.mem_singleton.mp z]; exact m)) kf)
      have jl : j < ds.length := (List.getElem?_eq_some_iff.mp hj).1
      obtain ⟨v', A', Sj', B', f1, f2, f3, f4⟩ := o2.getS (j := j) (d := .non) (by rw [List.getElem?_set_self jl])
      cases f2
      have o4 := f4 (.ref p2) (.lst .own fs) (p2 :: S') o3
      rw [List.set_set, List.set_set, set_of_get g1] at o4
      have eAB : A' ++ B' = A ++ B := f3.symm
      have memAB : ∀ a, a ∈ A' ++ ((p2 :: S') ++ B') → a = p2 ∨ a ∈ S' ∨ a ∈ A ∨ a ∈ B := fun a m => by
        rcases List.mem_append.mp m with m | m
        · have : a ∈ A ++ B := by rw [← eAB]; exact List.mem_append_left _ m
          exact .inr (.inr (List.mem_append.mp this))
        · rcases List.mem_append.mp m with m | m
          · exact (List.mem_cons.mp m).imp id .inl
          · have : a ∈ A ++ B := by rw [← eAB]; exact List.mem_append_right _ m
            exact .inr (.inr (List.mem_append.mp this))
      have djS : ∀ a ∈ S', ¬ a ∈ A ∧ ¬ a ∈ B := fun a m => by
        rcases o a m with w | ⟨w, _⟩
        · exact ⟨fun z => m3 a z (List.mem_append_left _ (List.mem_cons_of_mem _ w)), fun z => m6 a (List.mem_cons_of_mem _ w) z⟩
        · exact ⟨fun z => w (inS a (List.mem_cons_of_mem _ (List.mem_append_left _ z))), fun z => w (inS a (List.mem_cons_of_mem _ (List.mem_append_right _ (List.mem_append_right _ z))))⟩
      have ndAB : (A' ++ ([] ++ B')).Nodup := by
        show (A' ++ B').Nodup
        rw [eAB]
        exact nodup_put (S' := []) n2 List.nodup_nil (fun _ m => nomatch m) (fun _ m => nomatch m)
      have inAB : ∀ a, a ∈ A' ∨ a ∈ B' → a ∈ A ∨ a ∈ B := fun a m => List.mem_append.mp (by rw [← eAB]; exact List.mem_append.mpr m)
      have nd2 : (A' ++ ((p2 :: S') ++ B')).Nodup := nodup_put ndAB (List.nodup_cons.mpr ⟨pS, nd'⟩) (fun a m z => by
        have w := inAB a (.inl z)
        rcases List.mem_cons.mp m with e | m
        · subst e
          rcases w with w | w
          · exact m3 a w (List.mem_append_left _ List.mem_cons_self)
          · exact m6 a List.mem_cons_self w
        · exact w.elim (djS a m).1 (djS a m).2) (fun a m z => by
        have w := inAB a (.inr z)
        rcases List.mem_cons.mp m with e | m
        · subst e
          rcases w with w | w
          · exact m3 a w (List.mem_append_left _ List.mem_cons_self)
          · exact m6 a List.mem_cons_self w
        · exact w.elim (djS a m).1 (djS a m).2)
      have hp' : upd H p2 (.lst zs) p = some (.lst xs) := by rw [upd_ne pp]; exact hp
      have kd : keepL (ds.set j (.lst .own fs)) = true := keepL_set k' (by simpa [D.keep] using kf)
      obtain ⟨S3, h⟩ := re [p2] (upd H p2 (.lst zs)) (.ref p) (.lst .own (ds.set j (.lst .own fs))) (p :: (A' ++ ((p2 :: S') ++ B'))) c
        (fun a m => by rw [List.mem_singleton.mp m]; exact List.mem_cons_of_mem _ (List.mem_append_right _ (List.mem_append_left _ List.mem_cons_self)))
        (.own hp' np o4) (by simpa [D.keep] using kd)
        (List.nodup_cons.mpr ⟨fun m => by
          rcases memAB p m with e | m | m | m
          · exact pp e
          · exact pnS m
          · exact n1 (List.mem_append_left _ m)
          · exact n1 (List.mem_append_right _ (List.mem_append_right _ m)), nd2⟩)
        (fun a m => by
          rcases List.mem_cons.mp m with e | m
          · exact .inl (by rw [e]; exact List.mem_cons_self)
          · rcases memAB a m with e | m | m | m
            · exact .inl (by rw [e]; exact List.mem_cons_of_mem _ (List.mem_append_right _ (List.mem_append_left _ List.mem_cons_self)))
            · exact (o a m).imp (fun w => List.mem_cons_of_mem _ (List.mem_append_right _ (List.mem_append_left _ (List.mem_cons_of_mem _ w)))) id
            · exact .inl (List.mem_cons_of_mem _ (List.mem_append_left _ m))
            · exact .inl (List.mem_cons_of_mem _ (List.mem_append_right _ (List.mem_append_right _ m))))
        (r.hidOk c fun a m => by rw [List.mem_singleton.mp m]; exact np2)
      rw [set_self h2] at h
      exact ⟨S3, h⟩
section
variable {X : Cx} {ca : Cls_} {W : WX} {pos p1 p2 p3 : Pos}
theorem ss_setIx2 {x : Str} {i : Nat} {ie je e : Expr} {fx fy f : Env → M D} (hN : X.N[i]? = some x) (hv : Vis X.env.scope x) (hd : (x == ("__debug__" : Str)) = false) (hcd : (x == ("__classdict__" : Str)) = false) (he : PE X e (TEv X.K ca W f)) (hi : PE X ie (TEv X.K ca W fx)) (hj : PE X je (TEv X.K ca W fy)) (hp : PlainIx ie)
    (ha : ∀ v, assign (.Subscript (.Subscript (.Name x p1) ie p2) je p3) X.env v = (do
      let ov ← holding [v] (eval (.Subscript (.Name x p1) ie p2) X.env)
      let iv ← holding [v, ov] (eval je X.env)
      standAt p3
      holding [v, ov, iv] (setItem ov iv v)
      release [v, ov, iv] [])) (hs : swapsWithSole [.Subscript (.Subscript (.Name x p1) ie p2) je p3] e pos.line X.env = Pure.pure false) (hw : swappedStores [.Subscript (.Subscript (.Name x p1) ie p2) je p3] e X.env = Pure.pure none)
    (h1 : (assignEach [.Subscript (.Subscript (.Name x p1) ie p2) je p3] X.env).map (·.2) = [assign (.Subscript (.Subscript (.Name x p1) ie p2) je p3) X.env]) :
    PS X (.Assign [.Subscript (.Subscript (.Name x p1) ie p2) je p3] e pos) (TSv X.K ca W (setIx2F i fx fy f)) := by
  refine PS.mono (ps_asg he (pg_sub (pe_ix ix_seq (pe_var hN hv hd hcd) hi hp) hj set_list ha) hs hw h1) fun D σ H ⟨T0, T, H0, env, S, st, r, w⟩ => ?_
  obtain ⟨ds, hx⟩ : ∃ ds, env[i]? = some (some (.lst .own ds)) := by
    unfold setIx2F at w
    cases hx : env[i]? with
    | none => rw [hx] at w; exact w.elim
    | some o => cases o with
      | none => rw [hx] at w; exact w.elim
      | some dx => cases dx with
        | lst m ds => cases m with
          | own => exact ⟨ds, rfl⟩
          | _ => rw [hx] at w; exact w.elim
        | _ => rw [hx] at w; exact w.elim
  simp only [setIx2F, hx] at w
  obtain ⟨o, ho⟩ := r.at_ hx
  refine ⟨T, env, st, r.env_.eb, r.so, r.wish w fun d st1 hf w1 v H1 S1 e1 s1 r1 f1 => ?_⟩
  have q1 := r.step e1 s1
  refine ⟨o, ho, T, env, st1, q1.env_.eb, s1, q1.wish w1 fun kx st2 hk w2 v2 H2 S2 e2 s2 r2 f2 => ?_⟩
  have q2 := q1.step e2 s2
  cases kx with
  | int k =>
    cases r2
    dsimp only at w2
    cases hj : ixN ds.length k with
    | none => rw [hj] at w2; exact w2.elim
    | some j =>
    rw [hj] at w2
    dsimp only at w2
    cases hjs : ds[j]? with
    | none => rw [hjs] at w2; exact w2.elim
    | some row =>
    rw [hjs] at w2
    cases row with
    | lst m es =>
      cases m with
      | own =>
        dsimp only at w2
        obtain ⟨v0, _, S0, _, g1, g2, _⟩ := q2.env_.get hx
        rw [ho] at g1; cases g1
        obtain ⟨p, rfl⟩ := rep_own g2
        obtain ⟨xs, q, ys, Sr, hp, hl, hxj, hq, rl, ke, inS, nd, wr⟩ := q2.write2 hx ho hjs
        refine .inl ⟨p, xs, k, .ref q, rfl, rfl, SqL.of hp, by unfold atI; rw [hl, hj]; exact hxj, ?_⟩
        refine ⟨T, env, st2, q2.env_.eb, s2, q2.wish w2 fun ky st3 hk3 w3 v3 H3 S3 e3 s3 r3 f3 => ?_⟩
        have q3 := q2.step e3 s3
        cases ky with
        | int l =>
          cases r3
          dsimp only at w3
          cases hm : ixN es.length l with
          | none => rw [hm] at w3; exact w3.elim
          | some m =>
          rw [hm] at w3
          dsimp only at w3
          split at w3
          case isFalse => exact w3.elim
          rename_i kd
          obtain ⟨xs', q', ys', Sr', hp', hl', hxj', hq', rl', ke', inS', nd', wr'⟩ := q3.write2 hx ho hjs
          have ep : H3 p = some (.lst xs) := e3 _ _ hp (.inl (by cases g2 with | own _ n _ => exact n.1))
          rw [hp'] at ep; cases ep
          rw [hxj'] at hxj; cases hxj
          refine ⟨q, ys', l, m, rfl, rfl, hq', by rw [rl'.length]; exact hm, ?_⟩
          have fr1 : ∀ a ∈ S1, ¬ a ∈ S := fun a mm z => by
            obtain ⟨zs, z2⟩ := r.env_.dom a z
            rw [f1.2 a mm] at z2; cases z2
          obtain ⟨A, S4, B, z, w'⟩ := RepL.put (j := m) rl' ((r1.ext e2).ext e3)
          rcases w' with w' | w'
          · have nd2 : (A ++ (S1 ++ B)).Nodup := nodup_put (S1 := S4) (by rw [← z]; exact nd') f1.1 (fun a mm y => fr1 a mm (inS' a (by rw [z]; exact List.mem_append_left _ y))) (fun a mm y => fr1 a mm (inS' a (by rw [z]; exact List.mem_append_right _ (List.mem_append_right _ y))))
            obtain ⟨S5, q5⟩ := wr' _ _ _ w' (keepL_set ke kd) nd2 fun a mm => by
              rcases List.mem_append.mp mm with mm | mm
              · exact .inl (by rw [z]; exact List.mem_append_left _ mm)
              · rcases List.mem_append.mp mm with mm | mm
                · exact .inr ⟨fr1 a mm, r.free (f1.2 a mm)⟩
                · exact .inl (by rw [z]; exact List.mem_append_right _ (List.mem_append_right _ mm))
            exact w3 T σ _ S5 (e1.imx.trans (e2.imx.trans (e3.imx.trans (chg_upd hq').imx))) (TLe.refl _) q5
          · obtain ⟨S5, q5⟩ := wr' _ _ _ w' (keepL_set ke kd) nd' fun a mm => .inl mm
            exact w3 T σ _ S5 (e1.imx.trans (e2.imx.trans (e3.imx.trans (chg_upd hq').imx))) (TLe.refl _) q5
        | _ => exact w3.elim
      | _ => exact w2.elim
    | _ => exact w2.elim
  | _ => exact w2.elim
end
/-! ### x[a], x[b] = x[b], x[a] -/
theorem RepL.swp {K : PySem.W.Frag} {T : Ts} {H : Hp} {vs : List V} {ds : List D} {S : List Addr} {i j : Nat} {v w : V} {d e : D} (r : RepL K T H vs ds S) (nd : S.Nodup) (hi : vs[i]? = some v) (hj : vs[j]? = some w) (di : ds[i]? = some d) (dj : ds[j]? = some e) :
    ∃ S', RepL K T H ((vs.set j v).set i w) ((ds.set j d).set i e) S' ∧ S'.Nodup ∧ ∀ a ∈ S', a ∈ S := by
  by_cases hij : i = j
  · subst hij
    rw [hi] at hj; cases hj
    rw [di] at dj; cases dj
    rw [List.set_set, List.set_set, set_of_get hi, set_of_get di]
    exact ⟨S, r, nd, fun _ m => m⟩
  obtain ⟨w', A, Sj, B, g1, g2, g3, g4⟩ := r.getS dj
  rw [hj] at g1; cases g1
  subst g3
  obtain ⟨n1, n2, n3⟩ := nodup_split nd
  obtain ⟨n4, n5, n6⟩ := nodup_split n2
  have r1 := g4 .non .non [] .non
  have nd1 : (A ++ ([] ++ B)).Nodup := nodup_put nd List.nodup_nil (fun _ m => nomatch m) (fun _ m => nomatch m)
  have di1 : (ds.set j .non)[i]? = some d := by rw [List.getElem?_set_ne (Ne.symm hij)]; exact di
  obtain ⟨v', A1, Si, B1, k1, k2, k3, k4⟩ := r1.getS di1
  have hi1 : (vs.set j .non)[i]? = some v := by rw [List.getElem?_set_ne (Ne.symm hij)]; exact hi
  rw [hi1] at k1; cases k1
  have r2 := k4 w e Sj g2
  rw [k3] at nd1
  obtain ⟨m1, m2, m3⟩ := nodup_split nd1
  obtain ⟨m4, m5, m6⟩ := nodup_split m2
  have in1 : ∀ a, a ∈ A1 ∨ a ∈ Si ∨ a ∈ B1 → a ∈ A ∨ a ∈ B := fun a h => by
    have : a ∈ A ++ ([] ++ B) := by
      rw [k3]
      rcases h with h | h | h
      · exact List.mem_append_left _ h
      · exact List.mem_append_right _ (List.mem_append_left _ h)
      · exact List.mem_append_right _ (List.mem_append_right _ h)
    exact List.mem_append.mp this
  have dj1 : ∀ a ∈ Sj, ¬ (a ∈ A ∨ a ∈ B) := fun a m h => h.elim (fun h => n3 a h (List.mem_append_left _ m)) (fun h => n6 a m h)
  have nd2 : (A1 ++ (Sj ++ B1)).Nodup := nodup_put nd1 n4 (fun a m z => dj1 a m (in1 a (.inl z))) (fun a m z => dj1 a m (in1 a (.inr (.inr z))))
  have jl : j < ds.length := (List.getElem?_eq_some_iff.mp dj).1
  have dj2 : ((ds.set j .non).set i e)[j]? = some .non := by rw [List.getElem?_set_ne hij, List.getElem?_set_self jl]
  obtain ⟨u, A2, S0, B2, q1, q2, q3, q4⟩ := r2.getS dj2
  cases q2
  have r3 := q4 v d Si k2
  have ev : ((vs.set j .non).set i w).set j v = (vs.set j v).set i w := by
    rw [List.set_comm _ _ hij, List.set_set]
  have ed : ((ds.set j .non).set i e).set j d = (ds.set j d).set i e := by
    rw [List.set_comm _ _ hij, List.set_set]
  rw [ev, ed] at r3
  have in2 : ∀ a, a ∈ A2 ∨ a ∈ B2 → a ∈ A1 ∨ a ∈ Sj ∨ a ∈ B1 := fun a h => by
    have : a ∈ A1 ++ (Sj ++ B1) := by
      rw [q3]
      rcases h with h | h
      · exact List.mem_append_left _ h
      · exact List.mem_append_right _ (List.mem_append_right _ h)
    rcases List.mem_append.mp this with h | h
    · exact .inl h
    · exact .inr (List.mem_append.mp h)
  have di2 : ∀ a ∈ Si, ¬ (a ∈ A1 ∨ a ∈ Sj ∨ a ∈ B1) := fun a m h => by
    rcases h with h | h | h
    · exact m3 a h (List.mem_append_left _ m)
    · exact dj1 a h (in1 a (.inr (.inl m)))
    · exact m6 a m h
  rw [q3] at nd2
  refine ⟨_, r3, nodup_put nd2 m4 (fun a m z => di2 a m (in2 a (.inl z))) (fun a m z => di2 a m (in2 a (.inr z))), fun a m => ?_⟩
  have back : a ∈ A ∨ a ∈ B → a ∈ A ++ (Sj ++ B) := fun h => h.elim (fun h => List.mem_append_left _ h) fun h => List.mem_append_right _ (List.mem_append_right _ h)
  rcases List.mem_append.mp m with m | m
  · rcases in2 a (.inl m) with h | h | h
    · exact back (in1 a (.inl h))
    · exact List.mem_append_right _ (List.mem_append_left _ h)
    · exact back (in1 a (.inr (.inr h)))
  · rcases List.mem_append.mp m with m | m
    · exact back (in1 a (.inr (.inl m)))
    · rcases in2 a (.inr m) with h | h | h
      · exact back (in1 a (.inl h))
      · exact List.mem_append_right _ (List.mem_append_left _ h)
      · exact back (in1 a (.inr (.inr h)))
theorem upd_twice {H : Hp} {p : Addr} {a b : HO} : upd (upd H p a) p b = upd H p b := by
  funext x
  by_cases h : x = p
  · subst h; rw [upd_same, upd_same]
  · rw [upd_ne h, upd_ne h, upd_ne h]
/-- one list of one's own is written with what it holds elsewhere: what is seen by reading -/
theorem RE.seen {K : PySem.W.Frag} {T0 T : Ts} {H0 H : Hp} {σ : L2.St} {env : Env} {S : List Addr} {st : Store} (r : RE K T0 T H0 H σ env S st) {i j : Nat} {p : Addr} {ds : List D} (h1 : env[i]? = some (some (.lst .own ds))) (h2 : σ[i]? = some (some (.ref p))) {k : Nat} {d : D} (hk : ds[k]? = some d) :
    ∃ xs v, H p = some (.lst xs) ∧ xs.length = ds.length ∧ xs[k]? = some v ∧ T.no p ∧ EB K T (upd H p (.lst (xs.set j v))) σ (env.set i (some (.lst .own (ds.set j d)))) ∧ SOk K T (upd H p (.lst (xs.set j v))) st := by
  obtain ⟨S0, q, kp, nd, inS, re⟩ := r.mut h1 h2
  cases q with
  | @own _ xs _ S1 hp np rl =>
    obtain ⟨n1, n2⟩ := List.nodup_cons.mp nd
    have k' : keepL ds = true := by simpa [D.keep] using kp
    obtain ⟨v, _, g1, _, _⟩ := rl.get hk
    have c := chg_upd (o := .lst (xs.set j v)) hp
    obtain ⟨S2, r2⟩ := re [p] (upd H p (.lst (xs.set j v))) .non .non [] c (fun a m => by rw [List.mem_singleton.mp m]; exact List.mem_cons_self) .non rfl List.nodup_nil (fun _ m => nomatch m) (r.hidOk c fun a m => by rw [List.mem_singleton.mp m]; exact np)
    have rl' : RepL K T (upd H p (.lst (xs.set j v))) xs ds S1 := rl.chg c (fun a m z => n1 (by rw [← List.mem_singleton.mp z]; exact m)) k'
    have rb := rl'.bw
    have kb : (bwL ds)[k]? = some d.bw := by rw [bwL_map, List.getElem?_map, hk]; rfl
    obtain ⟨v', S3, g2, g3, g4⟩ := rb.get kb
    rw [g1] at g2; cases g2
    have e3 : S3 = [] := List.sublist_nil.mp g4
    subst e3
    have rs : RepL K T (upd H p (.lst (xs.set j v))) (xs.set j v) ((bwL ds).set j d.bw) [] := by
      obtain ⟨A, Sx, B, z, w⟩ := RepL.put (j := j) rb g3
      rcases w with w | w
      · obtain ⟨z1, z2⟩ := List.append_eq_nil_iff.mp z.symm
        obtain ⟨z3, z4⟩ := List.append_eq_nil_iff.mp z2
        subst z1; subst z4
        exact w
      · exact w
    have eb := r2.env_.eb
    refine ⟨xs, v, hp, rl.length, g1, np, ⟨?_, fun m x hx => ?_⟩, r2.so⟩
    · have := eb.len
      rw [List.length_set, List.length_set] at this
      rw [List.length_set]; exact this
    · by_cases hm : i = m
      · subst hm
        rw [List.getElem?_set_self (List.getElem?_eq_some_iff.mp h1).1] at hx
        cases hx
        refine ⟨.ref p, h2, ?_⟩
        show Rep K T _ _ (.lst .bor (bwL (ds.set j d))) []
        rw [bwL_map, List.map_set, ← bwL_map]
        exact .bor (.inl upd_same) np rs
      · rw [List.getElem?_set_ne hm] at hx
        obtain ⟨y, y1, y2⟩ := eb.get m x (by rw [List.getElem?_set_ne hm]; exact hx)
        rw [List.getElem?_set_ne hm] at y1
        exact ⟨y, y1, y2⟩
section
variable {X : Cx} {ca : Cls_} {W : WX} {pos p1 p2 p3 p4 p5 p6 p7 p8 pt pt2 : Pos} {kt kt2 : Nat}
theorem quiet_okS {α : Type} {K : PySem.W.Frag} {T0 : Ts} {H0 : Hp} {m : M α} {β : Type} {k : α → M β} {Q : β → Store → Prop} {st : Store} (w : WishS K ca W T0 H0 (M.bind (M.quiet m) k st) Q) : ∃ a st1, m st = .ok a st1 ∧ WishS K ca W T0 H0 (k a st1) Q := by
  unfold M.bind M.quiet at w
  cases hm : m st with
  | ok a st1 => rw [hm] at w; exact ⟨a, st1, rfl, w⟩
  | exn c p st1 => rw [hm] at w; exact w.elim
  | err => rw [hm] at w; exact w.elim
theorem ss_swap {x : Str} {i : Nat} {ae be ce de : Expr} {fa fb fc fd : Env → M D} (hN : X.N[i]? = some x) (hv : Vis X.env.scope x) (hd : (x == ("__debug__" : Str)) = false) (hcd : (x == ("__classdict__" : Str)) = false) (hA : PE X ae (TEv X.K ca W fa)) (hB : PE X be (TEv X.K ca W fb)) (hC : PE X ce (TEv X.K ca W fc)) (hD : PE X de (TEv X.K ca W fd))
    (pC : PlainIx ce) (pD : PlainIx de) (hc : X.calm = true)
    (aA : ∀ v, assign (.Subscript (.Name x p1) ae p2) X.env v = (do
      let ov ← holding [v] (eval (.Name x p1) X.env)
      let iv ← holding [v, ov] (eval ae X.env)
      standAt p2
      holding [v, ov, iv] (setItem ov iv v)
      release [v, ov, iv] []))
    (aB : ∀ v, assign (.Subscript (.Name x p3) be p4) X.env v = (do
      let ov ← holding [v] (eval (.Name x p3) X.env)
      let iv ← holding [v, ov] (eval be X.env)
      standAt p4
      holding [v, ov, iv] (setItem ov iv v)
      release [v, ov, iv] []))
    (hs : swapsWithSole [.Tuple [.Subscript (.Name x p1) ae p2, .Subscript (.Name x p3) be p4] kt pt] (.Tuple [.Subscript (.Name x p5) ce p6, .Subscript (.Name x p7) de p8] kt2 pt2) pos.line X.env = Pure.pure false)
    (hw : swappedStores [.Tuple [.Subscript (.Name x p1) ae p2, .Subscript (.Name x p3) be p4] kt pt] (.Tuple [.Subscript (.Name x p5) ce p6, .Subscript (.Name x p7) de p8] kt2 pt2) X.env = Pure.pure none) :
    PS X (.Assign [.Tuple [.Subscript (.Name x p1) ae p2, .Subscript (.Name x p3) be p4] kt pt] (.Tuple [.Subscript (.Name x p5) ce p6, .Subscript (.Name x p7) de p8] kt2 pt2) pos) (TSv X.K ca W (swapF i fa fb fc fd)) := by
  refine PS.mono (ps_asg (pe_tup (pa_cons (pe_ix ix_seq (pe_var hN hv hd hcd) hC pC) (pa_cons (pe_ix ix_seq (pe_var hN hv hd hcd) hD pD) pa_nil)))
    (pg_tup hc (pgs_cons (pg_sub (pe_var hN hv hd hcd) hA set_list aA) (pgs_cons (pg_sub (pe_var hN hv hd hcd) hB set_list aB) pgs_nil))) hs hw rfl) fun D σ H ⟨T0, T, H0, env, S, st, r, w⟩ => ?_
  obtain ⟨ds, hx⟩ : ∃ ds, env[i]? = some (some (.lst .own ds)) := by
    unfold swapF at w
    cases hx : env[i]? with
    | none => rw [hx] at w; exact w.elim
    | some o => cases o with
      | none => rw [hx] at w; exact w.elim
      | some dx => cases dx with
        | lst m ds => cases m with
          | own => exact ⟨ds, rfl⟩
          | _ => rw [hx] at w; exact w.elim
        | _ => rw [hx] at w; exact w.elim
  simp only [swapF, hx] at w
  obtain ⟨o, ho⟩ := r.at_ hx
  obtain ⟨v0, _, S0, _, g1, g2, kds, _⟩ := r.env_.get hx
  rw [ho] at g1; cases g1
  obtain ⟨p, rfl⟩ := rep_own g2
  cases g2 with
  | @own _ xs _ _ hp np rl0 =>
  have hl := rl0.length
  -- x[c]
  refine ⟨_, ho, T, env, st, r.env_.eb, r.so, r.wish w fun xc st1 hf1 w1 v1 H1 S1 e1 s1 r1 f1 => ?_⟩
  have q1 := r.step e1 s1
  have hp1 : H1 p = some (.lst xs) := e1 _ _ hp (.inl np.1)
  cases xc with
  | int kc =>
    cases r1
    dsimp only at w1
    cases hjc : ixN ds.length kc with
    | none => rw [hjc] at w1; exact w1.elim
    | some jc =>
    rw [hjc] at w1
    dsimp only at w1
    cases hdc : ds[jc]? with
    | none => rw [hdc] at w1; exact w1.elim
    | some dc =>
    rw [hdc] at w1
    dsimp only at w1
    obtain ⟨vc, _, hvc, _, _⟩ := rl0.get hdc
    refine .inl ⟨p, xs, kc, vc, rfl, rfl, SqL.of hp1, by unfold atI; rw [hl, hjc]; exact hvc, ?_⟩
    -- x[d]
    refine ⟨_, ho, T, env, st1, q1.env_.eb, s1, q1.wish w1 fun xd st2 hf2 w2 v2 H2 S2 e2 s2 r2 f2 => ?_⟩
    have q2 := q1.step e2 s2
    have hp2 : H2 p = some (.lst xs) := e2 _ _ hp1 (.inl np.1)
    cases xd with
    | int kd =>
      cases r2
      dsimp only at w2
      cases hjd : ixN ds.length kd with
      | none => rw [hjd] at w2; exact w2.elim
      | some jd =>
      rw [hjd] at w2
      dsimp only at w2
      cases hdd : ds[jd]? with
      | none => rw [hdd] at w2; exact w2.elim
      | some dd =>
      rw [hdd] at w2
      dsimp only at w2
      obtain ⟨vd, _, hvd, _, _⟩ := rl0.get hdd
      refine .inl ⟨p, xs, kd, vd, rfl, rfl, SqL.of hp2, by unfold atI; rw [hl, hjd]; exact hvd, ?_⟩
      -- the pair
      refine ⟨by show 2 ≤ sizeLine; decide, fun t ht => ?_⟩
      have et : Ext T H2 (upd H2 t (.tup [vc, vd])) := Ext.of_same (same_upd ht)
      have st_ : SOk X.K T (upd H2 t (.tup [vc, vd])) st2 := s2.same (same_upd ht)
      have qt := q2.step et st_
      have hpt : upd H2 t (.tup [vc, vd]) p = some (.lst xs) := et _ _ hp2 (.inl np.1)
      refine ⟨t, [vc, vd], rfl, .inl (.inl upd_same), rfl, vc, [vd], rfl, ?_⟩
      -- x[a] = ..
      refine ⟨_, ho, T, env, st2, qt.env_.eb, st_, qt.wish w2 fun xa st3 hf3 w3 v3 H3 S3 e3 s3 r3 f3 => ?_⟩
      have q3 := qt.step e3 s3
      cases xa with
      | int ka =>
        cases r3
        dsimp only at w3
        split at w3
        case isFalse => exact w3.elim
        rename_i hja
        obtain ⟨xs', v', hp3, _, hv', _, eb4, so4⟩ := q3.seen (j := jd) hx ho hdc
        have hp3' : H3 p = some (.lst xs) := e3 _ _ hpt (.inl np.1)
        rw [hp3'] at hp3; cases hp3
        rw [hvc] at hv'; cases hv'
        refine ⟨p, xs, ka, jd, rfl, rfl, hp3', by rw [hl]; exact hja, vd, [], rfl, ?_⟩
        -- x[b] = ..
        obtain ⟨xb, st4, hb, w4⟩ := quiet_okS w3
        refine ⟨_, ho, T, _, st3, eb4, so4, ?_⟩
        rw [hb]
        intro v5 H5 S5 e5 s5 r5 f5
        cases xb with
        | int kb =>
          cases r5
          dsimp only at w4
          split at w4
          case isFalse => exact w4.elim
          rename_i hjb
          have hp5 : H5 p = some (.lst (xs.set jd vc)) := e5 _ _ upd_same (.inl np.1)
          refine ⟨p, xs.set jd vc, kb, jc, rfl, rfl, hp5, by rw [List.length_set, hl]; exact hjb, rfl, ?_⟩
          -- as if the list had stood all the time
          have ev : Ext T H3 (upd H5 p (.lst xs)) := fun a u h n => by
            by_cases z : a = p
            · subst z
              rw [hp3'] at h; cases h
              exact upd_same
            · rw [upd_ne z]
              exact e5 a u (by rw [upd_ne z]; exact h) n
          have cv : Chg [p] H5 (upd H5 p (.lst xs)) := chg_upd hp5
          have sv : SOk X.K T (upd H5 p (.lst xs)) st4 := s5.chg cv (fun a m => by rw [List.mem_singleton.mp m]; exact np) fun a m => by
            by_cases z : a = p
            · subst z; exact ⟨_, upd_same⟩
            · rw [upd_ne z]; exact s5.hid a m
          have q5 := q3.step ev sv
          obtain ⟨xs6, S6, h6, rl6, kl6, in6, _, nd6, wr6⟩ := q5.write hx ho
          rw [upd_same] at h6; cases h6
          obtain ⟨S7, rl7, nd7, in7⟩ := rl6.swp nd6 hvc hvd hdc hdd
          have k7 : keepL ((ds.set jd dc).set jc dd) = true := keepL_set (keepL_set kl6 (keepL_of_get kl6 hdc)) (keepL_of_get kl6 hdd)
          obtain ⟨S8, q8⟩ := wr6 _ _ _ rl7 k7 nd7 fun a m => .inl (in7 a m)
          rw [upd_twice] at q8
          refine w4 T σ _ S8 ?_ (TLe.refl _) q8
          exact e1.imx.trans (e2.imx.trans (et.imx.trans (e3.imx.trans ((chg_upd hp3').imx.trans (e5.imx.trans (chg_upd hp5).imx)))))
        | _ => exact w4.elim
      | _ => exact w3.elim
    | _ => exact w2.elim
  | _ => exact w1.elim
end
end PL
/-! itertools.combinations: list(combinations(x, r)) -/
namespace PLC
open PySem PySem.Spec PyProof.Rows L2

/-! ### facts of the type -/
theorem owner_cb : Manifest.owners.lookup (String.ofList ['s', 'n', 'o', 'i', 't', 'a', 'n', 'i', 'b', 'm', 'o', 'c', '.', 's', 'l', 'o', 'o', 't', 'r', 'e', 't', 'i'].reverse) = some Manifest.sig_itertools_combinations := by kernel_rfl
theorem slot_cb_next : Slot "itertools.combinations" "__next__" "itertools.combinations.__next__" :=
  .of (owner := "itertools.combinations") (n := "__next__") (by rw [typeLookup_type, builtinLookup_eq_fast]; kernel_rfl) (by decide +kernel) (by decide +kernel) (by decide +kernel)
    (by first | exact .inl (by decide +kernel) | exact .inr (by decide +kernel)) (by rw [isSubtype_type]; kernel_rfl)
theorem entry_cb_next : entryFor table "itertools.combinations.__next__" = some Builtin.«itertools.combinations.__next__» := entryFor_of_tree (by kernel_rfl)
theorem args_cb_next (a : Value) : argsOk "itertools.combinations.__next__" ⟨[a], []⟩ := by
  unfold argsOk; rw [signature?_of (id := "itertools.combinations.__next__") (n := ['_', '_', 't', 'x', 'e', 'n', '_', '_']) (o := ['s', 'n', 'o', 'i', 't', 'a', 'n', 'i', 'b', 'm', 'o', 'c', '.', 's', 'l', 'o', 'o', 't', 'r', 'e', 't', 'i']) (by kernel_rfl) owner_cb]; kernel_rfl
theorem slot_cb_iter : Slot "itertools.combinations" "__iter__" "itertools.combinations.__iter__" :=
  .of (owner := "itertools.combinations") (n := "__iter__") (by rw [typeLookup_type, builtinLookup_eq_fast]; kernel_rfl) (by decide +kernel) (by decide +kernel) (by decide +kernel)
    (by first | exact .inl (by decide +kernel) | exact .inr (by decide +kernel)) (by rw [isSubtype_type]; kernel_rfl)
theorem args_cb_iter (a : Value) : argsOk "itertools.combinations.__iter__" ⟨[a], []⟩ := by
  unfold argsOk; rw [signature?_of (id := "itertools.combinations.__iter__") (n := ['_', '_', 'r', 'e', 't', 'i', '_', '_']) (o := ['s', 'n', 'o', 'i', 't', 'a', 'n', 'i', 'b', 'm', 'o', 'c', '.', 's', 'l', 'o', 'o', 't', 'r', 'e', 't', 'i']) (by kernel_rfl) owner_cb]; kernel_rfl
theorem entry_cb_iter : entryFor table "itertools.combinations.__iter__" = some Builtin.«dict_keyiterator.__iter__» :=
  entryFor_alias (id' := "dict_keyiterator.__iter__") (by kernel_rfl) (by first | rfl | decide +kernel | (unfold String.splitOn; simp +decide [String.splitOnAux])) (by decide +kernel) (by kernel_rfl)
theorem slot_cb_init : Slot "itertools.combinations" "__init__" "object.__init__" :=
  .of (owner := "object") (n := "__init__") (by rw [typeLookup_type, builtinLookup_eq_fast]; kernel_rfl) (by decide +kernel) (by decide +kernel) (by decide +kernel)
    (by first | exact .inl (by decide +kernel) | exact .inr (by decide +kernel)) (by rw [isSubtype_type]; kernel_rfl)
theorem mro_cb : mroOf (.type "itertools.combinations") = pure [.type "itertools.combinations", .type "object"] := by rw [mroOf_type]; kernel_rfl
theorem lookup_cb_new : typeLookup (.type "itertools.combinations") "__new__" = pure (some (.builtin "itertools.combinations.__new__")) := by rw [typeLookup_type, builtinLookup_eq_fast]; kernel_rfl
theorem sub_cb : isSubtype (.type "itertools.combinations") (.type "itertools.combinations") = pure true := by rw [isSubtype_type]; kernel_rfl
theorem called_cb : TypeCalled "itertools.combinations" "itertools.combinations.__new__" "object.__init__" :=
  ⟨by decide +kernel, by decide +kernel, ⟨_, _, mro_cb⟩, madeBy_type mro_cb lookup_cb_new (by decide +kernel), by decide +kernel, sub_cb, slot_cb_init⟩
theorem typeCall_cb (a b : Value) : checkTypeCall "itertools.combinations" ⟨[a, b], []⟩ = pure () := by kernel_rfl
theorem newCall_cb (a b : Value) : checkBuiltinCall "itertools.combinations.__new__" ⟨[.type "itertools.combinations", a, b], []⟩ = pure () := by kernel_rfl
theorem entry_cb_new : entryFor table "itertools.combinations.__new__" = some Builtin.«itertools.combinations.__new__» := entryFor_of_tree (by kernel_rfl)
theorem nolen_cb : typeLookup (.type "itertools.combinations") "__len__" = pure none := by rw [typeLookup_type, builtinLookup_eq_fast]; kernel_rfl
theorem nohint_cb : typeLookup (.type "itertools.combinations") "__length_hint__" = pure none := by rw [typeLookup_type, builtinLookup_eq_fast]; kernel_rfl
end PLC
namespace PLC
open PySem PySem.Spec PyProof.Rows L2
open PL (stepC cbFrom allC)

/-! ### the object -/
def nums (idx : List Nat) : List Value := idx.map fun (i : Nat) => rawInt i
def cbF (T : Addr) (st : Int) (last : Value) (idx : List Nat) : Array Value := ([.ref T, rawInt st, last] ++ nums idx).toArray
abbrev IsCb (h : Heap) (m T : Addr) (st : Int) (last : Value) (idx : List Nat) : Prop := h.get? m = some { cls := .type "itertools.combinations", dict := none, data := .fields (cbF T st last idx), slots := #[] }
abbrev IsPool (h : Heap) (T : Addr) (its : Array Value) : Prop := h.get? T = some { cls := .type "tuple", data := .seq its }
/-- which tuple is made -/
def pickV (its : Array Value) (idx : List Nat) : List Value := idx.map fun i => its.getD i .none
section
variable {prog : Program} {w : World} {A : Around} {E : Value → Shared → Prop} {s : Shared}
theorem new_cb (l : Addr) (its : Array Value) (r : Nat) (t : Tok) (hr : r ≤ 1000) (hn : its.size ≤ 1000) : MeetsIn prog w (Builtin.«itertools.combinations.__new__» ⟨[.type "itertools.combinations", .ref l, .int r t], []⟩)
    (fun A R s => (∃ (T : String) (o : Obj) (n : Nat), (T = "list" ∨ T = "tuple") ∧ s.heap.get? l = some o ∧ o.cls = .type T ∧ o.data = .seq its n) ∧
      ∀ h' : Heap, (∀ b o, s.heap.get? b = some o → h'.get? b = some o) → R (.ok (.ret (.ref (h'.push { cls := .type "tuple", data := .seq its }).objs.size))) { s with heap := (h'.push { cls := .type "tuple", data := .seq its }).push { cls := .type "itertools.combinations", data := .fields (cbF h'.objs.size (if r > its.size then 2 else 0) .none (List.range r)) } }) :=
  .of_wp fun A R s ⟨⟨T, o, n, hT, ho, hc, hd⟩, hR⟩ => by
    unfold Builtin.«itertools.combinations.__new__»
    refine wpAny_bind ?_
    show wpAny _ _ (do
      let (cls, rest) ← Builtin.Itertools.itClassAndRest "combinations" ⟨[.type "itertools.combinations", .ref l, .int r t], []⟩
      let [some iterable, some rV] ← Builtin.Itertools.itBindNamed "combinations" ["iterable", "r"] 2 2 rest [] | unsupported "internal:itertools.combinations.__new__"
      let r ← Builtin.Itertools.itSsizeArg rV
      let items ← collect iterable
      if r < 0 then rule "itertools.combinations.negative-r"; raiseError "ValueError" "r must be non-negative"
      if Builtin.Itertools.itTooMany r then unsupported s!"itertools.{"combinations"}.__new__:memory"
      return (cls, ← newTuple items, items.length, r.toNat)) _ _ _
    refine wpAny_bind (wpAny_of_eq (a := (.type "itertools.combinations", [.ref l, .int r t])) ?_ ?_)
    · unfold Builtin.Itertools.itClassAndRest
      simp only [isType, pure_bind, Bool.not_true, Bool.false_eq_true, if_false]
      have e : isSubtype (.type "itertools.combinations") (.type ("itertools." ++ "combinations")) = pure true := sub_cb
      rw [e]
      rfl
    dsimp only
    refine wpAny_bind (wpAny_of_eq (a := [some (.ref l), some (.int r t)]) (by rfl) ?_)
    dsimp only
    refine wpAny_bind (wpAny_of_eq (a := (r : Int)) ?_ ?_)
    · unfold Builtin.Itertools.itSsizeArg
      have e : asIndex (.int (r : Int) t) = Pure.pure (r : Int) := by rfl
      rw [e, pure_bind]
      have e1 : (decide ((r : Int) < -(2 ^ 63 : Int)) || decide ((r : Int) ≥ 2 ^ 63)) = false := by
        rw [Bool.or_eq_false_iff]
        exact ⟨decide_eq_false (by omega), decide_eq_false (by omega)⟩
      rw [e1]
      rfl
    refine wpAny_bind (wpAny_collect_seq l hT ho hc hd (fun h' hk => ?_) (by rw [sizeLine_eq]; omega))
    rw [if_neg (by omega)]
    have e2 : Builtin.Itertools.itTooMany (r : Int) = false := by
      unfold Builtin.Itertools.itTooMany
      exact decide_eq_false (by omega)
    rw [e2, if_neg Bool.false_ne_true]
    refine wpAny_bind (wpAny_newTuple (wpAny_pure ?_) (by rw [Array.length_toList, sizeLine_eq]; omega))
    have e3 : its.toList.toArray = its := by simp
    have e4 : its.toList.length = its.size := by simp
    rw [e3]
    refine wpAny_bind ?_
    unfold Builtin.Itertools.itNewRecord
    have e5 : typeHasDict (.type "itertools.combinations") = false := by kernel_rfl
    rw [e5]
    rw [if_pos (by rfl)]
    dsimp only
    refine wpAny_newObj_type (wpAny_pure ⟨_, rfl, ?_⟩) ?_
    · have z := hR h' hk
      rw [← e4] at z
      exact z
    · show ([Value.ref h'.objs.size, rawInt _, Value.none] ++ List.map (fun (i : Nat) => rawInt i) (List.range (r : Int).toNat)).toArray.size ≤ sizeLine + 2
      rw [List.size_toArray, List.length_append, List.length_map, List.length_range, sizeLine_eq]
      simp only [List.length_cons, List.length_nil, Int.toNat_natCast]
      omega
/-- combinations(x, r) -/
theorem call_cb {l : Addr} {its : Array Value} {r : Nat} {t : Tok} {Q : Value → Shared → Prop} (hr : r ≤ 1000) (hn : its.size ≤ 1000) (hl : ∃ (T : String) (o : Obj) (n : Nat), (T = "list" ∨ T = "tuple") ∧ s.heap.get? l = some o ∧ o.cls = .type T ∧ o.data = .seq its n)
    (hQ : ∀ (h' : Heap) (m T : Addr), (∀ b o, s.heap.get? b = some o → h'.get? b = some o) → s.heap.get? m = none → m ≠ T → IsPool h' T its → IsCb h' m T (if r > its.size then 2 else 0) .none (List.range r) → Q (.ref m) { s with heap := h' }) :
    wpAny (model prog w) A (call (.type "itertools.combinations") [.ref l, .int r t]) Q E s := by
  refine callType_newIn called_cb (by decide) (typeCall_cb _ _) (newCall_cb _ _) (fun obj => F.args_object_init_3 obj _ _) entry_cb_new (new_cb l its r t hr hn) ?_
  refine ⟨hl, fun h' hk => ?_⟩
  have gT : ((h'.push { cls := .type "tuple", data := .seq its }).push { cls := .type "itertools.combinations", data := .fields (cbF h'.objs.size (if r > its.size then 2 else 0) .none (List.range r)) }).get? h'.objs.size = some { cls := .type "tuple", data := .seq its } := Heap.get?_push_of_some _ (Heap.get?_push_size _ rfl)
  have gm : ((h'.push { cls := .type "tuple", data := .seq its }).push { cls := .type "itertools.combinations", data := .fields (cbF h'.objs.size (if r > its.size then 2 else 0) .none (List.range r)) }).get? (h'.push { cls := .type "tuple", data := .seq its }).objs.size = some { cls := .type "itertools.combinations", data := .fields (cbF h'.objs.size (if r > its.size then 2 else 0) .none (List.range r)) } := Heap.get?_push_size _ rfl
  show _ ∧ _
  refine ⟨⟨_, gm, rfl⟩, hQ _ _ _ (fun b o e => Heap.get?_push_of_some _ (Heap.get?_push_of_some _ (hk b o e))) ?_ ?_ gT gm⟩
  · cases q : s.heap.get? (h'.push { cls := .type "tuple", data := .seq its }).objs.size with
    | none => rfl
    | some o =>
      have := Heap.lt_size (hk _ o q)
      rw [Heap.size_push] at this
      exact absurd this (Nat.not_lt.mpr (Nat.le_succ _))
  · rw [Heap.size_push]; exact Nat.succ_ne_self _
/-! ### __next__ -/
theorem nums_back (f : Value → Nat) (hf : ∀ i : Nat, f (rawInt i) = i) (idx : List Nat) : (nums idx).map f = idx := by
  unfold nums
  rw [List.map_map]
  induction idx with
  | nil => rfl
  | cons i idx ih =>
    rw [List.map_cons, ih]
    show f (rawInt i) :: idx = _
    rw [hf]
theorem cbF_drop (T : Addr) (st : Int) (last : Value) (idx : List Nat) : (cbF T st last idx).toList.drop 3 = nums idx := rfl
theorem numbers_cb {m T : Addr} {st : Int} {last : Value} {idx : List Nat} {Q : List Nat → Shared → Prop} (hm : IsCb s.heap m T st last idx) (h : Q idx s) : wpAny (model prog w) A (Builtin.Itertools.itNumbersFrom (.ref m) 3) Q E s := by
  unfold Builtin.Itertools.itNumbersFrom
  dsimp only
  refine wpAny_bind (wpAny_load hm ?_)
  dsimp only
  refine wpAny_pure ?_
  rw [cbF_drop, nums_back _ fun i => rfl]
  exact h
theorem int_cb {m T : Addr} {st : Int} {last : Value} {idx : List Nat} {Q : Int → Shared → Prop} (hm : IsCb s.heap m T st last idx) (h : Q st s) : wpAny (model prog w) A (Builtin.Itertools.itIntField (.ref m) 1) Q E s := by
  unfold Builtin.Itertools.itIntField
  exact wpAny_bind (wpAny_field hm rfl (x := rawInt st) rfl (wpAny_pure h))
theorem pool_cb {T : Addr} {its : Array Value} {Q : Array Value → Shared → Prop} (hT : IsPool s.heap T its) (h : Q its s) : wpAny (model prog w) A (Builtin.Itertools.itPoolItems (.ref T)) Q E s := by
  unfold Builtin.Itertools.itPoolItems
  exact wpAny_bind (wpAny_seqItems hT rfl (wpAny_pure h))
/-- the tuple is handed out -/
theorem hand_cb {m T : Addr} {its : Array Value} {st : Int} {idx : List Nat} {last : Value} {Q : Value → Shared → Prop} (hm : IsCb s.heap m T st last idx) (hT : IsPool s.heap T its) (hl : idx.length ≤ 1000)
    (hQ : ∀ (h' : Heap) (a : Addr), (∀ b o, b ≠ m → s.heap.get? b = some o → h'.get? b = some o) → s.heap.get? a = none → h'.get? a = some { cls := .type "tuple", data := .seq (pickV its idx).toArray } → IsCb h' m T st (.ref a) idx → Q (.ref a) { s with heap := h' }) :
    wpAny (model prog w) A (do
      let result ← (do
        let items ← Builtin.Itertools.itPoolItems (.ref T)
        newTuple (idx.map fun i => items.getD i .none))
      let before ← field (.ref m) 2
      setField (.ref m) 2 result
      letGo [before] [result]
      ret result : Sem Fin) (fun fin s' => ∃ v, fin = .done (.ret v) ∧ Q v s') E s := by
  refine wpAny_bind (wpAny_bind (pool_cb hT (wpAny_newTuple ?_ (by rw [List.length_map, sizeLine_eq]; omega))))
  have hlt := Heap.lt_size hm
  refine wpAny_bind (wpAny_field (s := { s with heap := s.heap.push { cls := .type "tuple", data := .seq (pickV its idx).toArray } }) (Heap.get?_push_of_some _ hm) rfl (x := last) rfl ?_)
  refine wpAny_bind (wpAny_setField_rec (s := { s with heap := s.heap.push { cls := .type "tuple", data := .seq (pickV its idx).toArray } }) (Heap.get?_push_of_some _ hm) (by show 2 < (cbF T st last idx).size; unfold cbF nums; simp) fun h' he sb => ?_)
  refine wpAny_bind (wpAny_letGo (wpAny_pure ⟨_, rfl, hQ h' s.heap.objs.size (fun b o hb e => sb.extBut b o hb (Heap.get?_push_of_some _ e)) ?_ (sb.extBut _ _ (Nat.ne_of_gt hlt) (Heap.get?_push_size _ rfl)) ?_⟩))
  · cases q : s.heap.get? s.heap.objs.size with
    | none => rfl
    | some o => exact absurd (Heap.lt_size q) (Nat.lt_irrefl _)
  · exact he
theorem cb_next_first {m T : Addr} {its : Array Value} {idx : List Nat} {last : Value} {Q : Value → Shared → Prop} (hm : IsCb s.heap m T 0 last idx) (hT : IsPool s.heap T its) (hmT : m ≠ T) (hl : idx.length ≤ 1000)
    (hQ : ∀ (h' : Heap) (a : Addr), (∀ b o, b ≠ m → s.heap.get? b = some o → h'.get? b = some o) → s.heap.get? a = none → h'.get? a = some { cls := .type "tuple", data := .seq (pickV its idx).toArray } → IsCb h' m T 1 (.ref a) idx → Q (.ref a) { s with heap := h' }) :
    wpAny (model prog w) A (Builtin.«itertools.combinations.__next__» ⟨[.ref m], []⟩) (fun fin s' => ∃ v, fin = .done (.ret v) ∧ Q v s') E s := by
  unfold Builtin.«itertools.combinations.__next__»
  show wpAny _ _ (do
    let (self, _) ← slotArgs "__next__" 0 ⟨[.ref m], []⟩
    let pool ← field self 0
    let indices ← Builtin.Itertools.itNumbersFrom self 3
    let handOut (indices : List Nat) : Sem Fin := do
      let result ← (do
        let items ← Builtin.Itertools.itPoolItems pool
        newTuple (indices.map fun i => items.getD i .none))
      let before ← field self 2
      setField self 2 result
      letGo [before] [result]
      ret result
    match ← Builtin.Itertools.itIntField self 1 with
    | 0 => setField self 1 (rawInt 1); handOut indices
    | 1 =>
      match stepC (← Builtin.Itertools.itPoolItems pool).size indices with
      | some next => Builtin.Itertools.itSetNumbersFrom self 3 next; handOut next
      | none => setField self 1 (rawInt 2); Builtin.Itertools.itStop
    | _ => rule "itertools.combinations.ended"; Builtin.Itertools.itStop) _ _ _
  refine wpAny_bind (m := slotArgs _ _ _) (wpAny_pure ?_)
  dsimp only
  refine wpAny_bind (wpAny_field hm rfl (x := .ref T) rfl ?_)
  refine wpAny_bind (numbers_cb hm ?_)
  refine wpAny_bind (int_cb hm ?_)
  refine wpAny_bind (wpAny_setField_rec hm (by unfold cbF nums; simp) fun h1 he sb => ?_)
  have hT1 : IsPool h1 T its := sb.extBut _ _ (Ne.symm hmT) hT
  refine hand_cb (s := { s with heap := h1 }) (st := 1) he hT1 hl fun h' a q1 q2 q3 q4 => hQ h' a (fun b o hb e => q1 b o hb (sb.extBut b o hb e)) ?_ q3 q4
  have ne : a ≠ m := fun z => by
    rw [z] at q2
    have q2' : h1.get? m = none := q2
    rw [he] at q2'; cases q2'
  cases q : s.heap.get? a with
  | none => rfl
  | some o =>
    have q2' : h1.get? a = none := q2
    rw [sb.extBut a o ne q] at q2'; cases q2'
end
end PLC
namespace PLC
open PySem PySem.Spec PyProof.Rows L2
open PL (stepC cbFrom allC)
section
variable {prog : Program} {w : World} {A : Around} {E : Value → Shared → Prop} {s : Shared}
theorem next_tree (m : Addr) : Builtin.«itertools.combinations.__next__» ⟨[.ref m], []⟩ = (do
    let (self, _) ← slotArgs "__next__" 0 ⟨[.ref m], []⟩
    let pool ← field self 0
    let indices ← Builtin.Itertools.itNumbersFrom self 3
    let handOut (indices : List Nat) : Sem Fin := do
      let result ← (do
        let items ← Builtin.Itertools.itPoolItems pool
        newTuple (indices.map fun i => items.getD i .none))
      let before ← field self 2
      setField self 2 result
      letGo [before] [result]
      ret result
    match ← Builtin.Itertools.itIntField self 1 with
    | 0 => setField self 1 (rawInt 1); handOut indices
    | 1 =>
      match stepC (← Builtin.Itertools.itPoolItems pool).size indices with
      | some next => Builtin.Itertools.itSetNumbersFrom self 3 next; handOut next
      | none => setField self 1 (rawInt 2); Builtin.Itertools.itStop
    | _ => rule "itertools.combinations.ended"; Builtin.Itertools.itStop) := rfl
theorem cb_set (T : Addr) (st : Int) (last : Value) (idx next : List Nat) : (cbF T st last idx).extract 0 3 ++ (next.map fun (n : Nat) => rawInt n).toArray = cbF T st last next := by
  unfold cbF nums
  simp
theorem set_cb {m T : Addr} {st : Int} {last : Value} {idx next : List Nat} {Q : Unit → Shared → Prop} (hm : IsCb s.heap m T st last idx) (hl : next.length ≤ 1000) (h : ∀ h', IsCb h' m T st last next → Heap.SameBut m s.heap h' → Q () { s with heap := h' }) :
    wpAny (model prog w) A (Builtin.Itertools.itSetNumbersFrom (.ref m) 3 next) Q E s := by
  unfold Builtin.Itertools.itSetNumbersFrom
  dsimp only
  refine wpAny_updateFields hm rfl (h _ ?_ (Heap.SameBut.update ..)) ?_
  · have e := Heap.get?_update_self (Obj.mapFields fun fs => fs.extract 0 3 ++ (next.map fun (n : Nat) => rawInt n).toArray) hm rfl
    refine e.trans ?_
    unfold Obj.mapFields
    simp only [cb_set]
  · rw [cb_set]
    unfold cbF nums
    rw [List.size_toArray, List.length_append, List.length_map, sizeLine_eq]
    simp only [List.length_cons, List.length_nil]
    omega
theorem cb_next_on {m T : Addr} {its : Array Value} {idx next : List Nat} {last : Value} {Q : Value → Shared → Prop} (hm : IsCb s.heap m T 1 last idx) (hT : IsPool s.heap T its) (hmT : m ≠ T) (hs : stepC its.size idx = some next) (hl : next.length ≤ 1000)
    (hQ : ∀ (h' : Heap) (a : Addr), (∀ b o, b ≠ m → s.heap.get? b = some o → h'.get? b = some o) → s.heap.get? a = none → h'.get? a = some { cls := .type "tuple", data := .seq (pickV its next).toArray } → IsCb h' m T 1 (.ref a) next → Q (.ref a) { s with heap := h' }) :
    wpAny (model prog w) A (Builtin.«itertools.combinations.__next__» ⟨[.ref m], []⟩) (fun fin s' => ∃ v, fin = .done (.ret v) ∧ Q v s') E s := by
  rw [next_tree]
  refine wpAny_bind (m := slotArgs _ _ _) (wpAny_pure ?_)
  dsimp only
  refine wpAny_bind (wpAny_field hm rfl (x := .ref T) rfl ?_)
  refine wpAny_bind (numbers_cb hm ?_)
  refine wpAny_bind (int_cb hm ?_)
  refine wpAny_bind (pool_cb hT ?_)
  rw [hs]
  refine wpAny_bind (set_cb hm hl fun h1 he sb => ?_)
  have hT1 : IsPool h1 T its := sb.extBut _ _ (Ne.symm hmT) hT
  refine hand_cb (s := { s with heap := h1 }) (st := 1) he hT1 hl fun h' a q1 q2 q3 q4 => hQ h' a (fun b o hb e => q1 b o hb (sb.extBut b o hb e)) ?_ q3 q4
  have ne : a ≠ m := fun z => by
    rw [z] at q2
    have q2' : h1.get? m = none := q2
    rw [he] at q2'; cases q2'
  cases q : s.heap.get? a with
  | none => rfl
  | some o =>
    have q2' : h1.get? a = none := q2
    rw [sb.extBut a o ne q] at q2'; cases q2'
theorem cb_next_end {m T : Addr} {its : Array Value} {idx : List Nat} {last : Value} {st : Int} {Q : Value → Shared → Prop} (hh : A.handled = none) (hm : IsCb s.heap m T st last idx) (hT : IsPool s.heap T its) (hmT : m ≠ T) (hs : (st = 1 ∧ stepC its.size idx = none) ∨ st = 2)
    (h : ∀ h' e oe, Heap.ExtBut m s.heap h' → h'.get? e = some oe → oe.cls = .type "StopIteration" → E (.ref e) { s with heap := h' }) :
    wpAny (model prog w) A (Builtin.«itertools.combinations.__next__» ⟨[.ref m], []⟩) (fun fin s' => ∃ v, fin = .done (.ret v) ∧ Q v s') E s := by
  rw [next_tree]
  refine wpAny_bind (m := slotArgs _ _ _) (wpAny_pure ?_)
  dsimp only
  refine wpAny_bind (wpAny_field hm rfl (x := .ref T) rfl ?_)
  refine wpAny_bind (numbers_cb hm ?_)
  refine wpAny_bind (int_cb hm ?_)
  rcases hs with ⟨rfl, hs⟩ | rfl
  · refine wpAny_bind (pool_cb hT ?_)
    rw [hs]
    refine wpAny_bind (wpAny_setField_rec hm (by unfold cbF nums; simp) fun h1 he sb => ?_)
    exact DVw.raise_stop (s := { s with heap := h1 }) hh fun h' e oe kp hx hc => h h' e oe (fun c o hc q => kp c o (sb.extBut c o hc q)) hx hc
  · refine wpAny_bind (wpAny_rule ?_)
    exact DVw.raise_stop hh fun h' e oe kp hx hc => h h' e oe (fun c o hc q => kp c o q) hx hc
/-! ### pyNext, pyIter -/
theorem cb_pyNext {m T : Addr} {idx : List Nat} {last : Value} {st : Int} {Q : Option Value → Shared → Prop} (hm : IsCb s.heap m T st last idx)
    (h : wpAny (model prog w) A.in1 (Builtin.«itertools.combinations.__next__» ⟨[.ref m], []⟩) (fun fin s' => ∃ v, fin = .done (.ret v) ∧ Q (some v) s') (fun e s' => ∃ o h', e = .ref h' ∧ s'.heap.get? h' = some o ∧ o.cls = .type "StopIteration" ∧ Q none s') s) :
    wpAny (model prog w) A (pyNext (.ref m)) Q E s := by
  have hT0 : s.TypeIs (.ref m) "itertools.combinations" := ⟨_, hm, rfl⟩
  unfold pyNext
  refine wpAny_bind (wpAny_attempt (wpAny_callSpecial?_slot (name := Str.ofString "__next__") hT0 slot_cb_next
    (wpAny_call_entry slot_cb_next hT0 entry_cb_next (wpAny_mono h (fun fin s' ⟨v, e, q⟩ => ⟨v, e, wpAny_pure q⟩) fun e s' ⟨o, a, ea, ho, hc, q⟩ => ?_) (args_cb_next _))))
  subst ea
  exact wpAny_bind (wpAny_isInstance (T := "StopIteration") (b := true) ⟨o, ho, hc⟩ isSubtype_stop (wpAny_pure q))
theorem cb_pyIter {m T : Addr} {idx : List Nat} {last : Value} {st : Int} {Q : Value → Shared → Prop} (hm : IsCb s.heap m T st last idx) (h : Q (.ref m) s) : wpAny (model prog w) A (pyIter (.ref m)) Q E s := by
  have hT : s.TypeIs (.ref m) "itertools.combinations" := ⟨_, hm, rfl⟩
  refine wpAny_pyIter_slot hT slot_cb_iter (wpAny_call_entry slot_cb_iter hT entry_cb_iter ?_ (args_cb_iter _))
  show wpAny _ _ (ret (.ref m)) _ _ s
  exact wpAny_pure ⟨_, rfl, "itertools.combinations", _, hT, slot_cb_next.lookup, h⟩
end
end PLC
namespace PLC
open PySem PySem.Spec PyProof.Rows L2
open PL (stepC cbFrom allC)
/-- what is still to come -/
inductive Todo (n : Nat) : Int → List Nat → List (List Nat) → Prop
  | fin2 {idx : List Nat} : Todo n 2 idx []
  | fin1 {idx : List Nat} : stepC n idx = none → Todo n 1 idx []
  | first {idx : List Nat} {rest : List (List Nat)} : idx.length ≤ 1000 → Todo n 1 idx rest → Todo n 0 idx (idx :: rest)
  | on {idx next : List Nat} {rest : List (List Nat)} : stepC n idx = some next → next.length ≤ 1000 → Todo n 1 next rest → Todo n 1 idx (next :: rest)
def tupO (vs : List Value) : Obj := { cls := .type "tuple", data := .seq vs.toArray }
/-- the tuples that were made, at new addresses -/
def Got (h0 : Heap) (its : Array Value) (h : Heap) (done : List (List Nat)) (acc : List Value) : Prop := ∃ as : List Addr, acc = as.map Value.ref ∧ as.Nodup ∧ (∀ a ∈ as, h0.get? a = none) ∧ Paired (fun ix a => h.get? a = some (tupO (pickV its ix))) done as
theorem pair_keep {its : Array Value} {h h' : Heap} (k : ∀ a vs, h.get? a = some (tupO vs) → h'.get? a = some (tupO vs)) : ∀ {done : List (List Nat)} {as : List Addr}, Paired (fun ix a => h.get? a = some (tupO (pickV its ix))) done as → Paired (fun ix a => h'.get? a = some (tupO (pickV its ix))) done as
  | _, _, .nil => .nil
  | _, _, .cons q t => .cons (k _ _ q) (pair_keep k t)
theorem pair_snoc {α β : Type} {F : α → β → Prop} {x : α} {y : β} (q : F x y) : ∀ {done : List α} {as : List β}, Paired F done as → Paired F (done ++ [x]) (as ++ [y])
  | _, _, .nil => .cons q .nil
  | _, _, .cons p t => .cons p (pair_snoc q t)
theorem pair_has {its : Array Value} {h : Heap} : ∀ {done : List (List Nat)} {as : List Addr}, Paired (fun ix a => h.get? a = some (tupO (pickV its ix))) done as → ∀ a ∈ as, ∃ o, h.get? a = some o
  | _, _, .nil, _, m => nomatch m
  | _, _, .cons q t, a, m => (List.mem_cons.mp m).elim (fun e => by rw [e]; exact ⟨_, q⟩) (pair_has t a)
theorem Got.nil {h0 : Heap} {its : Array Value} {h : Heap} : Got h0 its h [] [] := ⟨[], rfl, List.nodup_nil, (fun _ m => nomatch m), .nil⟩
theorem Got.keep {h0 : Heap} {its : Array Value} {h h' : Heap} {done : List (List Nat)} {acc : List Value} (k : ∀ a vs, h.get? a = some (tupO vs) → h'.get? a = some (tupO vs)) (g : Got h0 its h done acc) : Got h0 its h' done acc := by
  obtain ⟨as, e, nd, fr, p⟩ := g
  exact ⟨as, e, nd, fr, pair_keep k p⟩
theorem Got.snoc {h0 : Heap} {its : Array Value} {h : Heap} {ix : List Nat} {a : Addr} {done : List (List Nat)} {acc : List Value} (q : h.get? a = some (tupO (pickV its ix))) (n0 : h0.get? a = none) (g : Got h0 its h done acc) (na : ∀ v ∈ acc, v ≠ .ref a) : Got h0 its h (done ++ [ix]) (acc ++ [.ref a]) := by
  obtain ⟨as, rfl, nd, fr, p⟩ := g
  refine ⟨as ++ [a], by simp, List.nodup_append.mpr ⟨nd, by simp, fun b m c mc z => ?_⟩, fun b m => ?_, pair_snoc (F := fun ix a => h.get? a = some (tupO (pickV its ix))) q p⟩
  · rw [List.mem_singleton.mp mc] at z
    exact na (.ref b) (List.mem_map_of_mem m) (by rw [z])
  · rcases List.mem_append.mp m with m | m
    · exact fr b m
    · rw [List.mem_singleton.mp m]; exact n0
theorem Got.len {h0 : Heap} {its : Array Value} {h : Heap} {done : List (List Nat)} {acc : List Value} (g : Got h0 its h done acc) : done.length = acc.length := by
  obtain ⟨as, rfl, nd, fr, p⟩ := g
  rw [List.length_map]; exact Paired.length p
theorem Got.has {h0 : Heap} {its : Array Value} {h : Heap} {done : List (List Nat)} {acc : List Value} (g : Got h0 its h done acc) {a : Addr} (n : h.get? a = none) : ∀ v ∈ acc, v ≠ .ref a := by
  obtain ⟨as, rfl, nd, fr, p⟩ := g
  intro v m e
  obtain ⟨b, mb, rfl⟩ := List.mem_map.mp m
  cases e
  obtain ⟨o, q⟩ := pair_has p a mb
  rw [n] at q; cases q
section
variable {prog : Program} {w : World} {A : Around} {E : Value → Shared → Prop} {s : Shared} {R : Result → Shared → Prop} {its : Array Value} {m T S : Addr} {res : Value}
abbrev LstAt (h : Heap) (S : Addr) (acc : Array Value) (c : Nat) : Prop := h.get? S = some { cls := .type "list", dict := none, data := .seq acc c, slots := #[] }
theorem keep_tup {h h' : Heap} {S m T : Addr} {acc : Array Value} {c : Nat} {st : Int} {last : Value} {idx : List Nat} (hS : LstAt h S acc c) (hm : IsCb h m T st last idx) (k : ∀ b o, b ≠ S → b ≠ m → h.get? b = some o → h'.get? b = some o) (a : Addr) (vs : List Value)
    (e : h.get? a = some (tupO vs)) : h'.get? a = some (tupO vs) := by
  refine k a _ (fun z => ?_) (fun z => ?_) e
  · rw [z, hS] at e
    injection e with e
    injection e with e1 _ _ _
    injection e1 with e1
    exact absurd e1 (by decide)
  · rw [z, hm] at e
    injection e with e
    injection e with e1 _ _ _
    injection e1 with e1
    exact absurd e1 (by decide)
theorem cb_loop {h0 : Heap} (hh : A.handled = none) (hmT : m ≠ T) (hSm : S ≠ m) (hST : S ≠ T) : ∀ (todo done : List (List Nat)) (st : Int) (idx : List Nat) (last : Value) (s : Shared) (acc : Array Value) (c : Nat), Todo its.size st idx todo → IsCb s.heap m T st last idx → IsPool s.heap T its →
    LstAt s.heap S acc c → Got h0 its s.heap done acc.toList → (∀ b o, h0.get? b = some o → ∃ o', s.heap.get? b = some o') → done.length + todo.length ≤ 1000000 →
    (∀ (h' : Heap) (acc' : Array Value) (c' : Nat), (∀ b o, b ≠ S → b ≠ m → s.heap.get? b = some o → h'.get? b = some o) → LstAt h' S acc' c' → Got h0 its h' (done ++ todo) acc'.toList → R (.ok (.ret res)) { s with heap := h' }) →
    codeAny (model prog w) A (.builtin "list.extend.loop" ⟨[.ref S, .ref m, res], []⟩) R s
  | [], done, st, idx, last, s, acc, c, td, hm, hT, hS, hg, h0k, hl, hR => by
    refine codeAny_builtin F.entry_extend_loop ?_
    rw [Around.under_plainId F.plain_extend_loop _]
    show wpAny _ A.in1 (pyNext (.ref m) >>= _) _ _ s
    have hs : (st = 1 ∧ stepC its.size idx = none) ∨ st = 2 := by
      cases td with
      | fin2 => exact .inr rfl
      | fin1 h => exact .inl ⟨rfl, h⟩
    refine wpAny_bind (cb_pyNext hm (cb_next_end (by exact hh) hm hT hmT hs fun h' e oe ex he hc => ⟨oe, e, rfl, he, hc, ?_⟩))
    refine wpAny_pure (hR h' acc c (fun b o _ hb q => ex b o hb q) (ex _ _ hSm hS) ?_)
    rw [List.append_nil]
    exact hg.keep (keep_tup hS hm fun b o _ hb q => ex b o hb q)
  | ix :: todo, done, st, idx, last, s, acc, c, td, hm, hT, hS, hg, h0k, hl, hR => by
    refine codeAny_builtin F.entry_extend_loop ?_
    rw [Around.under_plainId F.plain_extend_loop _]
    show wpAny _ A.in1 (pyNext (.ref m) >>= _) _ _ s
    have go : ∀ (h1 : Heap) (a : Addr) (idx' : List Nat), Todo its.size 1 idx' todo → (∀ b o, b ≠ m → s.heap.get? b = some o → h1.get? b = some o) → s.heap.get? a = none → h1.get? a = some (tupO (pickV its ix)) → IsCb h1 m T 1 (.ref a) idx' →
        wpAny (model prog w) A.in1 (do
          match some (Value.ref a) with
            | none => ret res
            | some v => do
              updateSeq S (·.push v)
              again (.builtin "list.extend.loop" ⟨[.ref S, .ref m, res], []⟩))
          (fun fin s' => match fin with | .done f => R (.ok f) s' | .again c' => c'.quiet = true ∧ codeAny (model prog w) A c' R s') (fun e s' => R (.error e) s') { s with heap := h1 } := fun h1 a idx' td' k ha hp hm1 => by
      have hS1 : LstAt h1 S acc c := k _ _ hSm hS
      have hT1 : IsPool h1 T its := k _ _ (Ne.symm hmT) hT
      have hlen : acc.size = done.length := by rw [← Array.length_toList, ← hg.len]
      show wpAny _ A.in1 (updateSeq S (·.push (.ref a)) >>= _) _ _ _
      refine wpAny_bind ?_
      have upd : ∀ b o, b ≠ S → h1.get? b = some o → (h1.update S (Obj.mapSeq (·.push (Value.ref a)))).get? b = some o := fun b o hb e => (Heap.get?_update_other _ _ (Ne.symm hb)).trans e
      refine wpAny_updateSeq (s := { s with heap := h1 }) hS1 rfl (wpAny_pure ⟨plainId_quiet F.plain_extend_loop _, ?_⟩) (by rw [hlen, sizeLine_eq]; simp only [List.length_cons] at hl; omega) (by show (acc.push _).size ≤ sizeLine + 1; rw [Array.size_push, hlen, sizeLine_eq]; simp only [List.length_cons] at hl; omega)
      have hS2 := Heap.get?_update_self (Obj.mapSeq (·.push (Value.ref a))) hS1 rfl
      refine cb_loop (h0 := h0) hh hmT hSm hST todo (done ++ [ix]) 1 idx' (.ref a) _ (acc.push (.ref a)) _ td' (upd _ _ (Ne.symm hSm) hm1) (upd _ _ (Ne.symm hST) hT1) hS2 ?_ (fun b o e => ?_) (by rw [List.length_append]; simp only [List.length_cons, List.length_nil] at hl ⊢; omega) fun h' acc' c' kk q1 q2 => ?_
      · rw [Array.toList_push]
        have aS : a ≠ S := fun z => by
          rw [z] at ha
          rw [hS] at ha; cases ha
        refine Got.snoc (upd _ _ aS hp) ?_ (hg.keep (keep_tup hS hm fun b o hb1 hb2 q => upd b o hb1 (k b o hb2 q))) (hg.has ha)
        cases q : h0.get? a with
        | none => rfl
        | some o =>
          obtain ⟨o', q'⟩ := h0k a o q
          rw [ha] at q'; cases q'
      · obtain ⟨o', q'⟩ := h0k b o e
        by_cases hb1 : b = S
        · rw [hb1]; exact ⟨_, hS2⟩
        · by_cases hb2 : b = m
          · rw [hb2]; exact ⟨_, upd _ _ (Ne.symm hSm) hm1⟩
          · exact ⟨_, upd b _ hb1 (k b _ hb2 q')⟩
      · refine hR h' acc' c' (fun b o hb1 hb2 q => kk b o hb1 hb2 (upd b o hb1 (k b o hb2 q))) q1 ?_
        rw [List.append_assoc] at q2
        exact q2
    cases td with
    | first h1000 td' => exact wpAny_bind (cb_pyNext hm (cb_next_first hm hT hmT h1000 fun h1 a k ha hp hm1 => go h1 a ix td' k ha hp hm1))
    | on hs h1000 td' => exact wpAny_bind (cb_pyNext hm (cb_next_on hm hT hmT hs h1000 fun h1 a k ha hp hm1 => go h1 a ix td' k ha hp hm1))
end
end PLC
namespace PLC
open PySem PySem.Spec PyProof.Rows L2
open PL (stepC cbFrom allC)
section
variable {prog : Program} {w : World} {A : Around} {E : Value → Shared → Prop} {s : Shared} {R : Result → Shared → Prop} {its : Array Value} {m T S : Addr} {res : Value}
theorem cb_extend {h0 : Heap} (h0k : ∀ b o, h0.get? b = some o → ∃ o', s.heap.get? b = some o') (hh : A.handled = none) (hmT : m ≠ T) (hSm : S ≠ m) (hST : S ≠ T) {todo : List (List Nat)} {st : Int} {idx : List Nat} {last : Value} {c₀ : Nat} (td : Todo its.size st idx todo) (hm : IsCb s.heap m T st last idx) (hT : IsPool s.heap T its) (hS : LstAt s.heap S #[] c₀) (hl : todo.length ≤ 1000000)
    (hR : ∀ (h' : Heap) (acc' : Array Value) (c' : Nat), (∀ b o, b ≠ S → b ≠ m → s.heap.get? b = some o → h'.get? b = some o) → LstAt h' S acc' c' → Got h0 its h' todo acc'.toList → R (.ok (.ret res)) { s with heap := h' }) :
    wpAny (model prog w) A.in1 (Builtin.List.listExtendWith (.ref S) (.ref m) res)
      (fun fin s' => match fin with | .done f => R (.ok f) s' | .again c' => c'.quiet = true ∧ codeAny (model prog w) A c' R s') (fun e s' => R (.error e) s') s := by
  have hTy : s.TypeIs (.ref m) "itertools.combinations" := ⟨_, hm, rfl⟩
  unfold Builtin.List.listExtendWith
  refine wpAny_bind (wpAny_typeOf hTy ?_)
  have h1 : Builtin.List.listSameRef (.ref S) (.ref m) = false := by simp [Builtin.List.listSameRef, hSm]
  have h2 : (Value.type "itertools.combinations" == Value.type "list") = false := by decide
  have h3 : (Value.type "itertools.combinations" == Value.type "tuple") = false := by decide
  simp only [h1, h2, h3, Bool.or_false, Bool.false_eq_true, if_false]
  refine wpAny_bind (cb_pyIter hm ?_)
  refine wpAny_bind (wpAny_holding ?_)
  unfold Builtin.List.listLengthHint
  refine wpAny_bind (wpAny_specialOf hTy nolen_cb ?_)
  show wpAny _ A.in1 (specialOf (Value.ref m) (Str.ofString "__length_hint__") >>= _) _ _ _
  refine wpAny_bind (wpAny_specialOf hTy nohint_cb ?_)
  refine wpAny_pure ?_
  show wpAny _ A.in1 (rule "list.extend.makes-room" >>= fun _ => Builtin.List.listTouch (.ref S) >>= fun _ =>
    again (.builtin "list.extend.loop" ⟨[.ref S, .ref m, res], []⟩)) _ _ _
  refine wpAny_bind (wpAny_rule ?_)
  refine wpAny_bind ?_
  show wpAny _ A.in1 (updateSeq S (·.push .none) >>= fun _ => updateSeq S (·.pop)) _ _ _
  refine wpAny_bind (wpAny_updateSeq hS rfl ?_)
  have hS₂ := Heap.get?_update_self (Obj.mapSeq (·.push Value.none)) hS rfl
  refine wpAny_updateSeq (hz := by seq_fits) hS₂ rfl ?_
  have hS₃ := Heap.get?_update_self (Obj.mapSeq (·.pop)) hS₂ rfl
  have oth : ∀ b o, b ≠ S → s.heap.get? b = some o → ((s.heap.update S (Obj.mapSeq (·.push Value.none))).update S (Obj.mapSeq (·.pop))).get? b = some o :=
    fun b o hb e => (Heap.get?_update_other _ _ (Ne.symm hb)).trans ((Heap.get?_update_other _ _ (Ne.symm hb)).trans e)
  refine wpAny_pure ⟨plainId_quiet F.plain_extend_loop _, cb_loop hh hmT hSm hST todo [] st idx last _ #[] _ td (oth _ _ (Ne.symm hSm) hm) (oth _ _ (Ne.symm hST) hT) hS₃ Got.nil (fun b o e => by
    obtain ⟨o', q'⟩ := h0k b o e
    by_cases hb1 : b = S
    · rw [hb1]; exact ⟨_, hS₃⟩
    · exact ⟨_, oth b _ hb1 q'⟩) (by simpa using hl) fun h' acc' c' k q1 q2 => ?_⟩
  exact hR h' acc' c' (fun b o hb1 hb2 q => k b o hb1 hb2 (oth b o hb1 q)) q1 (by simpa using q2)
theorem cb_list_init {h0 : Heap} (h0k : ∀ b o, h0.get? b = some o → ∃ o', s.heap.get? b = some o') (hh : A.handled = none) (hmT : m ≠ T) (hSm : S ≠ m) (hST : S ≠ T) {todo : List (List Nat)} {st : Int} {idx : List Nat} {last : Value} (td : Todo its.size st idx todo) (hm : IsCb s.heap m T st last idx) (hT : IsPool s.heap T its) (hS : s.heap.get? S = some { cls := .type "list", data := .seq #[] }) (hl : todo.length ≤ 1000000)
    (hR : ∀ (h' : Heap) (acc' : Array Value) (c' : Nat), (∀ b o, b ≠ S → b ≠ m → s.heap.get? b = some o → h'.get? b = some o) → LstAt h' S acc' c' → Got h0 its h' todo acc'.toList → R (.ok (.ret .none)) { s with heap := h' }) :
    wpAny (model prog w) A.in1 (Builtin.«list.__init__» ⟨[.ref S, .ref m], []⟩)
      (fun fin s' => match fin with | .done f => R (.ok f) s' | .again c' => c'.quiet = true ∧ codeAny (model prog w) A c' R s') (fun e s' => R (.error e) s') s := by
  show wpAny _ A.in1 (do let old ← Builtin.List.listItems (.ref S); Builtin.List.listUpdate (.ref S) (fun _ => #[]); letGo old.toList.reverse; Builtin.List.listExtendWith (.ref S) (.ref m) .none) _ _ s
  refine wpAny_bind ?_
  unfold Builtin.List.listItems
  refine wpAny_bind (wpAny_seqItems hS rfl (wpAny_pure ?_))
  show wpAny _ A.in1 (updateSeq S (fun _ => #[]) >>= fun _ => letGo (#[] : Array Value).toList.reverse >>= fun _ => Builtin.List.listExtendWith (.ref S) (.ref m) .none) _ _ s
  refine wpAny_bind (wpAny_updateSeq hS rfl ?_)
  have hS₂ := Heap.get?_update_self (Obj.mapSeq (fun _ => (#[] : Array Value))) hS rfl
  have oth : ∀ b o, b ≠ S → s.heap.get? b = some o → (s.heap.update S (Obj.mapSeq (fun _ => (#[] : Array Value)))).get? b = some o :=
    fun b o hb e => (Heap.get?_update_other _ _ (Ne.symm hb)).trans e
  refine wpAny_bind (wpAny_letGo ?_)
  exact cb_extend (fun b o e => by
    obtain ⟨o', q'⟩ := h0k b o e
    by_cases hb1 : b = S
    · rw [hb1]; exact ⟨_, hS₂⟩
    · exact ⟨_, oth b _ hb1 q'⟩) hh hmT hSm hST td (oth _ _ (Ne.symm hSm) hm) (oth _ _ (Ne.symm hST) hT) hS₂ hl fun h' acc' c' k q1 q2 => hR h' acc' c' (fun b o hb1 hb2 q => k b o hb1 hb2 (oth b o hb1 q)) q1 q2
/-- list(combinations object) -/
theorem call_list_cb {Q : Value → Shared → Prop} {h0 : Heap} (h0k : ∀ b o, h0.get? b = some o → ∃ o', s.heap.get? b = some o') (hh : A.handled = none) (hmT : m ≠ T) {todo : List (List Nat)} {st : Int} {idx : List Nat} {last : Value} (td : Todo its.size st idx todo) (hm : IsCb s.heap m T st last idx) (hT : IsPool s.heap T its) (hl : todo.length ≤ 1000000)
    (hQ : ∀ (h' : Heap) (acc' : Array Value) (c' : Nat), (∀ b o, b ≠ m → s.heap.get? b = some o → h'.get? b = some o) → LstAt h' s.heap.objs.size acc' c' → Got h0 its h' todo acc'.toList → Q (.ref s.heap.objs.size) { s with heap := h' }) :
    wpAny (model prog w) A (call (.type "list") [.ref m]) Q E s := by
  refine callType_codes (Q₁ := fun obj s₁ => obj = .ref s.heap.objs.size ∧ s₁ = { s with heap := s.heap.push { cls := .type "list", data := .seq #[] } }) F.called_list (F.typeCall_list_1 _) F.entry_list_init
    (code_list_new _ ⟨rfl, rfl⟩) fun obj s₁ h₁ => ?_
  obtain ⟨rfl, rfl⟩ := h₁
  have hS : (s.heap.push { cls := .type "list", data := .seq #[] }).get? s.heap.objs.size = some { cls := .type "list", data := .seq #[] } := Heap.get?_push_size _ rfl
  have ne : ∀ {a : Addr} {o : Obj}, s.heap.get? a = some o → s.heap.objs.size ≠ a := fun e => Nat.ne_of_gt (Heap.lt_size e)
  refine ⟨⟨_, hS, rfl⟩, F.args_list_init_2 _ _, cb_list_init (s := { s with heap := s.heap.push { cls := .type "list", data := .seq #[] } }) (fun b o e => (h0k b o e).elim fun o' q => ⟨_, Heap.get?_push_of_some _ q⟩) (by exact hh) hmT (ne hm) (ne hT) td (Heap.get?_push_of_some _ hm) (Heap.get?_push_of_some _ hT) hS hl fun h' acc' c' k q1 q2 => ?_⟩
  exact ⟨rfl, hQ h' acc' c' (fun b o hb q => k b o (Ne.symm (ne q)) hb (Heap.get?_push_of_some _ q)) q1 q2⟩
end
/-! ### as data -/
theorem stepC_len {n : Nat} {idx nx : List Nat} (h : stepC n idx = some nx) : nx.length = idx.length := by
  unfold stepC at h
  dsimp only at h
  split at h
  · cases h
  · rename_i i hi
    cases h
    have := List.mem_of_find?_eq_some hi
    rw [List.mem_reverse, List.mem_range] at this
    rw [List.length_append, List.length_take, List.length_map, List.length_range]
    omega
theorem todo_from {n : Nat} : ∀ {f : Nat} {idx : List Nat} {l : List (List Nat)}, idx.length ≤ 1000 → cbFrom n f idx = some l → Todo n 1 idx l ∧ l.length ≤ f
  | 0, _, _, _, h => by cases h
  | f + 1, idx, l, hl, h => by
    unfold cbFrom at h
    split at h
    · rename_i hs
      cases h
      exact ⟨.fin1 hs, Nat.zero_le _⟩
    · rename_i nx hs
      obtain ⟨l', h', rfl⟩ := Option.map_eq_some_iff.mp h
      have hl' : nx.length ≤ 1000 := by rw [stepC_len hs]; exact hl
      obtain ⟨q1, q2⟩ := todo_from hl' h'
      exact ⟨.on hs hl' q1, Nat.succ_le_succ q2⟩
theorem todo_all {n r : Nat} {l : List (List Nat)} (hr : r ≤ 1000) (h : allC n r = some l) : Todo n (if r > n then 2 else 0) (List.range r) l ∧ l.length ≤ 2 ^ n + 1 := by
  unfold allC at h
  split at h
  · rename_i hrn
    cases h
    rw [if_pos hrn]
    exact ⟨.fin2, Nat.zero_le _⟩
  · rename_i hrn
    obtain ⟨l', h', rfl⟩ := Option.map_eq_some_iff.mp h
    rw [if_neg hrn]
    have hl : (List.range r).length ≤ 1000 := by rw [List.length_range]; exact hr
    obtain ⟨q1, q2⟩ := todo_from hl h'
    exact ⟨.first hl q1, Nat.succ_le_succ q2⟩
theorem from_len {n : Nat} : ∀ {f : Nat} {idx : List Nat} {l : List (List Nat)}, cbFrom n f idx = some l → ∀ ix ∈ l, ix.length = idx.length
  | 0, _, _, h => by cases h
  | f + 1, idx, l, h => by
    unfold cbFrom at h
    split at h
    · cases h
      exact fun _ m => nomatch m
    · rename_i nx hs
      obtain ⟨l', h', rfl⟩ := Option.map_eq_some_iff.mp h
      intro ix m
      rcases List.mem_cons.mp m with e | m
      · rw [e]; exact stepC_len hs
      · rw [from_len h' ix m]; exact stepC_len hs
theorem all_len {n r : Nat} {l : List (List Nat)} (h : allC n r = some l) : ∀ ix ∈ l, ix.length = r := by
  unfold allC at h
  split at h
  · cases h
    exact fun _ m => nomatch m
  · obtain ⟨l', h', rfl⟩ := Option.map_eq_some_iff.mp h
    intro ix m
    rcases List.mem_cons.mp m with e | m
    · rw [e]; exact List.length_range
    · rw [from_len h' ix m]; exact List.length_range
end PLC
namespace PLC
open PySem PySem.Spec PyProof.Rows L2
open PL (stepC cbFrom allC)

/-! ### new things that stand are tracked -/
theorem Inv.track {X : Cx} {pins : List (Addr × Obj)} {σ : L2.St} {H H1 : Hp} {s : Shared} {h' : Heap} {tk : Nat} (I : Inv X pins σ H s) (k : ∀ b o, s.heap.get? b = some o → h'.get? b = some o) (old : ∀ b o, s.heap.get? b = some o → H1 b = H b)
    (new : ∀ b o, H1 b = some o → s.heap.get? b = none → ObjOk X.prog X.w H1 h' b o) : Inv X pins σ H1 { s with heap := h', toks := tk } := by
  have inH : ∀ b o, H b = some o → H1 b = some o := fun b o e => by
    obtain ⟨u, q⟩ := objOk_get (I.hok b o e)
    rw [old b u q]; exact e
  refine I.un ⟨fun b o q _ _ _ => k b o q, fun b o q _ _ _ => ⟨o.slots, k b o q⟩, fun b o q n _ => by rw [old b o q]; exact n, fun b o q _ => ⟨o, k b o q⟩, fun b xs q => inH b _ q, fun b o u q => inH b _ q, fun b ps q => ⟨#[], by rw [inH b _ q, Array.append_empty]⟩⟩ fun b o e => ?_
  cases q : s.heap.get? b with
  | none => exact new b o e q
  | some u =>
    rw [old b u q] at e
    exact (I.hok b o e).stay (fun c v _ z => k c v z) (fun c z => inH c _ z) fun c xs z => inH c _ z
def rComb (K : PySem.W.Frag) : R2 := fun x y H Q => ∃ (p : Addr) (xs : List V) (r : Nat) (l : List (List Nat)), x = .ref p ∧ y = .int r ∧ SqL K H p xs ∧ xs.length ≤ 12 ∧ r ≤ 1000 ∧ PL.allC xs.length r = some l ∧ (∀ ix ∈ l, ix.length ≤ 1000) ∧
  ∀ (as : List Addr) (q : Addr) (H' : Hp), as.Nodup → (∀ a ∈ as, H a = none) → H q = none → ¬ q ∈ as → Same H H' → H' q = some (.lst (as.map V.ref)) → Paired (fun ix a => PL.TupR H' a (ix.map fun i => xs.getD i .non)) l as → Q (.ref q) H'
theorem getD_rel {xs : List V} {us : List Value} (r : Vals xs us) (i : Nat) : RelV (xs.getD i .non) (us.getD i .none) := by
  cases e : xs[i]? with
  | none =>
    have e2 := r.none_of e
    simp only [List.getD_eq_getElem?_getD, e, e2, Option.getD_none]
    rfl
  | some x =>
    obtain ⟨u, e2, ru⟩ := r.get e
    simp only [List.getD_eq_getElem?_getD, e, e2, Option.getD_some]
    exact ru
theorem pick_rel {xs : List V} {us : List Value} (r : Vals xs us) : ∀ ix : List Nat, Vals (ix.map fun i => xs.getD i .non) (pickV us.toArray ix)
  | [] => .nil
  | i :: ix => .cons (by
      have e : us.toArray.getD i .none = us.getD i .none := by simp [Array.getD_eq_getD_getElem?, List.getD_eq_getElem?_getD]
      show RelV _ (us.toArray.getD i .none)
      rw [e]; exact getD_rel r i) (pick_rel r ix)
theorem zip_look {α : Type} : ∀ {l : List α} {as : List Addr}, as.Nodup → Paired (fun ix a => (as.zip l).lookup a = some ix) l as ∨ l.length ≠ as.length
  | [], [], _ => .inl .nil
  | [], _ :: _, _ => .inr (by simp)
  | _ :: _, [], _ => .inr (by simp)
  | x :: l, a :: as, nd => by
    obtain ⟨n1, n2⟩ := List.nodup_cons.mp nd
    rcases zip_look (l := l) n2 with h | h
    · refine .inl (.cons (by simp) ?_)
      have go : ∀ {l' : List α} {as' : List Addr}, (∀ b ∈ as', b ≠ a) → Paired (fun ix a => (as.zip l).lookup a = some ix) l' as' → Paired (fun ix b => ((a :: as).zip (x :: l)).lookup b = some ix) l' as' := by
        intro l' as' hne hp
        induction hp with
        | nil => exact .nil
        | cons q t ih =>
          refine .cons ?_ (ih fun b m => hne b (List.mem_cons_of_mem _ m))
          rw [List.zip_cons_cons, List.lookup_cons]
          have := hne _ List.mem_cons_self
          rw [show (_ == a) = false from beq_false_of_ne this]
          exact q
      exact go (fun b m z => n1 (by rw [← z]; exact m)) h
    · exact .inr (by simpa using h)
theorem look_mem {α : Type} : ∀ {l : List α} {as : List Addr} {a : Addr} {x : α}, (as.zip l).lookup a = some x → a ∈ as ∧ x ∈ l
  | [], [], _, _, h => by simp at h
  | [], _ :: _, _, _, h => by simp at h
  | _ :: _, [], _, _, h => by simp at h
  | y :: l, b :: as, a, x, h => by
    rw [List.zip_cons_cons, List.lookup_cons] at h
    split at h
    · rename_i e
      cases h
      exact ⟨by rw [eq_of_beq e]; exact List.mem_cons_self, List.mem_cons_self⟩
    · obtain ⟨q1, q2⟩ := look_mem h
      exact ⟨List.mem_cons_of_mem _ q1, List.mem_cons_of_mem _ q2⟩
theorem pair_at {α β : Type} {F G : α → β → Prop} {W : α → β → Prop} (h : ∀ a b, F a b → G a b → W a b) : ∀ {l : List α} {m : List β}, Paired F l m → Paired G l m → Paired W l m
  | _, _, .nil, .nil => .nil
  | _, _, .cons p t, .cons q u => .cons (h _ _ p q) (pair_at h t u)
theorem pair_of_mem {α : Type} {F : α → Addr → Prop} : ∀ {l : List α} {as : List Addr} {a : Addr} {x : α}, Paired F l as → (as.zip l).lookup a = some x → F x a
  | _, _, a, x, .nil, h => by simp at h
  | _, _, a, x, .cons p t, h => by
    rw [List.zip_cons_cons, List.lookup_cons] at h
    split at h
    · rename_i e
      cases h
      rw [eq_of_beq e]; exact p
    · exact pair_of_mem t h
theorem pair_mem {α β : Type} {F : α → β → Prop} : ∀ {l : List α} {m : List β} {b : β}, Paired F l m → b ∈ m → ∃ a, F a b
  | _, _, _, .nil, h => nomatch h
  | _, _, _, .cons p t, h => (List.mem_cons.mp h).elim (fun e => by rw [e]; exact ⟨_, p⟩) (pair_mem t)
theorem vals_refs : ∀ as : List Addr, Vals (as.map V.ref) (as.map Value.ref)
  | [] => .nil
  | a :: as => .cons rfl (vals_refs as)
section
variable {X : Cx} {a b : Expr} {ta tb : TE} {p p2 pos pos2 : Pos}
theorem pe_comb (hc : X.calm = true) (hg : Gl X "list") (hm : X.mg "list" = none) (hg2 : Gl X "combinations") (hm2 : X.mg "combinations" = some (.type "itertools.combinations")) (ha : PE X a ta) (hb : PE X b tb)
    (na : starEach [a, b] X.env = (false, eval a X.env) :: starEach [b] X.env) (nb : starEach [b] X.env = (false, eval b X.env) :: starEach [] X.env) :
    PE X (.Call (.Name "list" p) [.Call (.Name "combinations" p2) [a, b] [] pos2] [] pos) (tOp (rComb X.K) ta tb) := by
  refine ⟨fun pins s σ H Q I h => ?_⟩
  have hp : (backTo pos2 (starEach [b] X.env)).any (·.1) = false := by rw [nb]; rfl
  refine Call_ (ld_blt I hg hm boot_list (PyProof.Rows.callWith_type1 (args_cons (Call_ (ld_glob I hg2 hm2 (PyProof.Rows.callWith_type1 (args_cons (thn (ha.run pins s σ H _ I h) fun v s1 ⟨x, H1, I1, r1, q1⟩ => one_arg hb I1 q1 (fun u s2 y H2 I2 r2 q => ?_) nb) na) na hp) (by decide))) rfl) rfl))
  obtain ⟨l, xs, r, cl, rfl, rfl, hq, hn, hr, hall, hix, q⟩ := q
  obtain rfl : v = .ref l := r1
  obtain ⟨t, rfl⟩ := r2
  obtain ⟨its, rv, ⟨o, n, e1, e2, e3, e4⟩, hz⟩ := I2.list hq
  have hlen : its.toArray.size = xs.length := by rw [List.size_toArray, ← rv.length]
  refine call_cb (its := its.toArray) hr (by rw [hlen]; omega) ⟨"list", o, n, .inl rfl, e1, e2, e4⟩ fun h1 m T k hnm hmT hT hm1 => args_nil ?_
  have td := todo_all hr (by rw [← hlen] at hall; exact hall)
  have k0 : ∀ b o, s2.heap.get? b = some o → ∃ o', h1.get? b = some o' := fun b o e => ⟨o, k b o e⟩
  have hlt : cl.length ≤ 1000000 := by
    have h2 := td.2
    rw [hlen] at h2
    have : 2 ^ xs.length ≤ 2 ^ 12 := Nat.pow_le_pow_right (by omega) hn
    omega
  refine call_list_cb (s := { s2 with heap := h1 }) (h0 := s2.heap) k0 (I2.ok.hd hc) hmT td.1 hm1 hT hlt fun h2 acc c kk hS hg => ?_
  obtain ⟨as, eacc, nd, fr, hp2⟩ := hg
  have kept : ∀ b o, s2.heap.get? b = some o → h2.get? b = some o := fun b o e => kk b o (fun z => by rw [z, hnm] at e; cases e) (k b o e)
  have noH : ∀ b, s2.heap.get? b = none → H2 b = none := fun b e => by
    cases z : H2 b with
    | none => rfl
    | some u =>
      obtain ⟨u', z'⟩ := objOk_get (I2.hok b u z)
      rw [e] at z'; cases z'
  have qn : s2.heap.get? h1.objs.size = none := by
    cases z : s2.heap.get? h1.objs.size with
    | none => rfl
    | some u => exact absurd (Heap.lt_size (k _ _ z)) (Nat.lt_irrefl _)
  have qas : ¬ h1.objs.size ∈ as := fun mm => by
    obtain ⟨u, z⟩ := pair_has hp2 _ mm
    have : LstAt h2 h1.objs.size acc c := hS
    obtain ⟨ix, z2⟩ := pair_mem hp2 mm
    have hS' : h2.get? h1.objs.size = some { cls := .type "list", dict := none, data := .seq acc c, slots := #[] } := hS
    rw [hS'] at z2
    injection z2 with z2
    injection z2 with z3 _ _ _
    injection z3 with z3
    exact absurd z3 (by decide)
  let H' : Hp := fun b => if b = h1.objs.size then some (.lst (as.map V.ref)) else match (as.zip cl).lookup b with
    | some ix => some (.frz (PL.tupO (pickV its.toArray ix).toArray) (.tup (ix.map fun i => xs.getD i .non)))
    | none => H2 b
  have Hq : H' h1.objs.size = some (.lst (as.map V.ref)) := if_pos rfl
  have Has : ∀ b ix, (as.zip cl).lookup b = some ix → H' b = some (.frz (PL.tupO (pickV its.toArray ix).toArray) (.tup (ix.map fun i => xs.getD i .non))) := fun b ix e => by
    have ne : b ≠ h1.objs.size := fun z => qas (by rw [← z]; exact (look_mem e).1)
    show (if b = h1.objs.size then _ else _) = _
    rw [if_neg ne, e]
  have Hold : ∀ b, b ≠ h1.objs.size → ¬ b ∈ as → H' b = H2 b := fun b n1 n2 => by
    show (if b = h1.objs.size then _ else _) = _
    rw [if_neg n1]
    cases z : (as.zip cl).lookup b with
    | none => rfl
    | some ix => exact absurd (look_mem z).1 n2
  have I3 : Inv X pins σ H' { s2 with heap := h2, toks := s2.toks } := by
    refine Inv.track I2 kept (fun b o e => Hold b (fun z => by rw [z, qn] at e; cases e) (fun mm => by rw [fr b mm] at e; cases e)) fun b o e z => ?_
    by_cases hb : b = h1.objs.size
    · subst hb
      rw [Hq] at e
      cases e
      have hacc : acc = (as.map Value.ref).toArray := by rw [← eacc]
      refine ⟨?_, as.map Value.ref, c, vals_refs as, ?_⟩
      · rw [List.length_map, ← Paired.length hp2, sizeLine_eq]; omega
      · have hS' : h2.get? h1.objs.size = some { cls := .type "list", dict := none, data := .seq acc c, slots := #[] } := hS
        rw [hacc] at hS'
        exact hS'
    · cases y : (as.zip cl).lookup b with
      | none =>
        have e' : H' b = H2 b := by
          show (if b = h1.objs.size then _ else _) = _
          rw [if_neg hb, y]
        rw [e', noH b z] at e
        cases e
      | some ix =>
        rw [Has b ix y] at e
        cases e
        have hpb := pair_of_mem hp2 y
        refine ⟨hpb, ?_, pickV its.toArray ix, pick_rel rv ix, ⟨_, hpb, rfl, _, rfl⟩⟩
        rw [List.length_map, sizeLine_eq]
        have := hix ix (look_mem y).2
        omega
  have hl2 : cl.length = as.length := Paired.length hp2
  refine ⟨.ref h1.objs.size, H', I3, rfl, q as h1.objs.size H' nd (fun a m => noH a (fr a m)) (noH _ qn) qas (fun b o e => ?_) Hq ?_⟩
  · have : ∃ u, s2.heap.get? b = some u := objOk_get (I2.hok b o e)
    obtain ⟨u, hu⟩ := this
    rw [Hold b (fun z => by rw [z, qn] at hu; cases hu) (fun mm => by rw [fr b mm] at hu; cases hu)]
    exact e
  · rcases zip_look (l := cl) nd with h | h
    · have mp : ∀ {l : List (List Nat)} {m : List Addr}, Paired (fun ix a => (as.zip cl).lookup a = some ix) l m → Paired (fun ix a => PL.TupR H' a (ix.map fun i => xs.getD i .non)) l m := by
        intro l m hp
        induction hp with
        | nil => exact .nil
        | cons p t ih => exact .cons ⟨_, Has _ _ p, PL.tupO_ok _⟩ ih
      exact mp h
    · exact absurd hl2 h
end
end PLC
namespace PL
open PySem PySem.Spec PyProof.Rows L2 PLC
theorem getD_rep {K : PySem.W.Frag} {T : Ts} {H : Hp} {vs : List V} {ds : List D} (r : RepL K T H vs ds []) (i : Nat) : Rep K T H (vs.getD i .non) (ds.getD i .non) [] := by
  cases e : ds[i]? with
  | none =>
    have e2 : vs[i]? = none := by
      have := r.length
      have := List.getElem?_eq_none_iff.mp e
      exact List.getElem?_eq_none_iff.mpr (by omega)
    simp only [List.getD_eq_getElem?_getD, e, e2, Option.getD_none]
    exact .non
  | some d =>
    obtain ⟨v, S', e2, h, hs⟩ := r.get e
    have eS : S' = [] := List.sublist_nil.mp hs
    subst eS
    simp only [List.getD_eq_getElem?_getD, e, e2, Option.getD_some]
    exact h
theorem picks_rep {K : PySem.W.Frag} {T : Ts} {H : Hp} {vs : List V} {ds : List D} (r : RepL K T H vs ds []) : ∀ ix : List Nat, RepL K T H (ix.map fun i => vs.getD i .non) (ix.map fun i => ds.getD i .non) []
  | [] => .nil
  | i :: ix => RepL.cons (S := []) (S' := []) (getD_rep r i) (picks_rep r ix)
theorem tups_rep {K : PySem.W.Frag} {T : Ts} {H : Hp} {vs : List V} {ds : List D} (r : RepL K T H vs ds []) : ∀ {l : List (List Nat)} {as : List Addr}, Paired (fun ix a => TupR H a (ix.map fun i => vs.getD i .non)) l as → RepL K T H (as.map V.ref) (l.map (pickD ds)) []
  | _, _, .nil => .nil
  | _, _, .cons q t => RepL.cons (S := []) (S' := []) (.tup q (picks_rep r _)) (tups_rep r t)
theorem rd_comb {K : PySem.W.Frag} {ca : Cls_} {W : WX} {fa fb : Env → M D} {σ : L2.St} {H : Hp} {Q : VK} (w : TEv K ca W (fun env => M.bind (fa env) fun x => M.bind (fb env) fun y => M.ofOpt (combD x y)) σ H Q) : tOp (rComb K) (TEv K ca W fa) (TEv K ca W fb) σ H Q := by
  obtain ⟨T, env, st, eb, so, w⟩ := w
  refine ⟨T, env, st, eb, so, w.bind fun d1 st1 h1 w1 v1 H1 S1 e1 s1 r1 f1 => ?_⟩
  refine ⟨T, env, st1, eb.ext e1, s1, (w1.ext e1 s1).bind fun d2 st2 h2 w2 v2 H2 S2 e2 s2 r2 f2 => ?_⟩
  obtain ⟨g, hg, q⟩ := w2.opt
  cases d1 with
  | lst m ds =>
    cases d2 with
    | int i =>
      simp only [combD] at hg
      split at hg
      · rename_i hc
        simp only [Bool.and_eq_true, decide_eq_true_eq] at hc
        obtain ⟨l, hl, rfl⟩ := Option.map_eq_some_iff.mp hg
        obtain ⟨rfl, _⟩ := r2.intI
        obtain ⟨p, xs, S', rfl, p1, q1, _⟩ := (r1.ext e2).sq
        have q2 := q1.bw
        have hlen := q1.length
        refine ⟨p, xs, i.toNat, l, rfl, by rw [Int.toNat_of_nonneg hc.1.2], p1, by rw [hlen]; exact hc.1.1, by omega, by rw [hlen]; exact hl, fun ix m => by rw [all_len hl ix m]; omega, fun as b H' nd fr hb nb sm Hb Has => ?_⟩
        have ex := Ext.of_same (T := T) sm
        exact q _ H' [b] ((e1.trans e2).trans ex) (s2.same sm) (.own Hb (s2.fresh hb) (tups_rep (q2.ext ex) Has)) ⟨nodup_one b, fun c m => by rw [List.mem_singleton.mp m]; exact free_back (e1.trans e2) s2 hb⟩
      · cases hg
    | _ => cases hg
  | _ => cases hg
theorem sv_comb {X : Cx} {ca : Cls_} {W : WX} {a b : Expr} {p p2 pos pos2 : Pos} {fa fb : Env → M D} (hc : X.calm = true) (hg : Gl X "list") (hm : X.mg "list" = none) (hg2 : Gl X "combinations") (hm2 : X.mg "combinations" = some (.type "itertools.combinations")) (ha : PE X a (TEv X.K ca W fa)) (hb : PE X b (TEv X.K ca W fb))
    (na : starEach [a, b] X.env = (false, eval a X.env) :: starEach [b] X.env) (nb : starEach [b] X.env = (false, eval b X.env) :: starEach [] X.env) :
    PE X (.Call (.Name "list" p) [.Call (.Name "combinations" p2) [a, b] [] pos2] [] pos) (TEv X.K ca W fun env => M.bind (fa env) fun x => M.bind (fb env) fun y => M.ofOpt (combD x y)) :=
  PE.mono (pe_comb hc hg hm hg2 hm2 ha hb na nb) fun _ _ _ w => rd_comb w
end PL
/-! methods of tuples and lists that answer ints: index, count -/
namespace PL
open PySem PySem.Spec PyProof.Rows L2
def tupV (x : V) (H : Hp) : Prop := ∃ p xs, x = .ref p ∧ TupR H p xs
/-- t.index(i) -/
def rIdxT (K : PySem.W.Frag) : V → List V → Hp → VK → Prop := fun x xs H Q => ∃ (p : Addr) (ns : List Int) (i : Int), x = .ref p ∧ xs = [.int i] ∧ SqT K H p (ns.map V.int) ∧ i ∈ ns ∧ Q (.int (ns.idxOf i : Nat)) H
theorem mt_idxT {X : Cx} : MtR X "tuple.index" (rIdxT X.K) := by
  intro pins s σ H x xs v us Q I rx rxs h
  obtain ⟨p, ns, i, rfl, rfl, hs, hi, q⟩ := h
  cases rx
  obtain ⟨u, rfl, ru⟩ := rxs.one
  obtain ⟨t, rfl⟩ := ru
  obtain ⟨its, rv, hl, _⟩ := I.tuple hs
  exact SeqAt.tuple_index_ints hl rv.ints hi ⟨.int _, H, I.kept (t' := s.toks + 1) fun _ _ e => e, ⟨_, rfl⟩, q⟩
/-- t.count(i) -/
def rCntT (K : PySem.W.Frag) : V → List V → Hp → VK → Prop := fun x xs H Q => ∃ (p : Addr) (ns : List Int) (i : Int), x = .ref p ∧ xs = [.int i] ∧ SqT K H p (ns.map V.int) ∧ Q (.int (ns.count i : Nat)) H
theorem count_is {i : Int} : ∀ {vs : List Value} {ns : List Int}, IntsAre vs ns → vs.countP (isInt i) = ns.count i
  | _, _, .nil => rfl
  | _, _, .cons k t r => by
    rw [List.countP_cons, List.count_cons, count_is r]
    rfl
theorem mt_cntT {X : Cx} : MtR X "tuple.count" (rCntT X.K) := by
  intro pins s σ H x xs v us Q I rx rxs h
  obtain ⟨p, ns, i, rfl, rfl, hs, q⟩ := h
  cases rx
  obtain ⟨u, rfl, ru⟩ := rxs.one
  obtain ⟨t, rfl⟩ := ru
  obtain ⟨its, rv, hl, _⟩ := I.tuple hs
  obtain ⟨⟨cls, dd, data, sl⟩, ho, hc, n, hd⟩ := id hl
  simp only at hc hd
  subst hc hd
  refine call_meets F.slot_tuple_count ⟨_, ho, rfl⟩ F.entry_tuple_count (F.args_tuple_count_2 _ _) (SeqAt.tuple_countAt p its.toArray n dd sl (.int i t) (isInt i)) ⟨ho, fun y hy => (eq_isInt i t rv.ints y (by simpa using hy)).at X.A.in1 s, ?_⟩
  refine ⟨.int _, H, I.kept (t' := s.toks + 1) fun _ _ e => e, ⟨_, rfl⟩, ?_⟩
  show Q (.int ((its.toArray.toList.countP (isInt i) : Nat) : Int)) H
  rw [show its.toArray.toList = its from rfl, count_is rv.ints]
  exact q
/-- what a method is called of -/
def okObj : Expr → Bool
  | .Name .. => true | .Subscript .. => true | _ => false
/-- which method -/
def mthN : Mth → Str
  | .index => "index" | .count => "count"
def rMth (K : PySem.W.Frag) : Mth → V → List V → Hp → VK → Prop
  | .index => fun x xs H Q => rIdxT K x xs H Q
  | .count => fun x xs H Q => rCntT K x xs H Q
/-- o.m(x), o a list or a tuple -/
def tMth (K : PySem.W.Frag) (m : Mth) (to : TE) (t : TA) : TE := fun σ H Q => to σ H fun x H1 =>
  (m = .index ∧ (∃ p xs, x = .ref p ∧ SqL K H1 p xs) ∧ t σ H1 fun xs H2 => rIndexD K x xs H2 Q) ∨ (tupV x H1 ∧ t σ H1 fun xs H2 => rMth K m x xs H2 Q)
section
variable {X : Cx} {o e : Expr} {es : List Expr} {to : TE} {t : TA} {m : Mth} {apos cpos : Pos}
theorem pe_mth (hu : X.A.units + 65 < cLine) (ho : PE X o to) (ha : PA X [e] t)
    (hbase : attributeBase o (mthN m) X.env (eval o X.env) = eval o X.env)
    (hfew : ((backTo cpos (starEach [e] X.env)).all (fun x => !x.1) && (backToKw cpos (keywordEach [] X.env)).all (fun x => x.1.isSome)
      && decide ([e].length + ([] : List Keyword).length + (if ([] : List Keyword).isEmpty then 0 else 1) < 30)) = true)
    (hline : (apos.endLine == cpos.line) = true) (hs : starEach [e] X.env = (false, eval e X.env) :: starEach [] X.env) :
    PE X (.Call (.Attribute o (mthN m) apos) [e] [] cpos) (tMth X.K m to t) := by
  refine ⟨fun pins s σ H Q I h => ?_⟩
  refine wpAny_Call_method_late hbase hfew hline rfl (thn (ho.run pins s σ H _ I h) fun v s1 ⟨x, H1, I1, r1, q1⟩ => ?_)
  rcases q1 with ⟨rfl, ⟨p, ys, rfl, hq⟩, q1⟩ | ⟨⟨p, ys, rfl, hq⟩, q1⟩
  · cases r1
    obtain ⟨its, _, pl, _⟩ := I1.list hq
    refine ⟨"list", "list.index", F.plainAttrs_list, F.slot_list_index, F.type_list_index, pl.isList.typeIs, fun a e => ?_, ?_⟩
    · cases e
      obtain ⟨o, n, e, c, hd, _⟩ := pl
      exact ⟨o, e, hd⟩
    have hA := ha.run cpos pins s1 σ H1 _ I1 q1
    rw [hs] at hA ⊢
    refine Calls.callWith_builtin rfl (Calls.evalArgs_plain ?_)
    exact thn hA fun us s2 ⟨vs, H2, I2, r2, q2⟩ => mt_indexD hu pins s2 σ H2 (.ref p) vs (.ref p) us Q I2 rfl r2 q2
  · cases r1
    obtain ⟨ob, hob, hT⟩ := hq
    obtain ⟨hg, _⟩ := I1.hok p _ hob
    have ty : s1.TypeIs (.ref p) "tuple" := ⟨ob, hg, hT.1⟩
    have dn : ∀ a, Value.ref p = .ref a → ∃ ob, s1.heap.get? a = some ob ∧ ob.dict = none := fun a e => by
      cases e
      exact ⟨ob, hg, hT.2⟩
    have hA := ha.run cpos pins s1 σ H1 _ I1 q1
    cases m with
    | index =>
      refine ⟨"tuple", "tuple.index", F.plainAttrs_tuple, F.slot_tuple_index, F.type_tuple_index, ty, dn, ?_⟩
      rw [hs] at hA ⊢
      refine Calls.callWith_builtin rfl (Calls.evalArgs_plain ?_)
      exact thn hA fun us s2 ⟨vs, H2, I2, r2, q2⟩ => mt_idxT pins s2 σ H2 (.ref p) vs (.ref p) us Q I2 rfl r2 q2
    | count =>
      refine ⟨"tuple", "tuple.count", F.plainAttrs_tuple, F.slot_tuple_count, F.type_tuple_count, ty, dn, ?_⟩
      rw [hs] at hA ⊢
      refine Calls.callWith_builtin rfl (Calls.evalArgs_plain ?_)
      exact thn hA fun us s2 ⟨vs, H2, I2, r2, q2⟩ => mt_cntT pins s2 σ H2 (.ref p) vs (.ref p) us Q I2 rfl r2 q2
end
section
variable {X : Cx} {ca : Cls_} {W : WX}
theorem Wish.bindW {α β γ : Type} {K : PySem.W.Frag} {T : Ts} {H : Hp} {σ : L2.St} {st : Store} {m : M α} {k : α → M β} {k' : α → M γ} {Q : β → Store → Prop} {Q' : γ → Store → Prop} (w : Wish K ca W T H σ (M.bind m k st) Q)
    (h : ∀ a st1, m st = .ok a st1 → Wish K ca W T H σ (k a st1) Q → Wish K ca W T H σ (k' a st1) Q') : Wish K ca W T H σ (M.bind m k' st) Q' := by
  unfold M.bind at w ⊢
  cases hm : m st with
  | ok a st1 => rw [hm] at w; exact h a st1 hm w
  | exn c p st1 => rw [hm] at w; exact w
  | err => rw [hm] at w; exact w
theorem idxD_ok {m : Md} {ds : List D} {d : D} {j : Nat} (hm : m ≠ .scr) (h : idxD ds d = some j) : (D.lst m ds).dat = true ∧ d.dat = true ∧ SeqAt.shaped (.list (pyL ds)) = true ∧ SeqAt.shaped d.py = true ∧
    ∃ z, (pyL ds)[j]? = some z ∧ PyData.eqv z d.py = true ∧ ∀ (i : Nat) (z' : PyData), i < j → (pyL ds)[i]? = some z' → PyData.eqv z' d.py = false := by
  unfold idxD at h
  split at h
  · rename_i hc
    simp only [Bool.and_eq_true, decide_eq_true_eq] at hc
    obtain ⟨hj, h1, h2⟩ := List.findIdx?_eq_some_iff_getElem.mp h
    have hd : (D.lst m ds).dat = true := by
      simp only [D.dat, Bool.and_eq_true]
      exact ⟨by cases m <;> first | rfl | exact absurd rfl hm, hc.1.1.1⟩
    refine ⟨hd, hc.1.1.2, shaped_of hd hc.1.2, shaped_of hc.1.1.2 hc.2, _, List.getElem?_eq_getElem hj, h1, fun i z' hi hz => ?_⟩
    have := h2 i hi
    rw [List.getElem?_eq_getElem (by omega)] at hz
    cases hz
    simpa using this
  · cases h
theorem rd_mth {m : Mth} {fa fb : Env → M D} {σ : L2.St} {H : Hp} {Q : VK} (w : TEv X.K ca W (mthF m fa fb) σ H Q) :
    tMth X.K m (TEv X.K ca W fa) (TAv X.K ca W fun env => M.bind (fb env) fun d => M.bind (M.pure []) fun ds => M.pure (d :: ds)) σ H Q := by
  obtain ⟨T, env, st, eb, so, w⟩ := w
  refine ⟨T, env, st, eb, so, w.bind fun d1 st1 h1 w1 v1 H1 S1 e1 s1 r1 f1 => ?_⟩
  split at w1
  case isFalse => exact w1.elim
  rename_i hok
  have two : ∀ {R : List V → Hp → Prop}, (∀ v2 H2 S2 d2 g, Ext T H1 H2 → Rep X.K T H2 v2 d2 S2 → mthD m d1 d2 = some g → (∀ i : Int, g = .int i → Q (.int i) H2) → R [v2] H2) → TAv X.K ca W (fun env => M.bind (fb env) fun d => M.bind (M.pure []) fun ds => M.pure (d :: ds)) σ H1 R := fun k => by
    refine ⟨T, env, st1, eb.ext e1, s1, (w1.ext e1 s1).bindW fun d2 st2 h2 w2 vs H2 S2 e2 s2 r2 f2 => ?_⟩
    cases r2 with
    | @cons v2 vs' _ _ S2 S3 r2 t2 =>
      cases t2
      obtain ⟨g, hg, q⟩ := w2.opt
      refine k v2 H2 S2 d2 g e2 r2 hg fun i hi => ?_
      subst hi
      exact q (.int i) H2 [] (e1.trans e2) s2 (.int i) (Fr.nil _)
  cases d1 with
  | tup ds =>
    cases r1 with
    | tup p1 r1 =>
      refine .inr ⟨⟨_, _, rfl, p1⟩, two fun v2 H2 S2 d2 g e2 r2 hg q => ?_⟩
      have p2 := (e2.w.tupR p1).sqT (K := X.K)
      cases m with
      | index =>
        cases d2 <;> simp only [mthD] at hg <;> first | (cases hg; done) | skip
        obtain ⟨ns, hn, hg⟩ := Option.bind_eq_some_iff.mp hg
        split at hg
        · rename_i hi
          cases hg
          obtain ⟨rfl, _⟩ := r2.intI
          rw [intsOf_map hn] at r1
          rw [repL_ints r1] at p2
          exact ⟨_, ns, _, rfl, rfl, p2, by simpa using hi, q _ rfl⟩
        · cases hg
      | count =>
        cases d2 <;> simp only [mthD] at hg <;> first | (cases hg; done) | skip
        obtain ⟨ns, hn, hg⟩ := Option.map_eq_some_iff.mp hg
        obtain ⟨rfl, _⟩ := r2.intI
        rw [intsOf_map hn] at r1
        rw [repL_ints r1] at p2
        exact ⟨_, ns, _, rfl, rfl, p2, q _ hg.symm⟩
  | lst md ds =>
    cases m with
    | count => cases hok
    | index =>
      obtain ⟨p, xs, S', rfl, hq, _⟩ := r1.sq
      refine .inl ⟨rfl, ⟨p, xs, rfl, hq⟩, two fun v2 H2 S2 d2 g e2 r2 hg q => ?_⟩
      have r1' := r1.ext e2
      have hg' : (if md != .scr then (idxD ds d2).map fun j => D.int (j : Nat) else none) = some g := by cases d2 <;> exact hg
      split at hg'
      · rename_i hm
        obtain ⟨j, hj, rfl⟩ := Option.map_eq_some_iff.mp hg'
        obtain ⟨c1, c2, c3, c4, z, z1, z2, z3⟩ := idxD_ok (m := md) (by intro e; rw [e] at hm; simp at hm) hj
        exact ⟨p, v2, d2.py, pyL ds, j, z, rfl, rfl, r1'.dp c1, r2.dp c2, c3, c4, z1, z2, z3, q _ rfl⟩
      · cases hg'
  | _ => cases m <;> cases hok
theorem attr_plain {o : Expr} {name : Str} {env : PySem.Env} (h : okObj o = true) (whole : Sem Value) : attributeBase o name env whole = whole := by
  cases o <;> first | rfl | cases h
theorem sv_mth {m : Mth} {o e : Expr} {apos cpos : Pos} {fa fb : Env → M D} (hu : X.A.units + 65 < cLine) (ho : PE X o (TEv X.K ca W fa)) (he : PE X e (TEv X.K ca W fb)) (hb : okObj o = true) (hline : (apos.endLine == cpos.line) = true)
    (hs : starEach [e] X.env = (false, eval e X.env) :: starEach [] X.env) : PE X (.Call (.Attribute o (mthN m) apos) [e] [] cpos) (TEv X.K ca W (mthF m fa fb)) :=
  PE.mono (pe_mth hu ho (sa_cons he sa_nil hs) (attr_plain hb _) (by rw [hs]; rfl) hline hs) fun _ _ _ w => rd_mth w
end
end PL
namespace PL
open PySem PySem.Spec PyProof.Rows L2

/-! ### the language and the text -/
structure TC where
  N : List Str
  sc : Scope
  fnS : Option (List (Str × NameKind))
  fns : List Str
  cmb : Bool
def TC.fnOk (tc : TC) (x : Str) : Bool := match tc.fnS with | none => true | some ns => ns.lookup x == some .cell
def TC.blk (tc : TC) (scope : Scope) : TC := { tc with sc := relS scope tc.sc, fnS := some scope.names }
def visB (sc : Scope) (x : Str) : Bool := match sc.names.lookup x with | some .local => true | some .cell => true | some .free => true | _ => false
def glB (sc : Scope) (x : Str) : Bool := match sc.names.lookup x with | some .globalImplicit => true | _ => false
def locB (tc : TC) (x : Str) : Bool := match tc.sc.names.lookup x with | some .local => true | some .cell => tc.fnOk x | _ => false
def nameOk (x : Str) : Bool := !(x == ("__debug__" : Str)) && !(x == ("__classdict__" : Str))
def okShape : Expr → Bool
  | .BoolOp .. => true | .BinOp .. => true | .UnaryOp .. => true | .IfExp .. => true | .ListComp .. => true | .Compare .. => true | .Call .. => true | .Constant .. => true
  | .Subscript .. => true | .Name .. => true | .List .. => true | .Tuple .. => true | _ => false
def namesB (tc : TC) : List Expr → List Nat → Bool
  | [], [] => true
  | .Name x _ :: es, i :: is => decide (tc.N[i]? = some x) && locB tc x && namesB tc es is
  | _, _ => false
def mTg (tc : TC) (tg : List Nat) (tup : Bool) (x : Expr) : Bool := match tup, tg, x with
  | false, [i], .Name y _ => decide (tc.N[i]? = some y) && locB tc y
  | true, tg, .Tuple es _ _ => namesB tc es tg
  | _, _, _ => false
def Es.len : Es → Nat
  | .nil => 0
  | .cons _ es => es.len + 1
def biName : Bi → Str
  | .abs => "abs" | .int => "int" | .len => "len" | .tuple => "tuple" | .list => "list" | .sum => "sum" | .max => "max" | .min => "min" | .max2 => "max" | .min2 => "min" | .any => "any" | .all => "all" | .sorted => "sorted"
def kiName : Ki → Str
  | .int => "int" | .bool => "bool" | .str => "str" | .list => "list" | .tuple => "tuple"
def bltNames : List Str := ["abs", "int", "len", "tuple", "list", "sum", "max", "min", "any", "all", "sorted", "isinstance", "bool", "str", "range", "reversed"]
mutual
/-- as a test -/
def nT : E → Bool
  | .ite _ _ _ => false
  | .and es => nTs es
  | .or es => nTs es
  | .not a => nT a
  | _ => true
def nTs : Es → Bool
  | .nil => true
  | .cons e es => nT e && nTs es
end
def ownL (tc : TC) (own : List Nat) : List (Str × Nat) := own.filterMap fun i => (tc.N[i]?).map fun x => (x, i)
mutual
def mE : E → TC → Expr → Bool
  | .var i, tc, x => match x with
    | .Name y _ => decide (tc.N[i]? = some y) && visB tc.sc y && nameOk y
    | _ => false
  | .int n, _, x => match x with
    | .Constant c _ _ => decide (c = .int n)
    | _ => false
  | .bl b, _, x => match x with
    | .Constant c _ _ => decide (c = .bool b)
    | _ => false
  | .non, _, x => match x with
    | .Constant c _ _ => decide (c = .none)
    | _ => false
  | .str s, _, x => match x with
    | .Constant c _ _ => decide (c = .str s)
    | _ => false
  | .tup es, tc, x => match x with
    | .Tuple xs _ _ => mEs es tc xs && decide (es.len ≤ LIM)
    | _ => false
  | .lst es, tc, x => match x with
    | .List xs _ => mEs es tc xs && decide (es.len ≤ LIM)
    | _ => false
  | .bin op a b, tc, x => match x with
    | .BinOp l o r _ => decide (o = opOf op) && mE a tc l && mE b tc r
    | _ => false
  | .neg a, tc, x => match x with
    | .UnaryOp o l _ => decide (o = .USub) && mE a tc l
    | _ => false
  | .cmp op a b, tc, x => match x with
    | .Compare l [o] [r] _ => decide (o = cpOf op) && mE a tc l && mE b tc r && okShape r
    | _ => false
  | .chain op op' a b c, tc, x => match x with
    | .Compare l [o, o'] [m, r] _ => decide (o = cpOf op) && decide (o' = cpOf op') && mE a tc l && mE b tc m && mE c tc r && okShape r
    | _ => false
  | .and es, tc, x => match x with
    | .BoolOp o xs _ => decide (o = .And) && mEs es tc xs && decide (0 < es.len)
    | _ => false
  | .or es, tc, x => match x with
    | .BoolOp o xs _ => decide (o = .Or) && mEs es tc xs && decide (0 < es.len)
    | _ => false
  | .not a, tc, x => match x with
    | .UnaryOp o l _ => decide (o = .Not) && mE a tc l
    | _ => false
  | .ite c a b, tc, x => match x with
    | .IfExp t l r _ => mE c tc t && nT c && mE a tc l && mE b tc r
    | _ => false
  | .ix a b, tc, x => match x with
    | .Subscript l r _ => mE a tc l && mE b tc r && okShape r
    | _ => false
  | .sl a lo hi, tc, x => match x with
    | .Subscript l (.Slice p q none _) _ => mE a tc l && mO lo tc p && mO hi tc q
    | _ => false
  | .call f es, tc, x => match x with
    | .Call (.Name y _) xs [] _ => decide (tc.fns[f]? = some y) && glB tc.sc y && nameOk y && mEs es tc xs && decide (0 < es.len)
    | _ => false
  | .bi b es, tc, x => match x with
    | .Call (.Name y _) xs [] _ => decide (y = biName b) && glB tc.sc y && mEs es tc xs && decide (0 < es.len)
    | _ => false
  | .isa k a, tc, x => match x with
    | .Call (.Name y _) [l, .Name z _] [] _ => decide (y = "isinstance") && decide (z = kiName k) && glB tc.sc y && glB tc.sc z && mE a tc l && okShape l
    | _ => false
  | .listR it, tc, x => match x with
    | .Call (.Name y _) [l] [] _ => decide (y = "list") && glB tc.sc y && mR it tc l && okShape l
    | _ => false
  | .tupR it, tc, x => match x with
    | .Call (.Name y _) [l] [] _ => decide (y = "tuple") && glB tc.sc y && mR it tc l && okShape l
    | _ => false
  | .comp elt tg tup it ifs own, tc, x => match x with
    | .ListComp el [⟨tge, iter, ifs', z⟩] scope _ => decide (z = 0) && blkC tc.N tc.sc scope (ownL tc own) && decide ((ownL tc own).map (·.2) = own) && decide (∀ i ∈ tg, i ∈ own) && mI it tc iter && okShape iter && mTg (tc.blk scope) tg tup tge &&
        mEs ifs (tc.blk scope) ifs' && nTs ifs && decide (ifs.len ≤ 1) && mE elt (tc.blk scope) el
    | _ => false
  | .bad, _, _ => true
  | .comb a b, tc, x => match x with
    | .Call (.Name y _) [.Call (.Name z _) [l, r] [] _] [] _ => decide (y = "list") && decide (z = "combinations") && tc.cmb && glB tc.sc y && glB tc.sc z && mE a tc l && mE b tc r && okShape l && okShape r
    | _ => false
  | .comp2 _ _ _ _ _ _ _ _ _ _, _, _ => false
  | .tupRev a, tc, x => match x with
    | .Call (.Name y _) [.Call (.Name z _) [l] [] _] [] _ => decide (y = "tuple") && decide (z = "reversed") && glB tc.sc y && glB tc.sc z && mE a tc l && okShape l
    | _ => false
  | .mth m a b, tc, x => match x with
    | .Call (.Attribute o y apos) [l] [] cpos => decide (y = mthN m) && okObj o && (apos.endLine == cpos.line) && mE a tc o && mE b tc l && okShape l
    | _ => false
def mEs : Es → TC → List Expr → Bool
  | .nil, _, xs => match xs with
    | [] => true
    | _ => false
  | .cons e es, tc, xs => match xs with
    | x :: xs => okShape x && mE e tc x && mEs es tc xs
    | [] => false
def mO : Eo → TC → Option Expr → Bool
  | .none, _, x => match x with
    | none => true
    | _ => false
  | .some e, tc, x => match x with
    | some x => mE e tc x
    | none => false
def mI : It → TC → Expr → Bool
  | .seq e, tc, x => mE e tc x
  | .r1 a, tc, x => match x with
    | .Call (.Name y _) [l] [] _ => decide (y = "range") && glB tc.sc y && mE a tc l && okShape l
    | _ => false
  | .r2 a b, tc, x => match x with
    | .Call (.Name y _) [l, r] [] _ => decide (y = "range") && glB tc.sc y && mE a tc l && okShape l && mE b tc r && okShape r
    | _ => false
  | .rev e, tc, x => match x with
    | .Call (.Name y _) [l] [] _ => decide (y = "reversed") && glB tc.sc y && mE e tc l && okShape l
    | _ => false
  | .r3 a b c, tc, x => match x with
    | .Call (.Name y _) [l, r, z] [] _ => decide (y = "range") && glB tc.sc y && mE a tc l && okShape l && mE b tc r && okShape r && mE c tc z && okShape z
    | _ => false
/-- range(..) alone -/
def mR : It → TC → Expr → Bool
  | .seq _, _, _ => false
  | .rev _, _, _ => false
  | .r3 _ _ _, _, _ => false
  | .r1 a, tc, x => match x with
    | .Call (.Name y _) [l] [] _ => decide (y = "range") && glB tc.sc y && mE a tc l && okShape l
    | _ => false
  | .r2 a b, tc, x => match x with
    | .Call (.Name y _) [l, r] [] _ => decide (y = "range") && glB tc.sc y && mE a tc l && okShape l && mE b tc r && okShape r
    | _ => false
end
/-! ### shapes -/
theorem star_plain {x : Expr} {xs : List Expr} {env : PySem.Env} (h : okShape x = true) : starEach (x :: xs) env = (false, eval x env) :: starEach xs env := by
  cases x <;> first | rfl | cases h
theorem fold_plain {x : Expr} {env : PySem.Env} (h : okShape x = true) (v : Value) : foldedSetIterable x env v = Pure.pure v := by
  cases x <;> first | rfl | cases h
theorem mark_plain {x : Expr} {op : CmpOp} (h : okShape x = true) : behindInMarks op x = false := by
  cases x <;> first | rfl | cases h
theorem ix_plain {x : Expr} (h : okShape x = true) : PlainIx x := by
  intro o i
  cases x <;> first | rfl | cases h
theorem back_any {pos : Pos} : ∀ {l : List (Bool × Sem Value)}, (l.any (·.1)) = false → (backTo pos l).any (·.1) = false := by
  intro l h
  unfold backTo
  rw [List.any_map]
  exact h
theorem mEs_star : ∀ {es : Es} {tc : TC} {xs : List Expr} {env : PySem.Env}, mEs es tc xs = true → (starEach xs env).any (·.1) = false
  | .nil, tc, [], env, _ => rfl
  | .nil, tc, _ :: _, env, h => by simp [mEs] at h
  | .cons e es, tc, [], env, h => by simp [mEs] at h
  | .cons e es, tc, x :: xs, env, h => by
    simp only [mEs, Bool.and_eq_true] at h
    rw [star_plain h.1.1]
    simp only [List.any_cons, Bool.false_or]
    exact mEs_star h.2
theorem mEs_len : ∀ {es : Es} {tc : TC} {xs : List Expr}, mEs es tc xs = true → xs.length = es.len
  | .nil, tc, [], _ => rfl
  | .nil, tc, _ :: _, h => by simp [mEs] at h
  | .cons e es, tc, [], h => by simp [mEs] at h
  | .cons e es, tc, x :: xs, h => by
    simp only [mEs, Bool.and_eq_true] at h
    exact congrArg Nat.succ (mEs_len h.2)
theorem evs_len {call : Nat → List D → M D} : ∀ {es : Es} {env : Env} {st : Store} {ds : List D} {st' : Store}, evs call es env st = .ok ds st' → ds.length = es.len
  | .nil, env, st, ds, st', h => by
    cases h; rfl
  | .cons e es, env, st, ds, st', h => by
    obtain ⟨d, st1, h1, h2⟩ := bind_ok (show M.bind (ev call e env) (fun d => M.bind (evs call es env) fun ds => M.pure (d :: ds)) st = _ from h)
    obtain ⟨ds', st2, h3, h4⟩ := bind_ok h2
    cases h4
    exact congrArg Nat.succ (evs_len h3)
theorem vis_of {sc : Scope} {x : Str} (h : visB sc x = true) : Vis sc x := by
  unfold visB at h
  split at h <;> first | exact .inl (by assumption) | exact .inr (.inl (by assumption)) | exact .inr (.inr (by assumption)) | cases h
theorem gl_of {sc : Scope} {x : Str} (h : glB sc x = true) : sc.names.lookup x = some .globalImplicit := by
  unfold glB at h
  split at h <;> first | assumption | cases h
theorem nameOk_1 {x : Str} (h : nameOk x = true) : (x == ("__debug__" : Str)) = false ∧ (x == ("__classdict__" : Str)) = false := by
  simpa [nameOk] using h
/-! ### the context -/
structure GX (ca : Cls_) (k : Nat) (call : Nat → List D → M D) (tc : TC) (W : WX) (X : Cx) : Prop where
  calm : X.calm = true
  nd : X.N.Nodup
  N : X.N = tc.N
  sc : X.env.scope = tc.sc
  fn : ∀ x, tc.fnOk x = true → X.fn x = true
  room : Room k X.A
  tk : Takes X W
  blts : ∀ x ∈ bltNames, X.mg x = none
  cmb : tc.cmb = true → X.mg "combinations" = some (.type "itertools.combinations")
  fns : ∀ f y, tc.fns[f]? = some y → ∃ fa fd ps n, X.mg y = some (.ref fa) ∧ PySem.W.keepIn X.K (.ref fa) = true ∧ Binds X.K fd ps [] ∧ (∀ ds st, ds.length ≠ n → call f ds st = .err) ∧
    FnOk X.prog X.w X.K X.mg X.base (L2.CX X.prog X.w) k fa fd ps (spOf X.K ca n (call f))
section
variable {ca : Cls_} {k : Nat} {call : Nat → List D → M D} {tc : TC} {W : WX} {X : Cx}
theorem GX.hu (g : GX ca k call tc W X) : X.A.units + 65 < cLine := by have := g.room.un; omega
theorem GX.gl (g : GX ca k call tc W X) {x : Str} (h : glB tc.sc x = true) : Gl X x := by
  show X.env.scope.names.lookup x = _
  rw [g.sc]; exact gl_of h
theorem GX.vis (g : GX ca k call tc W X) {x : Str} (h : visB tc.sc x = true) : Vis X.env.scope x := by rw [g.sc]; exact vis_of h
theorem GX.loc (g : GX ca k call tc W X) {x : Str} (h : locB tc x = true) : Loc X.env.scope x ∧ (X.fn x = true ∨ X.env.scope.names.lookup x = some .local) := by
  rw [g.sc]
  unfold locB at h
  split at h
  · rename_i e; exact ⟨.inl e, .inr e⟩
  · rename_i e; exact ⟨.inr e, .inl (g.fn x h)⟩
  · cases h
theorem GX.blk (g : GX ca k call tc W X) (scope : Scope) (s : Shared) (H : Hp) (C : Addr) (cl : List (Str × Addr)) (fp : List Addr) : GX ca k call (tc.blk scope) W0 (X.blk s H scope (compEnvC scope cl C X.env) fp) :=
  ⟨g.calm, g.nd, g.N, (by show relS scope X.env.scope = relS scope tc.sc; rw [g.sc]), fun x h => h, g.room, takes0, g.blts, g.cmb, g.fns⟩
theorem GX.names (g : GX ca k call tc W X) : ∀ {es : List Expr} {is : List Nat}, namesB tc es is = true → NamesAt X es is
  | [], [], _ => .nil
  | [], _ :: _, h => by simp [namesB] at h
  | e :: es, [], h => by cases e <;> simp [namesB] at h
  | e :: es, i :: is, h => by
    cases e <;> first | (simp [namesB] at h; done) | skip
    simp only [namesB, Bool.and_eq_true, decide_eq_true_eq] at h
    obtain ⟨h1, h2⟩ := g.loc h.1.2
    exact .cons (by rw [g.N]; exact h.1.1) h1 h2 (g.names h.2)
theorem GX.tg (g : GX ca k call tc W X) {tg : List Nat} {tup : Bool} {x : Expr} (h : mTg tc tg tup x = true) : PG X x (TGv X.K tg tup) := by
  unfold mTg at h
  split at h
  · simp only [Bool.and_eq_true, decide_eq_true_eq] at h
    obtain ⟨h1, h2⟩ := g.loc h.2
    exact sg_name g.nd (by rw [g.N]; exact h.1) h1 h2
  · exact sg_tup g.calm g.nd (g.names h)
  · cases h
theorem GX.tgr (g : GX ca k call tc W X) {tg : List Nat} {tup : Bool} {x : Expr} (h : mTg tc tg tup x = true) : PG X x (TGr X.K tg tup) := by
  unfold mTg at h
  split at h
  · simp only [Bool.and_eq_true, decide_eq_true_eq] at h
    obtain ⟨h1, h2⟩ := g.loc h.2
    exact sr_name g.nd (by rw [g.N]; exact h.1) h1 h2
  · exact sr_tup g.calm g.nd (g.names h)
  · cases h
end
end PL
namespace PL
open PySem PySem.Spec PyProof.Rows L2

theorem evR_ok {call : Nat → List D → M D} : ∀ {it : It} {tc : TC} {x : Expr} {env : Env} {st : Store} {ds : List D} {st' : Store}, mR it tc x = true → evI call it env st = .ok ds st' → ∃ a b, ds = rgD a b ∧ rgOk a b = true
  | .seq _, _, _, _, _, _, _, h, _ => by simp [mR] at h
  | .rev _, _, _, _, _, _, _, h, _ => by simp [mR] at h
  | .r3 _ _ _, _, _, _, _, _, _, h, _ => by simp [mR] at h
  | .r1 a, tc, x, env, st, ds, st', _, h => by
    obtain ⟨d, st1, h1, h2⟩ := bind_ok (show M.bind (ev call a env) (fun d => match d with | .int n => if rgOk 0 n then M.pure (rgD 0 n) else M.fail | _ => M.fail) st = _ from h)
    cases d with
    | int n =>
      dsimp only at h2
      split at h2
      · rename_i hc
        cases h2
        exact ⟨0, n, rfl, hc⟩
      · cases h2
    | _ => cases h2
  | .r2 a b, tc, x, env, st, ds, st', _, h => by
    obtain ⟨d, st1, h1, h2⟩ := bind_ok (show M.bind (ev call a env) (fun d => M.bind (ev call b env) fun d' => match d, d' with | .int i, .int n => if rgOk i n then M.pure (rgD i n) else M.fail | _, _ => M.fail) st = _ from h)
    obtain ⟨d', st2, h3, h4⟩ := bind_ok h2
    cases d with
    | int i =>
      cases d' with
      | int n =>
        dsimp only at h4
        split at h4
        · rename_i hc
          cases h4
          exact ⟨i, n, rfl, hc⟩
        · cases h4
      | _ => cases h4
    | _ => cases h4
theorem bi_rule {X : Cx} {ca : Cls_} {W : WX} {y : Str} {p pos : Pos} {x : Expr} {xs : List Expr} {g : Env → M (List D)} (b : Bi) (hc : X.calm = true) (hg : Gl X (biName b)) (hm : ∀ x ∈ bltNames, X.mg x = none) (ha : PA X (x :: xs) (TAv X.K ca W g))
    (he : starEach (x :: xs) X.env = (false, eval x X.env) :: starEach xs X.env) (hpl : (backTo pos (starEach xs X.env)).any (·.1) = false) : PE X (.Call (.Name (biName b) p) (x :: xs) [] pos) (TEv X.K ca W fun env => M.bind (g env) fun ds => M.ofOpt (biD b ds)) := by
  refine sv_callS (bis b) ?_
  have hr := call_bi hc b
  cases b
  · exact pe_callB hr hg (hm _ (by decide)) rfl ha (by decide) (by decide) he hpl
  · exact pe_callTy hr hg (hm _ (by decide)) rfl ha (by decide) (by decide) he hpl
  · exact pe_callB hr hg (hm _ (by decide)) rfl ha (by decide) (by decide) he hpl
  · exact pe_callTy hr hg (hm _ (by decide)) rfl ha (by decide) (by decide) he hpl
  · exact pe_callTy hr hg (hm _ (by decide)) rfl ha (by decide) (by decide) he hpl
  · exact pe_callB hr hg (hm _ (by decide)) rfl ha (by decide) (by decide) he hpl
  · exact pe_callB hr hg (hm _ (by decide)) rfl ha (by decide) (by decide) he hpl
  · exact pe_callB hr hg (hm _ (by decide)) rfl ha (by decide) (by decide) he hpl
  · exact pe_callB hr hg (hm _ (by decide)) rfl ha (by decide) (by decide) he hpl
  · exact pe_callB hr hg (hm _ (by decide)) rfl ha (by decide) (by decide) he hpl
  · exact pe_callB hr hg (hm _ (by decide)) rfl ha (by decide) (by decide) he hpl
  · exact pe_callB hr hg (hm _ (by decide)) rfl ha (by decide) (by decide) he hpl
  · exact pe_callB hr hg (hm _ (by decide)) rfl ha (by decide) (by decide) he hpl
theorem ki_rule {X : Cx} {p : Pos} (k : Ki) (hg : Gl X (kiName k)) (hm : ∀ x ∈ bltNames, X.mg x = none) : PE X (.Name (kiName k) p) (tC (.ty k.ty)) := by
  cases k
  · exact pe_bltn hg (hm _ (by decide)) rfl rfl (by decide) (by decide)
  · exact pe_bltn hg (hm _ (by decide)) rfl rfl (by decide) (by decide)
  · exact pe_bltn hg (hm _ (by decide)) rfl rfl (by decide) (by decide)
  · exact pe_bltn hg (hm _ (by decide)) rfl rfl (by decide) (by decide)
  · exact pe_bltn hg (hm _ (by decide)) rfl rfl (by decide) (by decide)
section
variable {ca : Cls_} {call : Nat → List D → M D}
abbrev SE (ca : Cls_) (call : Nat → List D → M D) (e : E) : Prop := ∀ (tc : TC) (x : Expr), mE e tc x = true → ∀ {k : Nat} {W : WX} {X : Cx}, GX ca k call tc W X → PE X x (TEv X.K ca W (ev call e))
abbrev STst (ca : Cls_) (call : Nat → List D → M D) (e : E) : Prop := ∀ (tc : TC) (x : Expr), mE e tc x = true → nT e = true → ∀ {k : Nat} {W : WX} {X : Cx}, GX ca k call tc W X → PT X x (TTv X.K ca W (tstD (ev call e)))
set_option maxHeartbeats 4000000
mutual
theorem sE : ∀ (e : E), SE ca call e
  | .var i, tc, x, h, k, W, X, g => by
    unfold mE at h
    split at h
    · simp only [Bool.and_eq_true, decide_eq_true_eq] at h
      obtain ⟨h1, h2⟩ := nameOk_1 h.2
      exact sv_var (by rw [g.N]; exact h.1.1) (g.vis h.1.2) h1 h2
    · cases h
  | .int n, tc, x, h, k, W, X, g => by
    unfold mE at h
    split at h
    · obtain rfl := of_decide_eq_true h
      exact sv_const pe_int fun T H => .int n
    · cases h
  | .bl b, tc, x, h, k, W, X, g => by
    unfold mE at h
    split at h
    · obtain rfl := of_decide_eq_true h
      exact sv_const pe_bl fun T H => .bl b
    · cases h
  | .non, tc, x, h, k, W, X, g => by
    unfold mE at h
    split at h
    · obtain rfl := of_decide_eq_true h
      exact sv_const pe_non fun T H => .non
    · cases h
  | .str s, tc, x, h, k, W, X, g => by
    unfold mE at h
    split at h
    · obtain rfl := of_decide_eq_true h
      exact sv_const pe_str fun T H => .str s
    · cases h
  | .tup es, tc, x, h, k, W, X, g => by
    unfold mE at h
    split at h
    · simp only [Bool.and_eq_true, decide_eq_true_eq] at h
      exact sv_tup (fun env st ds st' z => by rw [evs_len z]; exact h.2) (sAs es tc _ h.1 g)
    · cases h
  | .lst es, tc, x, h, k, W, X, g => by
    unfold mE at h
    split at h
    · simp only [Bool.and_eq_true, decide_eq_true_eq] at h
      exact sv_lst (fun env st ds st' z => by rw [evs_len z]; exact h.2) (sAs es tc _ h.1 g)
    · cases h
  | .bin op a b, tc, x, h, k, W, X, g => by
    unfold mE at h
    split at h
    · simp only [Bool.and_eq_true, decide_eq_true_eq] at h
      obtain ⟨⟨rfl, h1⟩, h2⟩ := h
      exact sv_op2 (ops_bop X.K op) (pe_op (op_bop op) (sE a tc _ h1 g) (sE b tc _ h2 g))
    · cases h
  | .neg a, tc, x, h, k, W, X, g => by
    unfold mE at h
    split at h
    · simp only [Bool.and_eq_true, decide_eq_true_eq] at h
      obtain ⟨rfl, h1⟩ := h
      exact sv_neg (pe_un un_neg (sE a tc _ h1 g))
    · cases h
  | .cmp op a b, tc, x, h, k, W, X, g => by
    unfold mE at h
    split at h
    · simp only [Bool.and_eq_true, decide_eq_true_eq] at h
      obtain ⟨⟨⟨rfl, h1⟩, h2⟩, h3⟩ := h
      exact sv_cmp g.hu (sE a tc _ h1 g) (sE b tc _ h2 g) (mark_plain h3)
    · cases h
  | .chain op op' a b c, tc, x, h, k, W, X, g => by
    unfold mE at h
    split at h
    · simp only [Bool.and_eq_true, decide_eq_true_eq] at h
      obtain ⟨⟨⟨⟨⟨rfl, rfl⟩, h1⟩, h2⟩, h3⟩, h4⟩ := h
      exact sv_chain (pe_chain (op_cop g.hu op) (op_cop g.hu op') (sE a tc _ h1 g) (sE b tc _ h2 g) (sE c tc _ h3 g) (mark_plain h4))
    · cases h
  | .and es, tc, x, h, k, W, X, g => by
    unfold mE at h
    split at h
    · simp only [Bool.and_eq_true, decide_eq_true_eq] at h
      obtain ⟨⟨rfl, h1⟩, h2⟩ := h
      exact sAnd es tc _ _ h1 h2 g
    · cases h
  | .or es, tc, x, h, k, W, X, g => by
    unfold mE at h
    split at h
    · simp only [Bool.and_eq_true, decide_eq_true_eq] at h
      obtain ⟨⟨rfl, h1⟩, h2⟩ := h
      exact sOr es tc _ _ h1 h2 g
    · cases h
  | .not a, tc, x, h, k, W, X, g => by
    unfold mE at h
    split at h
    · simp only [Bool.and_eq_true, decide_eq_true_eq] at h
      obtain ⟨rfl, h1⟩ := h
      exact sv_not (sE a tc _ h1 g)
    · cases h
  | .ite c a b, tc, x, h, k, W, X, g => by
    unfold mE at h
    split at h
    · simp only [Bool.and_eq_true] at h
      obtain ⟨⟨⟨h1, h2⟩, h3⟩, h4⟩ := h
      exact sv_ite (sT c tc _ h1 h2 g) (sE a tc _ h3 g) (sE b tc _ h4 g)
    · cases h
  | .ix a b, tc, x, h, k, W, X, g => by
    unfold mE at h
    split at h
    · simp only [Bool.and_eq_true] at h
      exact sv_ix (pe_ix ix_seq (sE a tc _ h.1.1 g) (sE b tc _ h.1.2 g) (ix_plain h.2))
    · cases h
  | .sl a lo hi, tc, x, h, k, W, X, g => by
    unfold mE at h
    split at h
    · simp only [Bool.and_eq_true] at h
      exact sv_sl (sE a tc _ h.1.1 g) (sO lo tc _ h.1.2 g) (sO hi tc _ h.2 g)
    · cases h
  | .call f es, tc, x, h, k, W, X, g => by
    unfold mE at h
    split at h
    · simp only [Bool.and_eq_true, decide_eq_true_eq] at h
      obtain ⟨⟨⟨⟨h1, h2⟩, h3⟩, h4⟩, h5⟩ := h
      obtain ⟨fa, fd, ps, n, q1, q2, q3, q4, q5⟩ := g.fns f _ h1
      rename_i y p xs pos
      cases xs with
      | nil => rw [← mEs_len h4] at h5; cases h5
      | cons x xs =>
        cases es with
        | nil => cases h5
        | cons e es =>
          have h4' := h4
          simp only [mEs, Bool.and_eq_true] at h4'
          exact sv_call q5 q4 g.room (g.gl h2) q1 q2 q3 g.tk (sAs (.cons e es) tc _ h4 g) (nameOk_1 h3).1 (star_plain h4'.1.1) (back_any (mEs_star h4'.2))
    · cases h
  | .bi b es, tc, x, h, k, W, X, g => by
    unfold mE at h
    split at h
    · simp only [Bool.and_eq_true, decide_eq_true_eq] at h
      obtain ⟨⟨⟨rfl, h2⟩, h4⟩, h5⟩ := h
      rename_i p xs pos
      cases xs with
      | nil => rw [← mEs_len h4] at h5; cases h5
      | cons x xs =>
        cases es with
        | nil => cases h5
        | cons e es =>
          have h4' := h4
          simp only [mEs, Bool.and_eq_true] at h4'
          exact bi_rule (y := biName b) b g.calm (g.gl h2) g.blts (sAs (.cons e es) tc _ h4 g) (star_plain h4'.1.1) (back_any (mEs_star h4'.2))
    · cases h
  | .isa kk a, tc, x, h, k, W, X, g => by
    unfold mE at h
    split at h
    · simp only [Bool.and_eq_true, decide_eq_true_eq] at h
      obtain ⟨⟨⟨⟨⟨rfl, rfl⟩, h1⟩, h2⟩, h3⟩, h4⟩ := h
      exact sv_isa (pe_callB call_isi (g.gl h1) (g.blts _ (by decide)) rfl (pa_cons (sE a tc _ h3 g) (pa_cons (ki_rule kk (g.gl h2) g.blts) pa_nil rfl) (star_plain h4)) (by decide) (by decide) (star_plain h4) rfl)
    · cases h
  | .listR it, tc, x, h, k, W, X, g => by
    unfold mE at h
    split at h
    · simp only [Bool.and_eq_true, decide_eq_true_eq] at h
      obtain ⟨⟨⟨rfl, h1⟩, h2⟩, h3⟩ := h
      exact sv_listR (fun env st ds st' z => evR_ok h2 z) g.calm (g.gl h1) (g.blts _ (by decide)) (sR it tc _ h2 g) (star_plain h3)
    · cases h
  | .tupR it, tc, x, h, k, W, X, g => by
    unfold mE at h
    split at h
    · simp only [Bool.and_eq_true, decide_eq_true_eq] at h
      obtain ⟨⟨⟨rfl, h1⟩, h2⟩, h3⟩ := h
      exact sv_tupR g.calm (g.gl h1) (g.blts _ (by decide)) (sR it tc _ h2 g) (star_plain h3)
    · cases h
  | .comp elt tg tup it ifs own, tc, x, h, k, W, X, g => by
    unfold mE at h
    split at h
    · simp only [Bool.and_eq_true, decide_eq_true_eq] at h
      obtain ⟨⟨⟨⟨⟨⟨⟨⟨⟨⟨rfl, h1⟩, h2⟩, h3⟩, h4⟩, h5⟩, h6⟩, h7⟩, h8⟩, h9⟩, h10⟩ := h
      have hb := blkOk_by h1
      rw [← g.N, ← g.sc] at hb
      have hr := sv_comp (ca := ca) (W := W) (pos := by assumption) g.calm g.nd (sI it tc _ h4 g) hb (by rw [h2]; exact h3) (fun s H C cl fp => (g.blk _ s H C cl fp).tg h6) (fun s H C cl fp => sIfs ifs _ _ h7 h8 h9 (g.blk _ s H C cl fp)) (fun s H C cl fp => sE elt _ _ h10 (g.blk _ s H C cl fp)) (fun x => fold_plain h5 x)
      rw [h2] at hr
      exact hr
    · cases h
  | .comb a b, tc, x, h, k, W, X, g => by
    unfold mE at h
    split at h
    · simp only [Bool.and_eq_true, decide_eq_true_eq] at h
      obtain ⟨⟨⟨⟨⟨⟨⟨⟨rfl, rfl⟩, h1⟩, h2⟩, h3⟩, h4⟩, h5⟩, h6⟩, h7⟩ := h
      exact sv_comb g.calm (g.gl h2) (g.blts _ (by decide)) (g.gl h3) (g.cmb h1) (sE a tc _ h4 g) (sE b tc _ h5 g) (star_plain h6) (star_plain h7)
    · cases h
  | .bad, tc, x, h, k, W, X, g => ⟨fun pins s σ H Q I ⟨_, _, _, _, _, w⟩ => (False.elim w)⟩
  | .comp2 _ _ _ _ _ _ _ _ _ _, tc, x, h, k, W, X, g => by simp [mE] at h
  | .tupRev a, tc, x, h, k, W, X, g => by
    unfold mE at h
    split at h
    · simp only [Bool.and_eq_true, decide_eq_true_eq] at h
      obtain ⟨⟨⟨⟨⟨rfl, rfl⟩, h1⟩, h2⟩, h3⟩, h4⟩ := h
      exact sv_tupRev g.calm (g.gl h1) (g.blts _ (by decide)) (g.gl h2) (g.blts _ (by decide)) (sE a tc _ h3 g) (star_plain h4)
    · cases h
  | .mth m a b, tc, x, h, k, W, X, g => by
    unfold mE at h
    split at h
    · simp only [Bool.and_eq_true, decide_eq_true_eq] at h
      obtain ⟨⟨⟨⟨⟨rfl, h1⟩, h2⟩, h3⟩, h4⟩, h5⟩ := h
      exact sv_mth g.hu (sE a tc _ h3 g) (sE b tc _ h4 g) h1 h2 (star_plain h5)
    · cases h
theorem sT : ∀ (e : E), STst ca call e
  | .var i, tc, x, h, n, k, W, X, g => by
    have hx := h
    unfold mE at hx
    split at hx
    · exact st_truth (sE (.var i) tc _ h g) fun _ => rfl
    · cases hx
  | .int i, tc, x, h, n, k, W, X, g => by
    have hx := h
    unfold mE at hx
    split at hx
    · exact st_truth (sE (.int i) tc _ h g) fun _ => rfl
    · cases hx
  | .bl i, tc, x, h, n, k, W, X, g => by
    have hx := h
    unfold mE at hx
    split at hx
    · exact st_truth (sE (.bl i) tc _ h g) fun _ => rfl
    · cases hx
  | .non, tc, x, h, n, k, W, X, g => by
    have hx := h
    unfold mE at hx
    split at hx
    · exact st_truth (sE .non tc _ h g) fun _ => rfl
    · cases hx
  | .str s, tc, x, h, n, k, W, X, g => by
    have hx := h
    unfold mE at hx
    split at hx
    · exact st_truth (sE (.str s) tc _ h g) fun _ => rfl
    · cases hx
  | .tup es, tc, x, h, n, k, W, X, g => by
    have hx := h
    unfold mE at hx
    split at hx
    · exact st_truth (sE (.tup es) tc _ h g) fun _ => rfl
    · cases hx
  | .lst es, tc, x, h, n, k, W, X, g => by
    have hx := h
    unfold mE at hx
    split at hx
    · exact st_truth (sE (.lst es) tc _ h g) fun _ => rfl
    · cases hx
  | .bin op a b, tc, x, h, n, k, W, X, g => by
    have hx := h
    unfold mE at hx
    split at hx
    · exact st_truth (sE (.bin op a b) tc _ h g) fun _ => rfl
    · cases hx
  | .neg a, tc, x, h, n, k, W, X, g => by
    have hx := h
    unfold mE at hx
    split at hx
    · simp only [Bool.and_eq_true, decide_eq_true_eq] at hx
      obtain ⟨rfl, _⟩ := hx
      exact st_truth (sE (.neg a) tc _ h g) fun _ => rfl
    · cases hx
  | .cmp op a b, tc, x, h, n, k, W, X, g => by
    unfold mE at h
    split at h
    · simp only [Bool.and_eq_true, decide_eq_true_eq] at h
      obtain ⟨⟨⟨rfl, h1⟩, h2⟩, h3⟩ := h
      exact st_cmp g.hu (sE a tc _ h1 g) (sE b tc _ h2 g) (mark_plain h3)
    · cases h
  | .chain op op' a b c, tc, x, h, n, k, W, X, g => by
    unfold mE at h
    split at h
    · simp only [Bool.and_eq_true, decide_eq_true_eq] at h
      obtain ⟨⟨⟨⟨⟨rfl, rfl⟩, h1⟩, h2⟩, h3⟩, h4⟩ := h
      exact st_chain g.hu (sE a tc _ h1 g) (sE b tc _ h2 g) (sE c tc _ h3 g) (mark_plain h4)
    · cases h
  | .and es, tc, x, h, n, k, W, X, g => by
    unfold mE at h
    split at h
    · simp only [Bool.and_eq_true, decide_eq_true_eq] at h
      obtain ⟨⟨rfl, h1⟩, h2⟩ := h
      have hr := (sTAnd es tc _ (by assumption) h1 n h2 g).pt
      rw [← tst_bl (evAnd call es)] at hr
      exact hr
    · cases h
  | .or es, tc, x, h, n, k, W, X, g => by
    unfold mE at h
    split at h
    · simp only [Bool.and_eq_true, decide_eq_true_eq] at h
      obtain ⟨⟨rfl, h1⟩, h2⟩ := h
      have hr := (sTOr es tc _ (by assumption) h1 n h2 g).pt
      rw [← tst_bl (evOr call es)] at hr
      exact hr
    · cases h
  | .not a, tc, x, h, n, k, W, X, g => by
    unfold mE at h
    split at h
    · simp only [Bool.and_eq_true, decide_eq_true_eq] at h
      obtain ⟨rfl, h1⟩ := h
      exact st_not (sT a tc _ h1 n g)
    · cases h
  | .ite c a b, tc, x, h, n, k, W, X, g => by cases n
  | .ix a b, tc, x, h, n, k, W, X, g => by
    have hx := h
    unfold mE at hx
    split at hx
    · exact st_truth (sE (.ix a b) tc _ h g) fun _ => rfl
    · cases hx
  | .sl a lo hi, tc, x, h, n, k, W, X, g => by
    have hx := h
    unfold mE at hx
    split at hx
    · exact st_truth (sE (.sl a lo hi) tc _ h g) fun _ => rfl
    · cases hx
  | .call f es, tc, x, h, n, k, W, X, g => by
    have hx := h
    unfold mE at hx
    split at hx
    · exact st_truth (sE (.call f es) tc _ h g) fun _ => rfl
    · cases hx
  | .bi b es, tc, x, h, n, k, W, X, g => by
    have hx := h
    unfold mE at hx
    split at hx
    · exact st_truth (sE (.bi b es) tc _ h g) fun _ => rfl
    · cases hx
  | .isa kk a, tc, x, h, n, k, W, X, g => by
    have hx := h
    unfold mE at hx
    split at hx
    · exact st_truth (sE (.isa kk a) tc _ h g) fun _ => rfl
    · cases hx
  | .listR it, tc, x, h, n, k, W, X, g => by
    have hx := h
    unfold mE at hx
    split at hx
    · exact st_truth (sE (.listR it) tc _ h g) fun _ => rfl
    · cases hx
  | .tupR it, tc, x, h, n, k, W, X, g => by
    have hx := h
    unfold mE at hx
    split at hx
    · exact st_truth (sE (.tupR it) tc _ h g) fun _ => rfl
    · cases hx
  | .comp elt tg tup it ifs own, tc, x, h, n, k, W, X, g => by
    have hx := h
    unfold mE at hx
    split at hx
    · exact st_truth (sE (.comp elt tg tup it ifs own) tc _ h g) fun _ => rfl
    · cases hx
  | .comb a b, tc, x, h, n, k, W, X, g => by
    have hx := h
    unfold mE at hx
    split at hx
    · exact st_truth (sE (.comb a b) tc _ h g) fun _ => rfl
    · cases hx
  | .bad, tc, x, h, n, k, W, X, g => ⟨fun pins s σ H Q I ⟨_, _, _, _, _, w⟩ => (False.elim w)⟩
  | .comp2 _ _ _ _ _ _ _ _ _ _, tc, x, h, n, k, W, X, g => by simp [mE] at h
  | .tupRev a, tc, x, h, n, k, W, X, g => by
    have hx := h
    unfold mE at hx
    split at hx
    · exact st_truth (sE (.tupRev a) tc _ h g) fun _ => rfl
    · cases hx
  | .mth m a b, tc, x, h, n, k, W, X, g => by
    have hx := h
    unfold mE at hx
    split at hx
    · exact st_truth (sE (.mth m a b) tc _ h g) fun _ => rfl
    · cases hx
theorem sAs : ∀ (es : Es) (tc : TC) (xs : List Expr), mEs es tc xs = true → ∀ {k : Nat} {W : WX} {X : Cx}, GX ca k call tc W X → PA X xs (TAv X.K ca W (evs call es))
  | .nil, tc, [], h, k, W, X, g => sa_nil
  | .nil, tc, _ :: _, h, k, W, X, g => by simp [mEs] at h
  | .cons e es, tc, [], h, k, W, X, g => by simp [mEs] at h
  | .cons e es, tc, x :: xs, h, k, W, X, g => by
    simp only [mEs, Bool.and_eq_true] at h
    exact sa_cons (sE e tc x h.1.2 g) (sAs es tc xs h.2 g) (star_plain h.1.1)
theorem sAnd : ∀ (es : Es) (tc : TC) (xs : List Expr) (pos : Pos), mEs es tc xs = true → 0 < es.len → ∀ {k : Nat} {W : WX} {X : Cx}, GX ca k call tc W X → PE X (.BoolOp .And xs pos) (TEv X.K ca W (blF (evAnd call es)))
  | .nil, tc, xs, pos, h, hl, k, W, X, g => absurd hl (by simp [Es.len])
  | .cons e es, tc, [], pos, h, hl, k, W, X, g => by simp [mEs] at h
  | .cons e .nil, tc, [x], pos, h, hl, k, W, X, g => by
    simp only [mEs, Bool.and_eq_true] at h
    exact sv_and1 (sE e tc x h.1.2 g)
  | .cons e .nil, tc, x :: y :: xs, pos, h, hl, k, W, X, g => by simp [mEs] at h
  | .cons e (.cons e' es), tc, [x], pos, h, hl, k, W, X, g => by simp [mEs] at h
  | .cons e (.cons e' es), tc, x :: y :: xs, pos, h, hl, k, W, X, g => by
    have h' := h
    rw [mEs, Bool.and_eq_true, Bool.and_eq_true] at h'
    exact sv_and (sE e tc x h'.1.2 g) (sAnd (.cons e' es) tc (y :: xs) pos h'.2 (Nat.succ_pos _) g)
theorem sOr : ∀ (es : Es) (tc : TC) (xs : List Expr) (pos : Pos), mEs es tc xs = true → 0 < es.len → ∀ {k : Nat} {W : WX} {X : Cx}, GX ca k call tc W X → PE X (.BoolOp .Or xs pos) (TEv X.K ca W (blF (evOr call es)))
  | .nil, tc, xs, pos, h, hl, k, W, X, g => absurd hl (by simp [Es.len])
  | .cons e es, tc, [], pos, h, hl, k, W, X, g => by simp [mEs] at h
  | .cons e .nil, tc, [x], pos, h, hl, k, W, X, g => by
    simp only [mEs, Bool.and_eq_true] at h
    exact sv_or1 (sE e tc x h.1.2 g)
  | .cons e .nil, tc, x :: y :: xs, pos, h, hl, k, W, X, g => by simp [mEs] at h
  | .cons e (.cons e' es), tc, [x], pos, h, hl, k, W, X, g => by simp [mEs] at h
  | .cons e (.cons e' es), tc, x :: y :: xs, pos, h, hl, k, W, X, g => by
    have h' := h
    rw [mEs, Bool.and_eq_true, Bool.and_eq_true] at h'
    exact sv_or (sE e tc x h'.1.2 g) (sOr (.cons e' es) tc (y :: xs) pos h'.2 (Nat.succ_pos _) g)
theorem sTAnd : ∀ (es : Es) (tc : TC) (xs : List Expr) (pos : Pos), mEs es tc xs = true → nTs es = true → 0 < es.len → ∀ {k : Nat} {W : WX} {X : Cx}, GX ca k call tc W X → PW X (.BoolOp .And xs pos) (TTv X.K ca W (evAnd call es))
  | .nil, tc, xs, pos, h, n, hl, k, W, X, g => absurd hl (by simp [Es.len])
  | .cons e es, tc, [], pos, h, n, hl, k, W, X, g => by simp [mEs] at h
  | .cons e .nil, tc, [x], pos, h, n, hl, k, W, X, g => by
    simp only [mEs, nTs, Bool.and_eq_true] at h n
    exact st_and1 (sT e tc x h.1.2 n.1 g)
  | .cons e .nil, tc, x :: y :: xs, pos, h, n, hl, k, W, X, g => by simp [mEs] at h
  | .cons e (.cons e' es), tc, [x], pos, h, n, hl, k, W, X, g => by simp [mEs] at h
  | .cons e (.cons e' es), tc, x :: y :: xs, pos, h, n, hl, k, W, X, g => by
    have h' := h
    have n' := n
    rw [mEs, Bool.and_eq_true, Bool.and_eq_true] at h'
    rw [nTs, Bool.and_eq_true] at n'
    exact st_and (sT e tc x h'.1.2 n'.1 g) (sTAnd (.cons e' es) tc (y :: xs) pos h'.2 n'.2 (Nat.succ_pos _) g)
theorem sTOr : ∀ (es : Es) (tc : TC) (xs : List Expr) (pos : Pos), mEs es tc xs = true → nTs es = true → 0 < es.len → ∀ {k : Nat} {W : WX} {X : Cx}, GX ca k call tc W X → PW X (.BoolOp .Or xs pos) (TTv X.K ca W (evOr call es))
  | .nil, tc, xs, pos, h, n, hl, k, W, X, g => absurd hl (by simp [Es.len])
  | .cons e es, tc, [], pos, h, n, hl, k, W, X, g => by simp [mEs] at h
  | .cons e .nil, tc, [x], pos, h, n, hl, k, W, X, g => by
    simp only [mEs, nTs, Bool.and_eq_true] at h n
    exact st_or1 (sT e tc x h.1.2 n.1 g)
  | .cons e .nil, tc, x :: y :: xs, pos, h, n, hl, k, W, X, g => by simp [mEs] at h
  | .cons e (.cons e' es), tc, [x], pos, h, n, hl, k, W, X, g => by simp [mEs] at h
  | .cons e (.cons e' es), tc, x :: y :: xs, pos, h, n, hl, k, W, X, g => by
    have h' := h
    have n' := n
    rw [mEs, Bool.and_eq_true, Bool.and_eq_true] at h'
    rw [nTs, Bool.and_eq_true] at n'
    exact st_or (sT e tc x h'.1.2 n'.1 g) (sTOr (.cons e' es) tc (y :: xs) pos h'.2 n'.2 (Nat.succ_pos _) g)
theorem sIfs : ∀ (es : Es) (tc : TC) (xs : List Expr), mEs es tc xs = true → nTs es = true → es.len ≤ 1 → ∀ {k : Nat} {W : WX} {X : Cx}, GX ca k call tc W X → PTs X xs (TTv X.K ca W (evIfs call es))
  | .nil, tc, [], h, n, hl, k, W, X, g => sts_nil
  | .nil, tc, _ :: _, h, n, hl, k, W, X, g => by simp [mEs] at h
  | .cons e es, tc, [], h, n, hl, k, W, X, g => by simp [mEs] at h
  | .cons e .nil, tc, [x], h, n, hl, k, W, X, g => by
    simp only [mEs, nTs, Bool.and_eq_true] at h n
    exact sts_one (sT e tc x h.1.2 n.1 g)
  | .cons e .nil, tc, x :: y :: xs, h, n, hl, k, W, X, g => by simp [mEs] at h
  | .cons e (.cons e' es), tc, xs, h, n, hl, k, W, X, g => absurd hl (by simp [Es.len])
theorem sO : ∀ (o : Eo) (tc : TC) (x : Option Expr), mO o tc x = true → ∀ {k : Nat} {W : WX} {X : Cx}, GX ca k call tc W X → PO X x (TOv X.K ca W (evO call o))
  | .none, tc, none, h, k, W, X, g => so_none
  | .none, tc, some _, h, k, W, X, g => by simp [mO] at h
  | .some e, tc, none, h, k, W, X, g => by simp [mO] at h
  | .some e, tc, some x, h, k, W, X, g => so_some (sE e tc x (by simpa [mO] using h) g)
theorem sI : ∀ (it : It) (tc : TC) (x : Expr), mI it tc x = true → ∀ {k : Nat} {W : WX} {X : Cx} {tge : Expr}, GX ca k call tc W X → PI X tge x (TIv X.K ca W (evI call it))
  | .seq e, tc, x, h, k, W, X, tge, g => si_seq (sE e tc x (by simpa [mI] using h) g)
  | .r1 a, tc, x, h, k, W, X, tge, g => by
    unfold mI at h
    split at h
    · simp only [Bool.and_eq_true, decide_eq_true_eq] at h
      obtain ⟨⟨⟨rfl, h1⟩, h2⟩, h3⟩ := h
      exact si_r1 (g.gl h1) (g.blts _ (by decide)) (sE a tc _ h2 g) (star_plain h3)
    · cases h
  | .r2 a b, tc, x, h, k, W, X, tge, g => by
    unfold mI at h
    split at h
    · simp only [Bool.and_eq_true, decide_eq_true_eq] at h
      obtain ⟨⟨⟨⟨⟨rfl, h1⟩, h2⟩, h3⟩, h4⟩, h5⟩ := h
      exact si_r2 (g.gl h1) (g.blts _ (by decide)) (sE a tc _ h2 g) (sE b tc _ h4 g) (star_plain h3) (star_plain h5)
    · cases h
  | .rev a, tc, x, h, k, W, X, tge, g => by
    unfold mI at h
    split at h
    · simp only [Bool.and_eq_true, decide_eq_true_eq] at h
      obtain ⟨⟨⟨rfl, h1⟩, h2⟩, h3⟩ := h
      exact si_rev (g.gl h1) (g.blts _ (by decide)) (sE a tc _ h2 g) (star_plain h3)
    · cases h
  | .r3 a b c, tc, x, h, k, W, X, tge, g => by
    unfold mI at h
    split at h
    · simp only [Bool.and_eq_true, decide_eq_true_eq] at h
      obtain ⟨⟨⟨⟨⟨⟨⟨rfl, h1⟩, h2⟩, h3⟩, h4⟩, h5⟩, h6⟩, h7⟩ := h
      exact si_r3 (g.gl h1) (g.blts _ (by decide)) (sE a tc _ h2 g) (sE b tc _ h4 g) (sE c tc _ h6 g) (star_plain h3) (star_plain h5) (star_plain h7)
    · cases h
theorem sR : ∀ (it : It) (tc : TC) (x : Expr), mR it tc x = true → ∀ {k : Nat} {W : WX} {X : Cx}, GX ca k call tc W X → PRg X x (TRv X.K ca W (evI call it))
  | .seq e, tc, x, h, k, W, X, g => by simp [mR] at h
  | .rev e, tc, x, h, k, W, X, g => by simp [mR] at h
  | .r3 _ _ _, tc, x, h, k, W, X, g => by simp [mR] at h
  | .r1 a, tc, x, h, k, W, X, g => by
    unfold mR at h
    split at h
    · simp only [Bool.and_eq_true, decide_eq_true_eq] at h
      obtain ⟨⟨⟨rfl, h1⟩, h2⟩, h3⟩ := h
      exact sr_1 (g.gl h1) (g.blts _ (by decide)) (sE a tc _ h2 g) (star_plain h3)
    · cases h
  | .r2 a b, tc, x, h, k, W, X, g => by
    unfold mR at h
    split at h
    · simp only [Bool.and_eq_true, decide_eq_true_eq] at h
      obtain ⟨⟨⟨⟨⟨rfl, h1⟩, h2⟩, h3⟩, h4⟩, h5⟩ := h
      exact sr_2 (g.gl h1) (g.blts _ (by decide)) (sE a tc _ h2 g) (sE b tc _ h4 g) (star_plain h3) (star_plain h5)
    · cases h
end
theorem sZ : ∀ (it : It) (tc : TC) (x : Expr), mI it tc x = true → ∀ {k : Nat} {W : WX} {X : Cx} {tge : Expr}, GX ca k call tc W X → PI X tge x (TIz X.K ca W (evF call it))
  | .seq e, tc, x, h, k, W, X, tge, g => sz_seq (sE e tc x (by simpa [mI] using h) g)
  | .r1 a, tc, x, h, k, W, X, tge, g => by
    unfold mI at h
    split at h
    · simp only [Bool.and_eq_true, decide_eq_true_eq] at h
      obtain ⟨⟨⟨rfl, h1⟩, h2⟩, h3⟩ := h
      exact sz_r1 (g.gl h1) (g.blts _ (by decide)) (sE a tc _ h2 g) (star_plain h3)
    · cases h
  | .r2 a b, tc, x, h, k, W, X, tge, g => by
    unfold mI at h
    split at h
    · simp only [Bool.and_eq_true, decide_eq_true_eq] at h
      obtain ⟨⟨⟨⟨⟨rfl, h1⟩, h2⟩, h3⟩, h4⟩, h5⟩ := h
      exact sz_r2 (g.gl h1) (g.blts _ (by decide)) (sE a tc _ h2 g) (sE b tc _ h4 g) (star_plain h3) (star_plain h5)
    · cases h
  | .rev a, tc, x, h, k, W, X, tge, g => by
    unfold mI at h
    split at h
    · simp only [Bool.and_eq_true, decide_eq_true_eq] at h
      obtain ⟨⟨⟨rfl, h1⟩, h2⟩, h3⟩ := h
      exact sz_rev (g.gl h1) (g.blts _ (by decide)) (sE a tc _ h2 g) (star_plain h3)
    · cases h
  | .r3 a b c, tc, x, h, k, W, X, tge, g => by
    unfold mI at h
    split at h
    · simp only [Bool.and_eq_true, decide_eq_true_eq] at h
      obtain ⟨⟨⟨⟨⟨⟨⟨rfl, h1⟩, h2⟩, h3⟩, h4⟩, h5⟩, h6⟩, h7⟩ := h
      exact sz_r3 (g.gl h1) (g.blts _ (by decide)) (sE a tc _ h2 g) (sE b tc _ h4 g) (sE c tc _ h6 g) (star_plain h3) (star_plain h5) (star_plain h7)
    · cases h
end
end PL
namespace PL
open PySem PySem.Spec PyProof.Rows L2

/-! ### statements and the text -/
def isFun (sc : Scope) : Bool := match sc.kind with | .function => true | _ => false
/-- does x = [..] exchange -/
def swB (tc : TC) (y : Str) (py : Pos) (v : Expr) : Bool := match v with
  | .ListComp _ _ scope pos => (tc.sc.names.lookup y == some .local) && (py.line == pos.line) && !(scope.names.any fun (n, k) => n == y && (k == .local || k == .cell))
  | _ => false
def notTup : Expr → Bool
  | .Tuple .. => false
  | _ => true
def notComp : Expr → Bool
  | .ListComp .. => false
  | _ => true
def swNames (tc : TC) (line : Nat) (ts : List Expr) : List Str := ts.filterMap fun
    | .Name id pos => if tc.sc.names.lookup id == some .local && pos.line == line then some id else none
    | _ => none
/-- the names that a, b = x, y stores from the right; none: not told -/
def swSt (tc : TC) (ts vs : List Expr) : Option (Option (List Str)) :=
  if !(ts.length == 2 || ts.length == 3) || vs.length != ts.length then some none
  else if vs.any (fun | .Starred .. => true | _ => false) then some none
  else
    let names := swNames tc ((ts.head?.map (·.pos.line)).getD 0) ts
    if names.length != ts.length || names.eraseDups.length != names.length then some none
    else if vs.all (foldedForSure 8) then some none
    else if vs.all (constantsAlone 8) then none
    else some (some names)
def mAll (tc : TC) : List Expr → List Nat → Bool := namesB tc
mutual
def mS : St → TC → Stmt → Bool
  | .set i e, tc, s => match s with
    | .Assign [.Name y py] v _ => decide (tc.N[i]? = some y) && locB tc y && mE e tc v && okShape v && isFun tc.sc
    | _ => false
  | .setT is e, tc, s => match s with
    | .Assign [.Tuple ts _ _] v _ => namesB tc ts is && mE e tc v && okShape v && isFun tc.sc && (match v with
      | .Tuple vs _ _ => decide (swSt tc ts vs = some none)
      | _ => true)
    | _ => false
  | .par is es, tc, s => match s with
    | .Assign [.Tuple ts _ _] (.Tuple vs _ _) _ => isFun tc.sc && match is, ts with
      | [i, j], [.Name x _, .Name y _] => decide (tc.N[i]? = some x) && decide (tc.N[j]? = some y) && decide (i ≠ j) && decide (tc.sc.names.lookup x = some .local) && decide (tc.sc.names.lookup y = some .local) && mEs es tc vs && decide (swSt tc ts vs = some (some [x, y])) && decide (vs.length = 2)
      | [i, j, l], [.Name x _, .Name y _, .Name z _] => decide (tc.N[i]? = some x) && decide (tc.N[j]? = some y) && decide (tc.N[l]? = some z) && decide (i ≠ j) && decide (i ≠ l) && decide (j ≠ l) && decide (tc.sc.names.lookup x = some .local) && decide (tc.sc.names.lookup y = some .local) && decide (tc.sc.names.lookup z = some .local) && mEs es tc vs && decide (swSt tc ts vs = some (some [x, y, z])) && decide (vs.length = 3)
      | _, _ => false
    | _ => false
  | .aug i op e, tc, s => match s with
    | .AugAssign (.Name y _) o v _ => decide (tc.N[i]? = some y) && locB tc y && mE e tc v && (match op with
      | .add => decide (o = .Add)
      | .sub => decide (o = .Sub)
      | _ => false)
    | _ => false
  | .setIx i ix e, tc, s => match s with
    | .Assign [.Subscript (.Name y _) ie _] v _ => decide (tc.N[i]? = some y) && visB tc.sc y && nameOk y && mE ix tc ie && okShape ie && mE e tc v && okShape v
    | _ => false
  | .setIx2 i ix jx e, tc, s => match s with
    | .Assign [.Subscript (.Subscript (.Name y _) ie _) je _] v _ => decide (tc.N[i]? = some y) && visB tc.sc y && nameOk y && mE ix tc ie && okShape ie && mE jx tc je && okShape je && mE e tc v && okShape v
    | _ => false
  | .swap i a b c d, tc, s => match s with
    | .Assign [.Tuple [.Subscript (.Name y _) ae _, .Subscript (.Name y2 _) be _] _ _] (.Tuple [.Subscript (.Name y3 _) ce _, .Subscript (.Name y4 _) de _] _ _) _ => decide (tc.N[i]? = some y) && visB tc.sc y && nameOk y && decide (y2 = y) && decide (y3 = y) && decide (y4 = y) &&
        mE a tc ae && okShape ae && mE b tc be && okShape be && mE c tc ce && okShape ce && mE d tc de && okShape de && isFun tc.sc
    | _ => false
  | .append i e, tc, s => match s with
    | .Expr (.Call (.Attribute (.Name y _) m apos) [v] [] cpos) _ => decide (tc.N[i]? = some y) && visB tc.sc y && nameOk y && decide (m = "append") && (apos.endLine == cpos.line) && mE e tc v && okShape v
    | _ => false
  | .expr e, tc, s => match s with
    | .Expr v _ => mE e tc v && notComp v && okShape v
    | _ => false
  | .ite c a b, tc, s => match s with
    | .If t xs ys _ => mE c tc t && nT c && mSs a tc xs && mSs b tc ys
    | _ => false
  | .whl _ c b, tc, s => match s with
    | .While t xs ys _ => mE c tc t && nT c && mSs b tc xs && ys.isEmpty
    | _ => false
  | .for_ tg tup it b, tc, s => match s with
    | .For tge iter xs ys _ => mTg tc tg tup tge && mI it tc iter && okShape iter && mSs b tc xs && ys.isEmpty
    | _ => false
  | .ret e, tc, s => match s with
    | .Return (some v) _ => mE e tc v
    | _ => false
  | .retV i, tc, s => match s with
    | .Return (some (.Name y _)) _ => decide (tc.N[i]? = some y) && visB tc.sc y && nameOk y
    | _ => false
  | .retN, tc, s => match s with
    | .Return none _ => true
    | _ => false
  | .pass, tc, s => match s with
    | .Pass _ => true
    | _ => false
  | .brk, tc, s => match s with
    | .Break _ => true
    | _ => false
  | .cont, tc, s => match s with
    | .Continue _ => true
    | _ => false
  | .bad, _, _ => true
  | _, _, _ => false
def mSs : Sts → TC → List Stmt → Bool
  | .nil, _, xs => xs.isEmpty
  | .cons s ss, tc, xs => match xs with
    | x :: xs => mS s tc x && mSs ss tc xs
    | [] => false
  | .frz _ ss, tc, xs => mSs ss tc xs
  | .share _ ss, tc, xs => mSs ss tc xs
end
section
variable {X : Cx} {tc : TC}
theorem blockKind_of (hs : X.env.scope = tc.sc) (hf : isFun tc.sc = true) : X.env.blockKind = .function := by
  unfold Env.blockKind
  rw [hs]
  unfold isFun at hf
  split at hf
  · rename_i e; rw [e]; rfl
  · cases hf
theorem sw_of {v : Expr} {y : Str} {py : Pos} {line : Nat} (hs : X.env.scope = tc.sc) (hf : isFun tc.sc = true) (hv : okShape v = true) : swapsWith v (some (.Name y py)) line X.env = Pure.pure (swB tc y py v) := by
  have hb := blockKind_of hs hf
  cases v <;> first | rfl | (cases hv; done) | skip
  rename_i elt gens scope pos
  simp only [swapsWith, swB, hb, Env.kindOf, hs]
  rfl
theorem swN_of {v : Expr} {line : Nat} (hn : notComp v = true) (hv : okShape v = true) : swapsWith v none line X.env = Pure.pure false := by
  cases v <;> first | rfl | (cases hv; done) | (cases hn; done)
theorem swI_of {v o i : Expr} {p : Pos} {line : Nat} : okShape v = true → swapsWithSole [.Subscript o i p] v line X.env = Pure.pure false := by
  intro hv
  cases v <;> first | rfl | cases hv
theorem swT_of {v : Expr} {ts : List Expr} {k : Nat} {p : Pos} {line : Nat} : okShape v = true → swapsWithSole [.Tuple ts k p] v line X.env = Pure.pure false := by
  intro hv
  cases v <;> first | rfl | cases hv
theorem swS_of {v o i : Expr} {p : Pos} : swappedStores [.Subscript o i p] v X.env = Pure.pure none := by
  cases v <;> rfl
theorem swTn_of {v : Expr} {ts : List Expr} {k : Nat} {p : Pos} (hn : notTup v = true) : swappedStores [.Tuple ts k p] v X.env = Pure.pure none := by
  cases v <;> first | rfl | cases hn
theorem swTt_of {ts vs : List Expr} {k k2 : Nat} {p p2 : Pos} {o : Option (List Str)} (hs : X.env.scope = tc.sc) (hf : isFun tc.sc = true) (h : swSt tc ts vs = some o) : swappedStores [.Tuple ts k p] (.Tuple vs k2 p2) X.env = Pure.pure o := by
  have hb := blockKind_of hs hf
  unfold swappedStores
  simp only [hb, Env.kindOf, hs]
  have e : (ScopeKind.function != ScopeKind.function) = false := rfl
  rw [e, Bool.or_false]
  unfold swSt at h
  by_cases c1 : (!(ts.length == 2 || ts.length == 3) || vs.length != ts.length) = true
  · rw [if_pos c1] at h ⊢
    cases h; rfl
  rw [if_neg c1] at h ⊢
  split at h
  · rename_i c2
    cases h
    exact if_pos c2
  rename_i c2
  refine (if_neg c2).trans ?_
  dsimp only at h
  split at h
  · rename_i c3
    cases h
    exact if_pos c3
  rename_i c3
  refine (if_neg c3).trans ?_
  split at h
  · rename_i c4
    cases h
    exact if_pos c4
  rename_i c4
  refine (if_neg c4).trans ?_
  split at h
  · cases h
  rename_i c5
  cases h
  exact if_neg c5
end
section
variable {ca : Cls_} {call : Nat → List D → M D}
theorem len2 {α : Type} : ∀ {xs : List α}, xs.length = 2 → ∃ a b, xs = [a, b]
  | [a, b], _ => ⟨a, b, rfl⟩
  | [], h => by simp at h
  | [_], h => by simp at h
  | _ :: _ :: _ :: _, h => by simp at h
theorem len3 {α : Type} : ∀ {xs : List α}, xs.length = 3 → ∃ a b c, xs = [a, b, c]
  | [a, b, c], _ => ⟨a, b, c, rfl⟩
  | [], h => by simp at h
  | [_], h => by simp at h
  | [_, _], h => by simp at h
  | _ :: _ :: _ :: _ :: _, h => by simp at h
theorem asg_sub {X : Cx} {o ie : Expr} {p2 : Pos} (h : okShape ie = true) (v : Value) : assign (.Subscript o ie p2) X.env v = (do
      let ov ← holding [v] (eval o X.env)
      let iv ← holding [v, ov] (eval ie X.env)
      standAt p2
      holding [v, ov, iv] (setItem ov iv v)
      release [v, ov, iv] []) := by
  cases ie <;> first | rfl | (cases h; done)
theorem ss_bad {X : Cx} {W : WX} {s : Stmt} {f : Env → M Fl} (hf : ∀ env st, f env st = .err) : PS X s (TSv X.K ca W f) := ⟨fun pins s σ H D I ⟨T0, T, H0, env, S, st, r, w⟩ => by
  rw [hf] at w; exact w.elim⟩
mutual
theorem sS : ∀ (s : St) (tc : TC) (x : Stmt), mS s tc x = true → ∀ {k : Nat} {W : WX} {X : Cx}, GX ca k call tc W X → PassesOwn (model X.prog X.w) X.A X.env X.xe → PS X x (TSv X.K ca W (exec call s))
  | .set i e, tc, x, h, k, W, X, g, hp => by
    unfold mS at h
    split at h
    · simp only [Bool.and_eq_true, decide_eq_true_eq] at h
      obtain ⟨⟨⟨⟨h1, h2⟩, h3⟩, h4⟩, h5⟩ := h
      rename_i y py v pos
      obtain ⟨l1, l2⟩ := g.loc h2
      have hsw := sw_of (X := X) (tc := tc) (v := v) (y := y) (py := py) (line := pos.line) g.sc h5 h4
      cases hb : swB tc y py v with
      | false =>
        rw [hb] at hsw
        exact ss_set (ps_set g.nd (by rw [g.N]; exact h1) l1 (sE e tc v h3 g) hsw l2) fun _ _ _ w => w
      | true =>
        rw [hb] at hsw
        cases e with
        | comp elt tg tup it ifs own =>
          unfold mE at h3
          split at h3
          · rename_i el tge iter ifs' z scope pos'
            simp only [Bool.and_eq_true, decide_eq_true_eq] at h3
            obtain ⟨⟨⟨⟨⟨⟨⟨⟨⟨⟨rfl, q1⟩, q2⟩, q3⟩, q4⟩, q5⟩, q6⟩, q7⟩, q8⟩, q9⟩, q10⟩ := h3
            have hbk := blkOk_by q1
            rw [← g.N, ← g.sc] at hbk
            have hyl : X.env.scope.names.lookup y = some .local := by
              rw [g.sc]
              simp only [swB, Bool.and_eq_true, beq_iff_eq] at hb
              exact hb.1.1
            have hr := ss_setLc (ca := ca) (W := W) g.calm g.nd (by rw [g.N]; exact h1) hyl hsw (sI it tc _ q4 g) hbk (by rw [q2]; exact q3) (fun s H C cl fp => (g.blk _ s H C cl fp).tg q6) (fun s H C cl fp => sIfs ifs _ _ q7 q8 q9 (g.blk _ s H C cl fp)) (fun s H C cl fp => sE elt _ _ q10 (g.blk _ s H C cl fp)) (fun x => fold_plain q5 x)
            rw [q2] at hr
            exact hr
          · cases h3
        | bad => exact ss_bad fun env st => rfl
        | _ => cases v <;> first | (cases hb; done) | (simp [mE] at h3; done)
    · cases h
  | .setT is e, tc, x, h, k, W, X, g, hp => by
    unfold mS at h
    split at h
    · simp only [Bool.and_eq_true] at h
      obtain ⟨⟨⟨⟨h1, h2⟩, h3⟩, h4⟩, h5⟩ := h
      rename_i ts kt pt v pos
      obtain ⟨n1, n2⟩ := names_each (g.names h1) X.env
      have hw : swappedStores [.Tuple ts kt pt] v X.env = Pure.pure none := by
        cases v <;> first | exact swTn_of rfl | skip
        exact swTt_of g.sc h4 (of_decide_eq_true h5)
      exact ss_setT (ps_asg (sE e tc v h2 g) (pg_tup g.calm (sg_names g.nd (g.names h1)) n1 n2) (swT_of h3) hw) rfl fun _ _ _ w => w
    · cases h
  | .par is es, tc, x, h, k, W, X, g, hp => by
    unfold mS at h
    split at h
    · simp only [Bool.and_eq_true] at h
      obtain ⟨hf, h⟩ := h
      split at h
      · simp only [Bool.and_eq_true, decide_eq_true_eq] at h
        obtain ⟨⟨⟨⟨⟨⟨⟨h1, h2⟩, h3⟩, h4⟩, h5⟩, h6⟩, h7⟩, h8⟩ := h
        obtain ⟨a, b, rfl⟩ := len2 h8
        · have ha := sAs es tc [a, b] h6 g
          refine ss_par (ps_par g.calm g.nd (by rw [g.N]; exact h1) (by rw [g.N]; exact h2) h3 (by rw [g.sc]; exact h4) (by rw [g.sc]; exact h5) ha (swTt_of g.sc hf h7)) fun D σ H ⟨T, env, st, eb, so, w⟩ => ⟨T, env, st, eb, so, w.imp fun ds st' _ q vs H' S e s r f => ?_⟩
          obtain ⟨q1, q2⟩ := q vs H' S e s r f
          match vs, q1, q2 with
          | [v, w], _, q2 => exact ⟨v, w, rfl, q2⟩
      · simp only [Bool.and_eq_true, decide_eq_true_eq] at h
        obtain ⟨⟨⟨⟨⟨⟨⟨⟨⟨⟨⟨h1, h2⟩, h3⟩, h4⟩, h5⟩, h6⟩, h7⟩, h8⟩, h9⟩, h10⟩, h11⟩, h12⟩ := h
        obtain ⟨a, b, c, rfl⟩ := len3 h12
        · have ha := sAs es tc [a, b, c] h10 g
          refine ss_par (ps_par3 g.calm g.nd (by rw [g.N]; exact h1) (by rw [g.N]; exact h2) (by rw [g.N]; exact h3) h4 h5 h6 (by rw [g.sc]; exact h7) (by rw [g.sc]; exact h8) (by rw [g.sc]; exact h9) ha (swTt_of g.sc hf h11)) fun D σ H ⟨T, env, st, eb, so, w⟩ => ⟨T, env, st, eb, so, w.imp fun ds st' _ q vs H' S e s r f => ?_⟩
          obtain ⟨q1, q2⟩ := q vs H' S e s r f
          match vs, q1, q2 with
          | [u, v, w], _, q2 => exact ⟨u, v, w, rfl, q2⟩
      · cases h
    · cases h
  | .aug i op e, tc, x, h, k, W, X, g, hp => by
    unfold mS at h
    split at h
    · simp only [Bool.and_eq_true, decide_eq_true_eq] at h
      obtain ⟨⟨⟨h1, h2⟩, h3⟩, h4⟩ := h
      obtain ⟨l1, l2⟩ := g.loc h2
      cases op with
      | add =>
        obtain rfl := of_decide_eq_true h4
        exact ss_aug (ps_aug g.nd (by rw [g.N]; exact h1) l1 (sE e tc _ h3 g) ip_add l2) (.inl ⟨rfl, rfl⟩)
      | sub =>
        obtain rfl := of_decide_eq_true h4
        exact ss_aug (ps_aug g.nd (by rw [g.N]; exact h1) l1 (sE e tc _ h3 g) ip_sub l2) (.inr ⟨rfl, rfl⟩)
      | _ => cases h4
    · cases h
  | .setIx i ix e, tc, x, h, k, W, X, g, hp => by
    unfold mS at h
    split at h
    · simp only [Bool.and_eq_true, decide_eq_true_eq] at h
      obtain ⟨⟨⟨⟨⟨⟨h1, h2⟩, h3⟩, h4⟩, h5⟩, h6⟩, h7⟩ := h
      obtain ⟨n1, n2⟩ := nameOk_1 h3
      refine ss_setIx (by rw [g.N]; exact h1) (g.vis h2) n1 n2 (sE e tc _ h6 g) (sE ix tc _ h4 g) (fun v => ?_) (swI_of h7) swS_of rfl
      rename_i y p1 ie p2 v' pos
      cases ie <;> first | rfl | (cases h5; done)
    · cases h
  | .setIx2 i ix jx e, tc, x, h, k, W, X, g, hp => by
    unfold mS at h
    split at h
    · simp only [Bool.and_eq_true, decide_eq_true_eq] at h
      obtain ⟨⟨⟨⟨⟨⟨⟨⟨h1, h2⟩, h3⟩, h4⟩, h5⟩, h6⟩, h7⟩, h8⟩, h9⟩ := h
      obtain ⟨n1, n2⟩ := nameOk_1 h3
      exact ss_setIx2 (by rw [g.N]; exact h1) (g.vis h2) n1 n2 (sE e tc _ h8 g) (sE ix tc _ h4 g) (sE jx tc _ h6 g) (ix_plain h5) (asg_sub h7) (swI_of h9) swS_of rfl
    · cases h
  | .swap i a b c d, tc, x, h, k, W, X, g, hp => by
    unfold mS at h
    split at h
    · simp only [Bool.and_eq_true, decide_eq_true_eq] at h
      obtain ⟨⟨⟨⟨⟨⟨⟨⟨⟨⟨⟨⟨⟨⟨h1, h2⟩, h3⟩, rfl⟩, rfl⟩, rfl⟩, h4⟩, h5⟩, h6⟩, h7⟩, h8⟩, h9⟩, h10⟩, h11⟩, h12⟩ := h
      obtain ⟨n1, n2⟩ := nameOk_1 h3
      exact ss_swap (by rw [g.N]; exact h1) (g.vis h2) n1 n2 (sE a tc _ h4 g) (sE b tc _ h6 g) (sE c tc _ h8 g) (sE d tc _ h10 g) (ix_plain h9) (ix_plain h11) g.calm (asg_sub h5) (asg_sub h7) (swT_of rfl) (swTt_of g.sc h12 rfl)
    · cases h
  | .append i e, tc, x, h, k, W, X, g, hp => by
    unfold mS at h
    split at h
    · simp only [Bool.and_eq_true, decide_eq_true_eq] at h
      obtain ⟨⟨⟨⟨⟨⟨h1, h2⟩, h3⟩, rfl⟩, h5⟩, h6⟩, h7⟩ := h
      obtain ⟨n1, n2⟩ := nameOk_1 h3
      exact ss_append (pe_bm PySem.F.plainAttrs_list PySem.F.slot_list_append PySem.F.type_list_append mt_append (pe_var (by rw [g.N]; exact h1) (g.vis h2) n1 n2) (sa_cons (sE e tc _ h6 g) sa_nil (star_plain h7)) rfl (by rw [star_plain h7]; rfl) h5 (star_plain h7) rfl) rfl
    · cases h
  | .expr e, tc, x, h, k, W, X, g, hp => by
    unfold mS at h
    split at h
    · simp only [Bool.and_eq_true] at h
      exact ss_expr (sE e tc _ h.1.1 g) (swN_of h.1.2 h.2)
    · cases h
  | .ite c a b, tc, x, h, k, W, X, g, hp => by
    unfold mS at h
    split at h
    · simp only [Bool.and_eq_true] at h
      exact ss_ite (sT c tc _ h.1.1.1 h.1.1.2 g) (sSs a tc _ h.1.2 g hp) (sSs b tc _ h.2 g hp)
    · cases h
  | .whl n c b, tc, x, h, k, W, X, g, hp => by
    unfold mS at h
    split at h
    · simp only [Bool.and_eq_true, List.isEmpty_iff] at h
      obtain ⟨⟨⟨h1, h2⟩, h3⟩, rfl⟩ := h
      exact ss_while hp (sT c tc _ h1 h2 g) (sSs b tc _ h3 g hp)
    · cases h
  | .for_ tg tup it b, tc, x, h, k, W, X, g, hp => by
    unfold mS at h
    split at h
    · simp only [Bool.and_eq_true, List.isEmpty_iff] at h
      obtain ⟨⟨⟨⟨h1, h2⟩, h3⟩, h4⟩, rfl⟩ := h
      exact ss_for hp g.calm (sZ it tc _ h2 g) (g.tgr h1) (sSs b tc _ h4 g hp) fun x => fold_plain h3 x
    · cases h
  | .ret e, tc, x, h, k, W, X, g, hp => by
    unfold mS at h
    split at h
    · exact ss_ret (sE e tc _ h g)
    · cases h
  | .retV i, tc, x, h, k, W, X, g, hp => by
    unfold mS at h
    split at h
    · simp only [Bool.and_eq_true, decide_eq_true_eq] at h
      obtain ⟨n1, n2⟩ := nameOk_1 h.2
      exact ss_retV (pe_var (by rw [g.N]; exact h.1.1) (g.vis h.1.2) n1 n2)
    · cases h
  | .retN, tc, x, h, k, W, X, g, hp => by
    unfold mS at h
    split at h
    · exact ss_retN
    · cases h
  | .pass, tc, x, h, k, W, X, g, hp => by
    unfold mS at h
    split at h
    · exact ss_pass
    · cases h
  | .brk, tc, x, h, k, W, X, g, hp => by
    unfold mS at h
    split at h
    · exact ss_brk
    · cases h
  | .cont, tc, x, h, k, W, X, g, hp => by
    unfold mS at h
    split at h
    · exact ss_cont
    · cases h
  | .bad, tc, x, h, k, W, X, g, hp => ss_bad fun env st => rfl
  | .augIx _ _ _ _, tc, x, h, k, W, X, g, hp => by simp [mS] at h
  | .extend _ _, tc, x, h, k, W, X, g, hp => by simp [mS] at h
  | .popT _ _ _, tc, x, h, k, W, X, g, hp => by simp [mS] at h
  | .popAt _ _ _ _, tc, x, h, k, W, X, g, hp => by simp [mS] at h
theorem sSs : ∀ (ss : Sts) (tc : TC) (xs : List Stmt), mSs ss tc xs = true → ∀ {k : Nat} {W : WX} {X : Cx}, GX ca k call tc W X → PassesOwn (model X.prog X.w) X.A X.env X.xe → PSs X xs (TSv X.K ca W (execs call ss))
  | .nil, tc, [], h, k, W, X, g, hp => ss_nil
  | .nil, tc, _ :: _, h, k, W, X, g, hp => by simp [mSs] at h
  | .cons s ss, tc, [], h, k, W, X, g, hp => by simp [mSs] at h
  | .cons s ss, tc, x :: xs, h, k, W, X, g, hp => by
    simp only [mSs, Bool.and_eq_true] at h
    exact ss_cons (sS s tc x h.1 g hp) (sSs ss tc xs h.2 g hp)
  | .frz i ss, tc, xs, h, k, W, X, g, hp => ss_frz (sSs ss tc xs (by simpa [mSs] using h) g hp)
  | .share i ss, tc, xs, h, k, W, X, g, hp => ss_share (sSs ss tc xs (by simpa [mSs] using h) g hp)
end
end
end PL
namespace PL
open PySem PySem.Spec PyProof.Rows L2

/-! ### functions -/
mutual
/-- shared lists below n alone -/
def D.refB (n : Nat) : D → Bool
  | .tup ds => refBL n ds
  | .lst _ ds => refBL n ds
  | .sref k => decide (k < n)
  | _ => true
def refBL (n : Nat) : List D → Bool
  | [] => true
  | d :: ds => d.refB n && refBL n ds
end
structure Fn where
  n : Nat
  m : Nat
  body : Sts
def startE (F : Fn) (ds : List D) : Env := (frzL ds).map some ++ List.replicate (F.m - F.n) none
/-- behind a call: the shared lists that it made are gone -/
def backM (n : Nat) (d : D) (st' : Store) (k : D → Store → Res D) : Res D :=
  if st'.length = n then k d st' else if d.refB n && (st'.take n).all (refBL n) then k d (st'.take n) else .err
def runF (call : Nat → List D → M D) (F : Fn) (ds : List D) : M D := fun st =>
  if keepL ds && decide (ds.length = F.n) then match execs call F.body (startE F ds) st with
    | .ok (.rt d) st' => backM st.length d st' .ok
    | .ok (.nx _) st' => backM st.length .non st' .ok
    | .ok _ _ => .err
    | .exn c p st' => backM st.length p st' (.exn c)
    | .err => .err
  else .err
def callK (fs : List Fn) : Nat → Nat → List D → M D
  | 0, _, _ => M.fail
  | k + 1, f, ds => match fs[f]? with
    | some F => runF (callK fs k) F ds
    | none => M.fail
structure FT where
  name : Str
  st : Stmt
  N : List Str
  F : Fn
def FT.ps (t : FT) : List Str := t.N.take t.F.n
def scopeB (N ps : List Str) (sc : Scope) : Bool := isFun sc && !sc.isCoroutine && !sc.isGenerator && decide N.Nodup && (ps.all fun x => match sc.names.lookup x with | some .local => true | some .cell => true | _ => false) && (sc.names.all fun y => match y.2 with | .free => false | _ => true)
def FT.ok (cmb : Bool) (fns : List Str) (t : FT) : Bool := scopeB t.N t.ps (defScope t.st) && decide (t.F.n ≤ t.N.length) && decide (t.F.m = t.N.length) && mSs t.F.body ⟨t.N, defScope t.st, none, fns, cmb⟩ (defBody t.st)
theorem FT.ps_len {t : FT} (h : t.F.n ≤ t.N.length) : t.ps.length = t.F.n := by
  unfold FT.ps
  rw [List.length_take]; omega
theorem FT.scope {cmb : Bool} {fns : List Str} {t : FT} (h : t.ok cmb fns = true) : FnScope t.N t.ps (defScope t.st) := by
  simp only [FT.ok, scopeB, Bool.and_eq_true, decide_eq_true_eq, Bool.not_eq_true'] at h
  obtain ⟨⟨⟨⟨⟨⟨⟨⟨h1, h2⟩, h3⟩, h4⟩, h5⟩, h6⟩, h7⟩, h8⟩, h9⟩ := h
  refine ⟨?_, h2, h3, h4, ?_, fun x hx => ?_, fun y hy => ?_⟩
  · unfold isFun at h1
    split at h1
    · assumption
    · cases h1
  · rw [FT.ps_len h7]; rfl
  · have q := List.all_eq_true.mp h5 x hx
    split at q
    · exact .inl (by assumption)
    · exact .inr (by assumption)
    · cases q
  · have q := List.all_eq_true.mp h6 y hy
    intro e
    rw [e] at q
    cases q
/-! ### back -/
section
variable {K : PySem.W.Frag} {T T' : Ts} {H : Hp} {more : List Addr}
theorem no_back {a : Addr} (e1 : T'.sh = T.sh ++ more) (e2 : T'.hid = T.hid) (n : T'.no a) : T.no a := ⟨fun m => n.1 (by rw [e1]; exact List.mem_append_left _ m), fun m => n.2 (by rw [e2]; exact m)⟩
mutual
theorem Rep.back (e1 : T'.sh = T.sh ++ more) (e2 : T'.hid = T.hid) : ∀ {v : V} {d : D} {S : List Addr}, Rep K T' H v d S → d.refB T.sh.length = true → Rep K T H v d S
  | _, _, _, .non, _ => .non
  | _, _, _, .bl b, _ => .bl b
  | _, _, _, .int i, _ => .int i
  | _, _, _, .str x, _ => .str x
  | _, _, _, .tup h r, k => .tup h (RepL.back e1 e2 r (by simpa [D.refB] using k))
  | _, _, _, .own h n r, k => .own h (no_back e1 e2 n) (RepL.back e1 e2 r (by simpa [D.refB] using k))
  | _, _, _, .fro h r k', k => .fro h (RepL.back e1 e2 r (by simpa [D.refB] using k)) k'
  | _, _, _, .bor h n r, k => .bor h (no_back e1 e2 n) (RepL.back e1 e2 r (by simpa [D.refB] using k))
  | _, _, _, .scr h r k', k => .scr h (RepL.back e1 e2 r (by simpa [D.refB] using k)) k'
  | _, _, _, .sref h, k => by
    simp only [D.refB, decide_eq_true_eq] at k
    rw [e1, List.getElem?_append_left k] at h
    exact .sref h
theorem RepL.back (e1 : T'.sh = T.sh ++ more) (e2 : T'.hid = T.hid) : ∀ {vs : List V} {ds : List D} {S : List Addr}, RepL K T' H vs ds S → refBL T.sh.length ds = true → RepL K T H vs ds S
  | _, _, _, .nil, _ => .nil
  | _, _, _, .cons r t, k => by
    simp only [refBL, Bool.and_eq_true] at k
    exact .cons (Rep.back e1 e2 r k.1) (RepL.back e1 e2 t k.2)
end
theorem SOk.back {st' : Store} (e1 : T'.sh = T.sh ++ more) (e2 : T'.hid = T.hid) (s : SOk K T' H st') (h : (st'.take T.sh.length).all (refBL T.sh.length) = true) : SOk K T H (st'.take T.sh.length) :=
  ⟨(by have := s.nd; rw [e1] at this; exact (List.nodup_append.mp this).1), (by
    have := s.len
    rw [e1, List.length_append] at this
    rw [List.length_take]; omega), fun n a ds g1 g2 => by
    have hn : n < T.sh.length := (List.getElem?_eq_some_iff.mp g1).1
    have g2' := g2
    rw [List.getElem?_take_of_lt hn] at g2'
    obtain ⟨xs, q1, q2, q3⟩ := s.at_ n a ds (by rw [e1, List.getElem?_append_left hn]; exact g1) g2'
    exact ⟨xs, q1, q2.back e1 e2 (List.all_eq_true.mp h ds (List.mem_of_getElem? g2)), q3⟩, fun a m => s.hid a (by rw [e2]; exact m)⟩
theorem Ts.same (e1 : T'.sh = T.sh) (e2 : T'.hid = T.hid) : T' = T := by
  cases T; cases T'; cases e1; cases e2; rfl
/-- what stands behind a call -/
theorem back_ok {st st' : Store} {d : D} {R : D → Store → Res D} {P : Res D → Prop} (so0 : T.sh.length = st.length) (e1 : T'.sh = T.sh ++ more) (e2 : T'.hid = T.hid) (s : SOk K T' H st') (h : P (backM st.length d st' R)) (hP : ¬ P .err)
    {v : V} {S : List Addr} (r : Rep K T' H v d S) : ∃ st2, P (R d st2) ∧ SOk K T H st2 ∧ Rep K T H v d S := by
  unfold backM at h
  split at h
  · rename_i hl
    have : more = [] := by
      have z := s.len
      rw [e1, List.length_append] at z
      exact List.eq_nil_of_length_eq_zero (by omega)
    subst this
    have eT := Ts.same (by rw [e1, List.append_nil]) e2
    subst eT
    exact ⟨st', h, s, r⟩
  · split at h
    · rename_i hr
      simp only [Bool.and_eq_true] at hr
      rw [← so0] at hr h
      exact ⟨_, h, s.back e1 e2 hr.2, r.back e1 e2 hr.1⟩
    · exact absurd h hP
end
theorem EnvR.start {K : PySem.W.Frag} {T : Ts} {H : Hp} (n : Nat) : ∀ {vs : List V} {ds : List D}, RepL K T H vs ds [] → keepL ds = true → EnvR K T H (vs.map some ++ List.replicate n none) (ds.map some ++ List.replicate n none) []
  | [], [], _, _ => by
    simp only [List.map_nil, List.nil_append]
    induction n with
    | zero => exact .em
    | succ n ih => exact .un ih
  | v :: vs, [], r, _ => nomatch r
  | [], d :: ds, r, _ => nomatch r
  | v :: vs, d :: ds, r, k => by
    generalize hS : ([] : List Addr) = S0 at r
    cases r with
    | cons r t =>
      obtain ⟨z1, z2⟩ := List.append_eq_nil_iff.mp hS.symm
      subst z1; subst z2
      simp only [keepL, Bool.and_eq_true] at k
      exact EnvR.is (S := []) (S' := []) r k.1 (EnvR.start n t k.2)
theorem PSs.ghost {X : Cx} {xs : List Stmt} {t : TS} (h : PSs X xs t) : PSs X xs fun D σ H => ∃ S : List Addr, S.Nodup ∧ (∀ a ∈ S, ∃ xs, H a = some (.lst xs)) ∧ ∀ H2, Fz S H H2 → t D σ H2 := by
  refine ⟨fun pins s σ H D I ⟨S, nd, dm, w⟩ => ?_⟩
  obtain ⟨H2, I2, fz⟩ := Inv.freezeS S I nd dm
  exact h.run pins s σ H2 D I2 (w H2 fz)
theorem callK_len {fs : List FT} {f : Nat} {t : FT} (h : fs[f]? = some t) : ∀ (k : Nat) (ds : List D) (st : Store), ds.length ≠ t.F.n → callK (fs.map FT.F) k f ds st = .err
  | 0, _, _, _ => rfl
  | k + 1, ds, st, hl => by
    unfold callK
    rw [List.getElem?_map, h]
    show runF _ t.F ds st = .err
    unfold runF
    rw [if_neg]
    simp [hl]
/-- THE RULE: every def of the table -/
theorem fn_tab {cmb : Bool} {fs : List FT} {P : Program} {w : World} {K : PySem.W.Frag} {mg : Str → Option Value} {base : Heap} (ca : Cls_) (hok : ∀ t ∈ fs, t.ok cmb (fs.map FT.name) = true)
    (facts : ∀ t ∈ fs, ∃ fa fd, mg t.name = some (.ref fa) ∧ Fun K t.name t.name t.st fa fd ∧ Binds K fd t.ps []) (blts : ∀ x ∈ bltNames, mg x = none) (hcmb : cmb = true → mg "combinations" = some (.type "itertools.combinations")) :
    ∀ (k f : Nat) (t : FT), fs[f]? = some t → ∀ (fa : Addr) (fd : FuncData), Fun K t.name t.name t.st fa fd → FnOk P w K mg base (L2.CX P w) k fa fd t.ps (spOf K ca t.F.n (callK (fs.map FT.F) k f))
  | 0, f, t, ht, fa, fd, F => by
    have hno : ∀ vs H Q E, spOf K ca t.F.n (callK (fs.map FT.F) 0 f) vs H Q E → False := fun vs H Q E ⟨_, T, st, ds, S, _, _, _, h⟩ => h
    exact ⟨fun vs H Q E h => (hno _ _ _ _ h).elim, fun A outer s H args us vs Q E hr e0 hb r h => (hno _ _ _ _ h).elim⟩
  | k + 1, f, t, ht, fa, fd, F => by
    have htm : t ∈ fs := List.mem_of_getElem? ht
    have hk := hok t htm
    have S := FT.scope hk
    simp only [FT.ok, Bool.and_eq_true, decide_eq_true_eq] at hk
    obtain ⟨⟨⟨_, hn⟩, hm⟩, hb⟩ := hk
    refine F.okX S (fun vs H Q E h => by rw [FT.ps_len hn]; exact h.1) fun cdv A outer s H vs Q E hr h => ?_
    obtain ⟨hl, T, st, ds, S0, rl, nd, so, hw⟩ := h
    have g : GX ca k (callK (fs.map FT.F) k) ⟨t.N, defScope t.st, none, fs.map FT.name, cmb⟩ (fun cls d _ H => E cls d H) (cxOf (L2.CX P w) P w K mg base t.N t.name (defScope t.st) fa cdv A outer s H E) :=
      ⟨rfl, S.nd, rfl, rfl, fun _ _ => rfl, hr, takes_of rfl rfl rfl rfl, blts, hcmb, fun f' y hy => by
        have hy' : (fs.map FT.name)[f']? = some y := hy
        rw [List.getElem?_map] at hy'
        cases hf : fs[f']? with
        | none => rw [hf] at hy'; cases hy'
        | some t' =>
          rw [hf] at hy'
          have ey : t'.name = y := Option.some.inj hy'
          subst ey
          obtain ⟨fa', fd', q1, q2, q3⟩ := facts t' (List.mem_of_getElem? hf)
          exact ⟨fa', fd', t'.ps, t'.F.n, q1, q2.kp, q3, fun ds st h => callK_len hf k ds st h, fn_tab ca hok facts blts hcmb k f' t' hf fa' fd' q2⟩⟩
    refine ⟨_, PSs.ghost (sSs t.F.body _ (defBody t.st) hb g (passes_of rfl)), S0, nd, rl.dom, fun H2 fz => ?_⟩
    have hcall : callK (fs.map FT.F) (k + 1) f = runF (callK (fs.map FT.F) k) t.F := by
      funext ds
      show (match (fs.map FT.F)[f]? with | some F => runF (callK (fs.map FT.F) k) F ds | none => M.fail) = _
      rw [List.getElem?_map, ht]; rfl
    rw [hcall] at hw
    have hw' := hw
    unfold runF at hw'
    by_cases hkeep : (keepL ds && decide (ds.length = t.F.n)) = true
    case neg => rw [if_neg hkeep] at hw'; exact hw'.elim
    rw [if_pos hkeep] at hw'
    simp only [Bool.and_eq_true, decide_eq_true_eq] at hkeep
    obtain ⟨q1, q2⟩ := rl.frz fz (fun a m => m) hkeep.1
    have so2 : SOk K T H2 st := so.chg fz.chg rl.noT fun a m => by
      rw [fz.out a fun z => (rl.noT a z).2 m]
      exact so.hid a m
    have hlen : t.N.length - vs.length = t.F.m - t.F.n := by rw [hm, hl]
    have en : EnvR K T H2 (L2.start t.N vs) (startE t.F ds) [] := by
      unfold L2.start startE
      rw [hlen]
      exact EnvR.start _ q1 q2
    have re : RE K T T H2 H2 (L2.start t.N vs) (startE t.F ds) [] st := ⟨en, List.nodup_nil, fun _ m => (nomatch m), Ext.refl _ _, so2, ⟨st, so2⟩, ⟨[], (List.append_nil _).symm, fun _ m => (nomatch m)⟩, rfl⟩
    -- what stays
    have exs : ∀ {H'}, Ext T H2 H' → ExtS S0 T H H' := fun {H'} e a o h n1 n2 => e a o ((fz.out a n1).trans h) n2
    have frb : ∀ a, H2 a = none → H a = none := fun a h => by
      by_cases m : a ∈ S0
      · obtain ⟨o, xs, _, z⟩ := fz.at_ a m
        rw [z] at h; cases h
      · rw [← fz.out a m]; exact h
    refine ⟨T, T, H2, startE t.F ds, [], st, re, ?_⟩
    cases he : execs (callK (fs.map FT.F) k) t.F.body (startE t.F ds) st with
    | ok fl st' =>
      rw [he] at hw'
      cases fl with
      | rt d =>
        intro T' v H' S' e ⟨⟨more, g1, g2⟩, g3⟩ s1 rv kd nd' fr
        obtain ⟨st2, z, s2, r2⟩ := back_ok (P := fun r => match r with
          | .ok d st' => ∀ v H' S', ExtS S0 T H H' → SOk K T H' st' → Rep K T H' v d S' → S'.Nodup → (∀ a ∈ S', H a = none) → Q v H'
          | .exn c p st' => ∀ H' dx, ExtS S0 T H H' → SOk K T H' st' → H dx = none → XnOk K T H' dx (ca c).2 p → E (.ref (ca c).1) (some dx) H'
          | .err => False) so.len g1 g3 s1 hw' (fun h => h) rv
        exact z v H' S' (exs e) s2 r2 nd' fun a m => frb a (fr a m)
      | nx env' =>
        intro T' σ' H' S' im tl r'
        obtain ⟨more, g1, g2⟩ := r'.grow
        obtain ⟨st2, z, s2, r2⟩ := back_ok (P := fun r => match r with
          | .ok d st' => ∀ v H' S', ExtS S0 T H H' → SOk K T H' st' → Rep K T H' v d S' → S'.Nodup → (∀ a ∈ S', H a = none) → Q v H'
          | .exn c p st' => ∀ H' dx, ExtS S0 T H H' → SOk K T H' st' → H dx = none → XnOk K T H' dx (ca c).2 p → E (.ref (ca c).1) (some dx) H'
          | .err => False) so.len g1 r'.hid r'.so hw' (fun h => h) (v := .non) (S := []) .non
        exact z .non H' [] (exs r'.ext) s2 .non List.nodup_nil fun _ m => (nomatch m)
      | bk env' => exact hw'.elim
      | ct env' => exact hw'.elim
    | exn c p st' =>
      rw [he] at hw'
      intro T' σ' H' dx e ⟨⟨more, g1, g2⟩, g3⟩ s1 hd ⟨v, fs', x1, x2, x3, x4⟩
      obtain ⟨st2, z, s2, r2⟩ := back_ok (P := fun r => match r with
          | .ok d st' => ∀ v H' S', ExtS S0 T H H' → SOk K T H' st' → Rep K T H' v d S' → S'.Nodup → (∀ a ∈ S', H a = none) → Q v H'
          | .exn c p st' => ∀ H' dx, ExtS S0 T H H' → SOk K T H' st' → H dx = none → XnOk K T H' dx (ca c).2 p → E (.ref (ca c).1) (some dx) H'
          | .err => False) so.len g1 g3 s1 hw' (fun h => h) x3
      exact z H' dx (exs e) s2 (frb dx hd) ⟨v, fs', x1, x2, r2, x4⟩
    | err => rw [he] at hw'; exact hw'.elim
/-! ### the law -/
def spLaw (K : PySem.W.Frag) : Sp := fun vs H Q _ => ∃ (a : Addr) (ns : List Int), vs = [.ref a] ∧ SqL K H a (ns.map V.int) ∧ ns.length ≤ 63 ∧ Only H ∧ ∀ H', Q (.bl true) H'
theorem law_tab {cmb : Bool} {fs : List FT} {P : Program} {w : World} {K : PySem.W.Frag} {mg : Str → Option Value} {base : Heap} (hok : ∀ t ∈ fs, t.ok cmb (fs.map FT.name) = true)
    (facts : ∀ t ∈ fs, ∃ fa fd, mg t.name = some (.ref fa) ∧ Fun K t.name t.name t.st fa fd ∧ Binds K fd t.ps []) (blts : ∀ x ∈ bltNames, mg x = none) (hcmb : cmb = true → mg "combinations" = some (.type "itertools.combinations"))
    {k f : Nat} {t : FT} (ht : fs[f]? = some t) (hn : t.F.n = 1) (hp : t.ps = [("script" : Str)]) (law : ∀ ns : List Int, ns.length ≤ 63 → ∃ st', callK (fs.map FT.F) k f [.lst .scr (ns.map D.int)] [] = .ok (.bl true) st') {fa : Addr} {fd : FuncData} (F : Fun K t.name t.name t.st fa fd) :
    FnOk P w K mg base (L2.CX P w) k fa fd [("script" : Str)] (spLaw K) := by
  have h := fn_tab (P := P) (w := w) (base := base) (fun _ => (0, ⟨#[]⟩)) hok facts blts hcmb k f t ht fa fd F
  rw [hp] at h
  refine h.imp fun vs H Q E ⟨a, ns, e, sq, hl, on, q⟩ => ?_
  subst e
  obtain ⟨st', hlaw⟩ := law ns hl
  refine ⟨by rw [hn]; rfl, ⟨[], []⟩, [], [.lst .scr (ns.map D.int)], [], ?_, List.nodup_nil, ⟨List.nodup_nil, rfl, fun n a ds h => by simp at h, fun _ m => (nomatch m)⟩, ?_⟩
  · have sc : ScrL K H a (ns.map V.int) := by
      rcases sq with (z | ⟨o, z⟩) | z
      · rcases on a with w | ⟨o, xs, w⟩
        · rw [z] at w; cases w
        · rw [z] at w; cases w
      · exact .inl ⟨o, z⟩
      · exact .inr z
    have kl : ∀ ns : List Int, keepL (ns.map D.int) = true := fun ns => by
      induction ns with
      | nil => rfl
      | cons n ns ih => show (true && keepL _) = true; rw [ih]; rfl
    exact RepL.cons (S := []) (S' := []) (.scr sc (rep_ints ns) (kl ns)) .nil
  · rw [hlaw]
    intro v H' S' _ _ rv _ _
    cases rv
    exact q H'
end PL
namespace PL
open PySem PySem.Spec PyProof.Rows L2

/-! ### what the top has written -/
def FF (K : PySem.W.Frag) (t : FT) : Prop := ∃ fa fd, PySem.W.nsIn K mainGlobals t.name = some (some (.ref fa)) ∧ Fun K t.name t.name t.st fa fd ∧ Binds K fd t.ps []
theorem ff_mk {K : PySem.W.Frag} {t : FT} {fa : Addr} {od an : Option Addr} {osl : Array (Option Value)} {oc kV dc pm cd ct : Value}
    (b : ∀ (kV doc pm : Value) (an : Option Addr) (cdv ct : Value) (us : List Value), us.length = t.ps.length → bindArgs (PySem.W.fnOf t.name t.name (defArgs t.st) (defBody t.st) (defScope t.st) .none kV doc pm an cdv ct) ⟨us, []⟩ = Pure.pure (t.ps.zip us))
    (a : PySem.W.nsIn K mainGlobals t.name = some (some (.ref fa))) (l : K.lookup fa = some ⟨oc, od, .func (PySem.W.fnOf t.name t.name (defArgs t.st) (defBody t.st) (defScope t.st) .none kV dc pm an cd ct), osl⟩) (c : PySem.W.codeIn K cd t.name = true) (k : PySem.W.keepIn K (.ref fa) = true) : FF K t :=
  ⟨fa, _, a, fun_mk l c k, (fun_mk l c k).binds b⟩
theorem law_mk {cmb : Bool} {fs : List FT} (hok : (fs.all fun t => t.ok cmb (fs.map FT.name)) = true) {P : Program} {w : World} {K : PySem.W.Frag} {h : Heap} {mg : Str → Option Value} {fa : Addr} {k f : Nat} {t : FT} (ht : fs[f]? = some t) (hn : t.F.n = 1) (hp : t.ps = [("script" : Str)]) (hnm : t.name = "law")
    (hb : ∀ (kV doc pm : Value) (an : Option Addr) (cdv ct : Value) (s : Shared) (v : Value), BindsTo s (PySem.W.fnOf t.name t.name (defArgs t.st) (defBody t.st) (defScope t.st) .none kV doc pm an cdv ct) ⟨[v], []⟩ [(("script" : Str), v)])
    (law : ∀ ns : List Int, ns.length ≤ 63 → ∃ st', callK (fs.map FT.F) k f [.lst .scr (ns.map D.int)] [] = .ok (.bl true) st')
    (X : K.In h) (G : h.Ns mainGlobals mg) (hfa : mg "law" = some (.ref fa)) (facts : ∀ t ∈ fs, FF K t) (z : ∀ x ∈ bltNames, PySem.W.nsIn K mainGlobals x = some none) (hcmb : cmb = true → PySem.W.nsIn K mainGlobals "combinations" = some (some (.type "itertools.combinations"))) :
    ∃ fd : FuncData, (∀ (s : Shared) (v : Value), BindsTo s fd ⟨[v], []⟩ [(("script" : Str), v)]) ∧ ∀ base : Heap, K.In base → base.Ns mainGlobals mg → FnOk P w K mg base (L2.CX P w) k fa fd [("script" : Str)] (spLaw K) := by
  obtain ⟨fa', fd, q1, q2, q3⟩ := facts t (List.mem_of_getElem? ht)
  have e1 : mg t.name = some (.ref fa') := PySem.W.mg_of X G q1
  rw [hnm, hfa] at e1
  have e2 : fa = fa' := Value.ref.inj (Option.some.inj e1)
  subst e2
  refine ⟨fd, fun s v => ?_, fun base _ _ => law_tab (fun t ht => List.all_eq_true.mp hok t ht) (fun t ht => ?_) (fun x hx => PySem.W.mg_none_of X G (z x hx)) (fun h => PySem.W.mg_of X G (hcmb h)) ht hn hp law q2⟩
  · obtain ⟨oc, od, kV, doc, pm, an, cdv, ct, osl, rfl, _, _⟩ := q2.ex
    exact hb _ _ _ _ _ _ s v
  · obtain ⟨fa', fd', r1, r2, r3⟩ := facts t ht
    exact ⟨fa', fd', PySem.W.mg_of X G r1, r2, r3⟩
theorem all_nil {K : PySem.W.Frag} : ∀ t ∈ ([] : List FT), FF K t := fun _ h => nomatch h
theorem all_cons {K : PySem.W.Frag} {t : FT} {ts : List FT} (h : FF K t) (hs : ∀ t ∈ ts, FF K t) : ∀ u ∈ t :: ts, FF K u := fun u m => (List.mem_cons.mp m).elim (fun e => by rw [e]; exact h) (hs u)
theorem blt_mk {K : PySem.W.Frag} (a0 : PySem.W.nsIn K mainGlobals "abs" = some none) (a1 : PySem.W.nsIn K mainGlobals "int" = some none) (a2 : PySem.W.nsIn K mainGlobals "len" = some none) (a3 : PySem.W.nsIn K mainGlobals "tuple" = some none) (a4 : PySem.W.nsIn K mainGlobals "list" = some none) (a5 : PySem.W.nsIn K mainGlobals "sum" = some none)
    (a6 : PySem.W.nsIn K mainGlobals "max" = some none) (a7 : PySem.W.nsIn K mainGlobals "min" = some none) (a8 : PySem.W.nsIn K mainGlobals "any" = some none) (a9 : PySem.W.nsIn K mainGlobals "all" = some none) (b0 : PySem.W.nsIn K mainGlobals "sorted" = some none) (b1 : PySem.W.nsIn K mainGlobals "isinstance" = some none)
    (b2 : PySem.W.nsIn K mainGlobals "bool" = some none) (b3 : PySem.W.nsIn K mainGlobals "str" = some none) (b4 : PySem.W.nsIn K mainGlobals "range" = some none) (b5 : PySem.W.nsIn K mainGlobals "reversed" = some none) : ∀ x ∈ bltNames, PySem.W.nsIn K mainGlobals x = some none := by
  intro x hx
  simp only [bltNames, List.mem_cons, List.not_mem_nil, or_false] at hx
  rcases hx with rfl | rfl | rfl | rfl | rfl | rfl | rfl | rfl | rfl | rfl | rfl | rfl | rfl | rfl | rfl | rfl <;> assumption
theorem law_sp {K : PySem.W.Frag} (n : Nat) (hn : n ≤ 63) (w : World) (H : Hp) (a : Addr) (ns : List Int) (hl : ns.length ≤ n) (on : Only H) (sq : SqL K H a (ns.map V.int)) : spLaw K [.ref a] H (fun v _ => v = .bl true) fun _ _ _ => False :=
  ⟨a, ns, rfl, sq, Nat.le_trans hl hn, on, fun _ => rfl⟩
theorem cx_none (P : Program) (w : World) (H : Hp) (s : Shared) (e : Value) (s' : Shared) (h : L2.CX P w [] H s (fun _ _ _ => False) e s') : False := by
  obtain ⟨_, _, _, _, _, _, _, _, _, _, _, _, z⟩ := h
  exact z
end PL
/-! evaluating the language step by step -/
namespace PL
open PySem

section
variable {call : Nat → List D → M D} {env env' : Env} {st st1 st2 st3 : Store} {a b c : E} {es : Es} {x y z d : D} {ds : List D} {op op' : Bop}
theorem M.bind_of {α β : Type} {m : M α} {k : α → M β} {st st1 : Store} {a : α} {r : Res β} (h : m st = .ok a st1) (h2 : k a st1 = r) : M.bind m k st = r := by
  unfold M.bind; rw [h]; exact h2
theorem opt_of {α : Type} {o : Option α} {a : α} {st : Store} (h : o = some a) : M.ofOpt o st = .ok a st := by rw [h]; rfl
theorem e_var {i : Nat} (h : env[i]? = some (some d)) (hb : d.bw = x) : ev call (.var i) env st = .ok x st := by
  simp only [ev, h, hb]
theorem e_int {n : Int} : ev call (.int n) env st = .ok (.int n) st := rfl
theorem e_bl {k : Bool} : ev call (.bl k) env st = .ok (.bl k) st := rfl
theorem e_non : ev call .non env st = .ok .non st := rfl
theorem e_str {s : Str} : ev call (.str s) env st = .ok (.str s) st := rfl
theorem e_tup (h : evs call es env st = .ok ds st1) : ev call (.tup es) env st = .ok (.tup ds) st1 := by
  simp only [ev]; exact M.bind_of h rfl
theorem e_lst (h : evs call es env st = .ok ds st1) : ev call (.lst es) env st = .ok (.lst .own ds) st1 := by
  simp only [ev]; exact M.bind_of h rfl
theorem e_bin (ha : ev call a env st = .ok x st1) (hb : ev call b env st1 = .ok y st2) (h : binD op x y = some z) : ev call (.bin op a b) env st = .ok z st2 := by
  simp only [ev]; exact M.bind_of ha (M.bind_of hb (opt_of h))
theorem e_neg (ha : ev call a env st = .ok (.int i) st1) : ev call (.neg a) env st = .ok (.int (-i)) st1 := by
  simp only [ev]; exact M.bind_of ha (opt_of rfl)
theorem e_cmp {o : Cop} {k : Bool} (ha : ev call a env st = .ok x st1) (hb : ev call b env st1 = .ok y st2) (h : cmpD o x y = some k) : ev call (.cmp o a b) env st = .ok (.bl k) st2 := by
  simp only [ev]; exact M.bind_of ha (M.bind_of hb (opt_of (by rw [h]; rfl)))
theorem e_chain {o o' : Cop} {k k' : Bool} (ha : ev call a env st = .ok x st1) (hb : ev call b env st1 = .ok y st2) (h : cmpD o x y = some k) (hc : k = true → ev call c env st2 = .ok z st3 ∧ cmpD o' y z = some k') (hst : k = false → st3 = st2 ∧ k' = false) : ev call (.chain o o' a b c) env st = .ok (.bl k') st3 := by
  simp only [ev]
  refine M.bind_of ha (M.bind_of hb (M.bind_of (opt_of h) ?_))
  cases k with
  | true =>
    obtain ⟨q1, q2⟩ := hc rfl
    exact M.bind_of q1 (opt_of (by rw [q2]; rfl))
  | false =>
    obtain ⟨rfl, rfl⟩ := hst rfl
    rfl
theorem e_not {k : Bool} (ha : ev call a env st = .ok (.bl k) st1) : ev call (.not a) env st = .ok (.bl (!k)) st1 := by
  simp only [ev, notF]; exact M.bind_of ha rfl
theorem e_and {k : Bool} (h : evAnd call es env st = .ok k st1) : ev call (.and es) env st = .ok (.bl k) st1 := by
  simp only [ev, blF]; exact M.bind_of h rfl
theorem e_or {k : Bool} (h : evOr call es env st = .ok k st1) : ev call (.or es) env st = .ok (.bl k) st1 := by
  simp only [ev, blF]; exact M.bind_of h rfl
theorem and_nil : evAnd call .nil env st = .ok true st := rfl
theorem and_t {k : Bool} (ha : ev call a env st = .ok (.bl true) st1) (h : evAnd call es env st1 = .ok k st2) : evAnd call (.cons a es) env st = .ok k st2 := by
  simp only [evAnd, andF]; exact M.bind_of ha h
theorem and_f (ha : ev call a env st = .ok (.bl false) st1) : evAnd call (.cons a es) env st = .ok false st1 := by
  simp only [evAnd, andF]; exact M.bind_of ha rfl
theorem or_nil : evOr call .nil env st = .ok false st := rfl
theorem or_f {k : Bool} (ha : ev call a env st = .ok (.bl false) st1) (h : evOr call es env st1 = .ok k st2) : evOr call (.cons a es) env st = .ok k st2 := by
  simp only [evOr, orF]; exact M.bind_of ha h
theorem or_t (ha : ev call a env st = .ok (.bl true) st1) : evOr call (.cons a es) env st = .ok true st1 := by
  simp only [evOr, orF]; exact M.bind_of ha rfl
theorem e_tst {k : Bool} (ha : ev call a env st = .ok x st1) (h : truD x = some k) : tstD (ev call a) env st = .ok k st1 := by
  unfold tstD; exact M.bind_of ha (opt_of h)
theorem e_iteT (hc : tstD (ev call c) env st = .ok true st1) (ha : ev call a env st1 = .ok x st2) : ev call (.ite c a b) env st = .ok x st2 := by
  simp only [ev]; exact M.bind_of hc ha
theorem e_iteF (hc : tstD (ev call c) env st = .ok false st1) (hb : ev call b env st1 = .ok x st2) : ev call (.ite c a b) env st = .ok x st2 := by
  simp only [ev]; exact M.bind_of hc hb
theorem e_ix (ha : ev call a env st = .ok x st1) (hb : ev call b env st1 = .ok y st2) (h : ixD st2 x y = some z) : ev call (.ix a b) env st = .ok z st2 := by
  simp only [ev]; exact M.bind_of ha (M.bind_of hb (opt_of h))
theorem e_sl {lo hi : Eo} {l r : Option Int} (ha : ev call a env st = .ok x st1) (hl : evO call lo env st1 = .ok l st2) (hh : evO call hi env st2 = .ok r st3) (h : slD l r x = some z) : ev call (.sl a lo hi) env st = .ok z st3 := by
  simp only [ev]; exact M.bind_of ha (M.bind_of hl (M.bind_of hh (opt_of h)))
theorem o_none : evO call .none env st = .ok none st := rfl
theorem o_some (ha : ev call a env st = .ok (.int i) st1) : evO call (.some a) env st = .ok (some i) st1 := by
  simp only [evO]; exact M.bind_of ha rfl
theorem e_call {f : Nat} (h : evs call es env st = .ok ds st1) (hf : call f ds st1 = .ok x st2) : ev call (.call f es) env st = .ok x st2 := by
  simp only [ev]; exact M.bind_of h hf
theorem e_bi {k : Bi} (h : evs call es env st = .ok ds st1) (hf : biD k ds = some x) : ev call (.bi k es) env st = .ok x st1 := by
  simp only [ev]; exact M.bind_of h (opt_of hf)
theorem e_isa {k : Ki} (h : ev call a env st = .ok y st1) (hf : isaD k y = some x) : ev call (.isa k a) env st = .ok x st1 := by
  simp only [ev]; exact M.bind_of h (opt_of hf)
theorem e_listR {it : It} (h : evI call it env st = .ok ds st1) : ev call (.listR it) env st = .ok (.lst .own ds) st1 := by
  simp only [ev]; exact M.bind_of h rfl
theorem e_tupR {it : It} (h : evI call it env st = .ok ds st1) : ev call (.tupR it) env st = .ok (.tup ds) st1 := by
  simp only [ev]; exact M.bind_of h rfl
theorem e_comb (ha : ev call a env st = .ok x st1) (hb : ev call b env st1 = .ok y st2) (h : combD x y = some z) : ev call (.comb a b) env st = .ok z st2 := by
  simp only [ev]; exact M.bind_of ha (M.bind_of hb (opt_of h))
theorem es_nil : evs call .nil env st = .ok [] st := rfl
theorem es_cons (ha : ev call a env st = .ok x st1) (h : evs call es env st1 = .ok ds st2) : evs call (.cons a es) env st = .ok (x :: ds) st2 := by
  simp only [evs]; exact M.bind_of ha (M.bind_of h rfl)
theorem e_comp {it : It} {elt : E} {tg own : List Nat} {tup : Bool} {xs ys : List D} (hi : evI call it env st = .ok xs st1) (hc : compM (turnF tg tup own (evIfs call es) (ev call elt) env) xs st1 = .ok ys st2) (hl : ys.length ≤ LIM) : ev call (.comp elt tg tup it es own) env st = .ok (.lst .own ys) st2 := by
  simp only [ev]
  refine M.bind_of hi (M.bind_of (show M.quiet _ st1 = .ok ys st2 by unfold M.quiet; rw [hc]) ?_)
  rw [if_pos hl]
theorem i_seq (h : ev call a env st = .ok x st1) (hi : itemsD x = some ds) : evI call (.seq a) env st = .ok ds st1 := by
  simp only [evI]; exact M.bind_of h (opt_of hi)
theorem i_r1 {n : Int} (h : ev call a env st = .ok (.int n) st1) (hn : rgOk 0 n = true) : evI call (.r1 a) env st = .ok (rgD 0 n) st1 := by
  simp only [evI]; refine M.bind_of h ?_
  simp only [hn, if_true]
theorem i_r2 {m n : Int} (h : ev call a env st = .ok (.int m) st1) (h2 : ev call b env st1 = .ok (.int n) st2) (hn : rgOk m n = true) : evI call (.r2 a b) env st = .ok (rgD m n) st2 := by
  simp only [evI]; refine M.bind_of h (M.bind_of h2 ?_)
  simp only [hn, if_true]
theorem f_seq (h : ev call a env st = .ok x st1) (hk : x.keep = true) (hi : itemsD x.frz = some ds) : evF call (.seq a) env st = .ok ds st1 := by
  simp only [evF, itF]; refine M.bind_of h ?_
  simp only [hk, if_true]; exact opt_of hi
theorem ifs_nil : evIfs call .nil env st = .ok true st := rfl
theorem ifs_one {k : Bool} (h : tstD (ev call a) env st = .ok k st1) : evIfs call (.cons a .nil) env st = .ok k st1 := by
  simp only [evIfs, ifsF]; refine M.bind_of h ?_
  cases k <;> rfl
/-! ### a comprehension's turns -/
theorem turn_t {elt : E} {tg own : List Nat} {tup : Bool} (hb : bindT tg tup x (unset env own) = some env') (hi : evIfs call es env' st = .ok true st1) (he : ev call elt env' st1 = .ok y st2) : turnF tg tup own (evIfs call es) (ev call elt) env x st = .ok [y] st2 := by
  unfold turnF; rw [hb]
  exact M.bind_of hi (M.bind_of he rfl)
theorem turn_f {elt : E} {tg own : List Nat} {tup : Bool} (hb : bindT tg tup x (unset env own) = some env') (hi : evIfs call es env' st = .ok false st1) : turnF tg tup own (evIfs call es) (ev call elt) env x st = .ok [] st1 := by
  unfold turnF; rw [hb]
  exact M.bind_of hi rfl
theorem comp_pure {α : Type} {f : D → M (List D)} {enc : α → D} {g : α → List D} {st : Store} : ∀ {xs : List α}, (∀ x ∈ xs, f (enc x) st = .ok (g x) st) → compM f (xs.map enc) st = .ok (xs.flatMap g) st
  | [], _ => rfl
  | x :: xs, h => M.bind_of (h x List.mem_cons_self) (M.bind_of (comp_pure fun y m => h y (List.mem_cons_of_mem _ m)) rfl)
theorem comp_map {α : Type} {f : D → M (List D)} {enc g : α → D} {st : Store} {xs : List α} (h : ∀ x ∈ xs, f (enc x) st = .ok [g x] st) : compM f (xs.map enc) st = .ok (xs.map g) st := by
  rw [comp_pure (g := fun x => [g x]) h]
  congr 1
  induction xs with
  | nil => rfl
  | cons x xs ih => rw [List.flatMap_cons, List.map_cons, ih fun y m => h y (List.mem_cons_of_mem _ m)]; rfl
theorem comp_filter {α : Type} {f : D → M (List D)} {enc g : α → D} {p : α → Bool} {st : Store} {xs : List α} (h : ∀ x ∈ xs, f (enc x) st = .ok (if p x then [g x] else []) st) : compM f (xs.map enc) st = .ok ((xs.filter p).map g) st := by
  rw [comp_pure (g := fun x => if p x then [g x] else []) h]
  congr 1
  induction xs with
  | nil => rfl
  | cons x xs ih =>
    rw [List.flatMap_cons, List.filter_cons, ih fun y m => h y (List.mem_cons_of_mem _ m)]
    cases p x <;> rfl
/-- turns that change the store -/
theorem comp_ex {α : Type} {f : D → M (List D)} {enc : α → D} {I : Store → Prop} {P : α → D → Prop} : ∀ {xs : List α} {st : Store}, I st → (∀ x ∈ xs, ∀ st, I st → ∃ y st', P x y ∧ I st' ∧ f (enc x) st = .ok [y] st') →
    ∃ (ys : List D) (st' : Store), xs.length = ys.length ∧ (∀ (i : Nat) (x : α) (y : D), xs[i]? = some x → ys[i]? = some y → P x y) ∧ I st' ∧ compM f (xs.map enc) st = .ok ys st'
  | [], st, i, _ => ⟨[], st, rfl, fun i x y h => by simp at h, i, rfl⟩
  | x :: xs, st, i, h => by
    obtain ⟨y, st1, p, i1, h1⟩ := h x List.mem_cons_self st i
    obtain ⟨ys, st2, q1, q2, q3, q4⟩ := comp_ex i1 fun y m => h y (List.mem_cons_of_mem _ m)
    refine ⟨y :: ys, st2, by simp [q1], fun j a b ha hb => ?_, q3, M.bind_of h1 (M.bind_of q4 rfl)⟩
    cases j with
    | zero => simp at ha hb; subst ha; subst hb; exact p
    | succ j => exact q2 j a b (by simpa using ha) (by simpa using hb)
end
/-! ### statements -/
section
variable {call : Nat → List D → M D} {env env' : Env} {st st1 st2 : Store} {c e : E} {a b ss : Sts} {s : St} {x : D} {r : Res Fl} {i : Nat}
theorem s_nil : execs call .nil env st = .ok (.nx env) st := rfl
theorem s_cons (h : exec call s env st = .ok (.nx env') st1) (h2 : execs call ss env' st1 = r) : execs call (.cons s ss) env st = r := by
  simp only [execs, seqF]; exact M.bind_of h h2
theorem s_rt {d : D} (h : exec call s env st = .ok (.rt d) st1) : execs call (.cons s ss) env st = .ok (.rt d) st1 := by
  simp only [execs, seqF]; exact M.bind_of h rfl
theorem s_frz {d : D} (h : env[i]? = some (some d)) (h2 : execs call ss (env.set i (some d.frz)) st = r) : execs call (.frz i ss) env st = r := by
  simp only [execs, frzF, h]; exact h2
theorem s_share {ds : List D} (h : env[i]? = some (some (.lst .own ds))) (h2 : execs call ss (env.set i (some (.sref st.length))) (st ++ [frzL ds]) = r) : execs call (.share i ss) env st = r := by
  simp only [execs, shareF, h]; exact h2
theorem x_set (h : ev call e env st = .ok x st1) (hk : x.keep = true) : exec call (.set i e) env st = .ok (.nx (env.set i (some x))) st1 := by
  simp only [exec, setF]; refine M.bind_of h ?_
  simp only [hk, if_true]
theorem x_setT {is : List Nat} {ds : List D} (h : ev call e env st = .ok (.tup ds) st1) (hk : keepL ds = true) (hl : ds.length = is.length) : exec call (.setT is e) env st = .ok (.nx (setN env is ds)) st1 := by
  simp only [exec, setTF]; refine M.bind_of h ?_
  simp only [hk, hl, decide_true, Bool.and_self, if_true]
theorem x_par {is : List Nat} {es : Es} {ds : List D} (h : evs call es env st = .ok ds st1) (hk : keepL ds = true) (hl : ds.length = is.length) : exec call (.par is es) env st = .ok (.nx (setN env is ds)) st1 := by
  simp only [exec, parF]; refine M.bind_of h ?_
  simp only [hk, hl, decide_true, Bool.and_self, if_true]
theorem x_ret (h : ev call e env st = .ok x st1) (hk : x.keep = true) : exec call (.ret e) env st = .ok (.rt x) st1 := by
  simp only [exec, retF]; refine M.bind_of h ?_
  simp only [hk, if_true]
theorem x_retV (h : env[i]? = some (some x)) : exec call (.retV i) env st = .ok (.rt x) st := by
  simp only [exec, retVF, h]
theorem x_iteT (hc : tstD (ev call c) env st = .ok true st1) (h : execs call a env st1 = r) : exec call (.ite c a b) env st = r := by
  simp only [exec, iteF]; exact M.bind_of hc h
theorem x_iteF (hc : tstD (ev call c) env st = .ok false st1) (h : execs call b env st1 = r) : exec call (.ite c a b) env st = r := by
  simp only [exec, iteF]; exact M.bind_of hc h
theorem x_expr (h : ev call e env st = .ok x st1) : exec call (.expr e) env st = .ok (.nx env) st1 := by
  simp only [exec, exprF]; exact M.bind_of h rfl
theorem x_append {ds : List D} (h : env[i]? = some (some (.lst .own ds))) (he : ev call e env st = .ok x st1) (hk : x.keep = true) (hl : ds.length < LIM) : exec call (.append i e) env st = .ok (.nx (env.set i (some (.lst .own (ds ++ [x]))))) st1 := by
  simp only [exec, appF, h]; refine M.bind_of he ?_
  simp only [hk, hl, decide_true, Bool.and_self, if_true]
theorem x_augA {m n : Int} (h : env[i]? = some (some (.int m))) (he : ev call e env st = .ok (.int n) st1) : exec call (.aug i .add e) env st = .ok (.nx (env.set i (some (.int (m + n))))) st1 := by
  simp only [exec, augF, h]; exact M.bind_of he rfl
theorem x_augS {m n : Int} (h : env[i]? = some (some (.int m))) (he : ev call e env st = .ok (.int n) st1) : exec call (.aug i .sub e) env st = .ok (.nx (env.set i (some (.int (m - n))))) st1 := by
  simp only [exec, augF, h]; exact M.bind_of he rfl
theorem x_setIx {ix : E} {k : Int} {j : Nat} {ds : List D} (h : env[i]? = some (some (.lst .own ds))) (he : ev call e env st = .ok x st1) (hi : ev call ix env st1 = .ok (.int k) st2) (hk : x.keep = true) (hj : L2.ixN ds.length k = some j) : exec call (.setIx i ix e) env st = .ok (.nx (env.set i (some (.lst .own (ds.set j x))))) st2 := by
  simp only [exec, setIxF, h]; refine M.bind_of he (M.bind_of hi ?_)
  simp only [hk, if_true, updF, h, hj]
/-- x[k] = e of a shared list -/
theorem x_setSh {ix : E} {k : Int} {j n : Nat} {ds : List D} (h : env[i]? = some (some (.sref n))) (he : ev call e env st = .ok x st1) (hi : ev call ix env st1 = .ok (.int k) st2) (hk : x.keep = true) (hn : x.noOwn = true) (hs : st2[n]? = some ds) (hj : L2.ixN ds.length k = some j) :
    exec call (.setIx i ix e) env st = .ok (.nx env) (st2.set n (ds.set j x)) := by
  simp only [exec, setIxF, h]; refine M.bind_of he (M.bind_of hi ?_)
  simp only [hk, if_true, updF, h, hs, hj, hn]
theorem x_parP {is : List Nat} {es : Es} {ds : List D} (h : evs call es env st = .ok ds st) (hk : keepL ds = true) (hl : ds.length = is.length) : exec call (.par is es) env st = .ok (.nx (setN env is ds)) st := x_par h hk hl
theorem x_setP (h : ev call e env st = .ok x st) (hk : x.keep = true) : exec call (.set i e) env st = .ok (.nx (env.set i (some x))) st := x_set h hk
theorem x_setShP {ix : E} {n : Nat} {ds : List D} (j : Nat) (k : Int) (x : D) (h : env[i]? = some (some (.sref n))) (he : ev call e env st = .ok x st) (hi : ev call ix env st = .ok (.int k) st) (hk : x.keep = true) (hn : x.noOwn = true) (hs : st[n]? = some ds) (hj : L2.ixN ds.length k = some j) :
    exec call (.setIx i ix e) env st = .ok (.nx env) (st.set n (ds.set j x)) := x_setSh h he hi hk hn hs hj
theorem x_for {tg : List Nat} {tup : Bool} {it : It} {xs : List D} (hi : evF call it env st = .ok xs st1) (h : forM tg tup (execs call a) xs env st1 = r) : exec call (.for_ tg tup it a) env st = r := by
  simp only [exec]; exact M.bind_of hi h
theorem for_nil {tg : List Nat} {tup : Bool} {f : Env → M Fl} : forM tg tup f [] env st = .ok (.nx env) st := rfl
theorem for_nx {tg : List Nat} {tup : Bool} {f : Env → M Fl} {xs : List D} {env1 : Env} (hb : bindT tg tup x env = some env1) (h : f env1 st = .ok (.nx env') st1) (h2 : forM tg tup f xs env' st1 = r) : forM tg tup f (x :: xs) env st = r := by
  unfold forM; rw [hb]; exact M.bind_of h h2
theorem for_ct {tg : List Nat} {tup : Bool} {f : Env → M Fl} {xs : List D} {env1 : Env} (hb : bindT tg tup x env = some env1) (h : f env1 st = .ok (.ct env') st1) (h2 : forM tg tup f xs env' st1 = r) : forM tg tup f (x :: xs) env st = r := by
  unfold forM; rw [hb]; exact M.bind_of h h2
theorem for_bk {tg : List Nat} {tup : Bool} {f : Env → M Fl} {xs : List D} {env1 : Env} (hb : bindT tg tup x env = some env1) (h : f env1 st = .ok (.bk env') st1) : forM tg tup f (x :: xs) env st = .ok (.nx env') st1 := by
  unfold forM; rw [hb]; exact M.bind_of h rfl
theorem for_rt {tg : List Nat} {tup : Bool} {f : Env → M Fl} {xs : List D} {env1 : Env} {d : D} (hb : bindT tg tup x env = some env1) (h : f env1 st = .ok (.rt d) st1) : forM tg tup f (x :: xs) env st = .ok (.rt d) st1 := by
  unfold forM; rw [hb]; exact M.bind_of h rfl
theorem while_f {f : Env → M Fl} {cf : Env → M Bool} {n : Nat} (hc : cf env st = .ok false st1) : whileM cf f (n + 1) env st = .ok (.nx env) st1 := by
  unfold whileM; exact M.bind_of hc rfl
theorem while_t {f : Env → M Fl} {cf : Env → M Bool} {n : Nat} (hc : cf env st = .ok true st1) (h : f env st1 = .ok (.nx env') st2) (h2 : whileM cf f n env' st2 = r) : whileM cf f (n + 1) env st = r := by
  unfold whileM; refine M.bind_of hc ?_
  exact M.bind_of h h2
/-! ### calls -/
theorem c_run {fs : List Fn} {k f : Nat} {F : Fn} {ds : List D} {r : Res D} (hf : fs[f]? = some F) (h : runF (callK fs k) F ds st = r) : callK fs (k + 1) f ds st = r := by
  unfold callK; rw [hf]; exact h
theorem run_rt {F : Fn} {ds : List D} {d : D} (hk : keepL ds = true) (hl : ds.length = F.n) (h : execs call F.body (startE F ds) st = .ok (.rt d) st1) (hs : st1.length = st.length) : runF call F ds st = .ok d st1 := by
  unfold runF
  rw [if_pos (by rw [hk, hl]; simp), h]
  show backM st.length d st1 .ok = _
  unfold backM; rw [if_pos hs]
theorem run_nx {F : Fn} {ds : List D} (hk : keepL ds = true) (hl : ds.length = F.n) (h : execs call F.body (startE F ds) st = .ok (.nx env) st1) (hs : st1.length = st.length) : runF call F ds st = .ok .non st1 := by
  unfold runF
  rw [if_pos (by rw [hk, hl]; simp), h]
  show backM st.length .non st1 .ok = _
  unfold backM; rw [if_pos hs]
/-- the law itself: its shared lists are gone -/
theorem run_law {F : Fn} {ds : List D} {k : Bool} (hk : keepL ds = true) (hl : ds.length = F.n) (h : execs call F.body (startE F ds) [] = .ok (.rt (.bl k)) st1) : ∃ st', runF call F ds [] = .ok (.bl k) st' := by
  unfold runF
  rw [if_pos (by rw [hk, hl]; simp), h]
  show ∃ st', backM 0 (.bl k) st1 .ok = _
  unfold backM
  by_cases hz : st1.length = 0
  · exact ⟨st1, by rw [if_pos hz]⟩
  · refine ⟨[], ?_⟩
    rw [if_neg hz]
    simp [D.refB]
end
end PL
namespace PL
open PySem
open L2 (atI ixN)

theorem bin_add {a b : Int} : binD .add (.int a) (.int b) = some (.int (a + b)) := rfl
theorem bin_sub {a b : Int} : binD .sub (.int a) (.int b) = some (.int (a - b)) := rfl
theorem bin_mul {a b : Int} (h : mulOk a b = true) : binD .mul (.int a) (.int b) = some (.int (a * b)) := by simp only [binD, h, if_true]
theorem bin_fdiv {a b : Int} (h : divOk b = true) : binD .fdiv (.int a) (.int b) = some (.int (a.fdiv b)) := by simp only [binD, h, if_true]
theorem bin_mod {a b : Int} (h : b ≠ 0) : binD .mod (.int a) (.int b) = some (.int (a.fmod b)) := by simp only [binD, decide_eq_true h, if_true]
theorem bin_pow {a b : Int} (h : powOk a b = true) : binD .pow (.int a) (.int b) = some (.int (a ^ b.toNat)) := by simp only [binD, h, if_true]
theorem mulOk_l {a b : Int} (h : a.natAbs < 2 ^ 64) : mulOk a b = true := by unfold mulOk; rw [decide_eq_true h]; rfl
theorem mulOk_r {a b : Int} (h : b.natAbs < 2 ^ 64) : mulOk a b = true := by unfold mulOk; rw [decide_eq_true h]; simp
theorem divOk_of {b : Int} (h : b ≠ 0) (h2 : b.natAbs < 2 ^ 64) : divOk b = true := by
  unfold divOk
  rw [decide_eq_true h]
  have : b.natAbs.log2 < 64 := by
    rw [Nat.log2_lt (by omega)]; exact h2
  simp; omega
theorem cmp_eqI {a b : Int} : cmpD .eq (.int a) (.int b) = some (decide (a = b)) := by
  show eqD (.int a) (.int b) = _
  unfold eqD
  rw [if_pos (by rfl)]
  show some (decide (a = b)) = _
  rfl
theorem cmp_neI {a b : Int} : cmpD .ne (.int a) (.int b) = some (!decide (a = b)) := by
  show (eqD (.int a) (.int b)).map (!·) = _
  have := cmp_eqI (a := a) (b := b)
  rw [show eqD (.int a) (.int b) = some (decide (a = b)) from this]; rfl
theorem cmp_ltI {a b : Int} : cmpD .lt (.int a) (.int b) = some (decide (a < b)) := rfl
theorem cmp_leI {a b : Int} : cmpD .le (.int a) (.int b) = some (decide (a ≤ b)) := rfl
theorem cmp_gtI {a b : Int} : cmpD .gt (.int a) (.int b) = some (decide (b < a)) := rfl
theorem cmp_geI {a b : Int} : cmpD .ge (.int a) (.int b) = some (decide (b ≤ a)) := rfl
theorem ix_lst {st : Store} {m : Md} {ds : List D} {i : Int} {d : D} (h : atI ds i = some d) : ixD st (.lst m ds) (.int i) = some d := h
theorem ix_tup {st : Store} {ds : List D} {i : Int} {d : D} (h : atI ds i = some d) : ixD st (.tup ds) (.int i) = some d := h
theorem ix_sref {st : Store} {n : Nat} {ds : List D} {i : Int} {d : D} (hs : st[n]? = some ds) (h : atI ds i = some d) : ixD st (.sref n) (.int i) = some d := by
  simp only [ixD, hs]; exact h
theorem bi_len {m : Md} {ds : List D} : biD .len [.lst m ds] = some (.int ds.length) := rfl
theorem bi_lenT {ds : List D} : biD .len [.tup ds] = some (.int ds.length) := rfl
theorem at_nat {ds : List D} {j : Nat} {d : D} (h : ds[j]? = some d) : atI ds (j : Int) = some d := L2.atI_nat h
theorem bi_int {a : Int} : biD .int [.int a] = some (.int a) := rfl
theorem bi_abs {a : Int} : biD .abs [.int a] = some (.int (if a < 0 then -a else a)) := rfl
section
variable {call : Nat → List D → M D} {env : Env} {st : Store} {i : Nat}
theorem e_vI {n : Int} (h : env[i]? = some (some (.int n))) : ev call (.var i) env st = .ok (.int n) st := e_var h rfl
theorem e_vF {ds : List D} (h : env[i]? = some (some (.lst .fro ds))) : ev call (.var i) env st = .ok (.lst .fro ds) st := e_var h rfl
theorem e_vS {ds : List D} (h : env[i]? = some (some (.lst .scr ds))) : ev call (.var i) env st = .ok (.lst .scr ds) st := e_var h rfl
theorem e_vR {n : Nat} (h : env[i]? = some (some (.sref n))) : ev call (.var i) env st = .ok (.sref n) st := e_var h rfl
theorem e_vB {k : Bool} (h : env[i]? = some (some (.bl k))) : ev call (.var i) env st = .ok (.bl k) st := e_var h rfl
theorem e_vN (h : env[i]? = some (some .non)) : ev call (.var i) env st = .ok .non st := e_var h rfl
end



/-! ### the draws: _law_start, _law_pick -/
def pkC : E := .and (.cons (.cmp .eq (.ix (.var 0) (.int 2)) (.int 0)) (.cons (.cmp .lt (.ix (.var 0) (.int 1)) (.bi .len (.cons (.ix (.var 0) (.int 0)) .nil))) .nil))
def pkI : St := .ite (.cmp .ge (.var 2) (.bin .pow (.int 10) (.int 18))) (.cons (.setIx 0 (.int 2) (.var 2)) .nil)
    (.cons (.setIx 0 (.int 3) (.bin .add (.bin .mod (.bi .int (.cons (.bin .add (.bin .mul (.ix (.var 0) (.int 3)) (.int 48271)) (.var 2)) .nil)) (.int 2147483646)) (.int 1))) .nil)
def pkA : St := .ite pkC (.cons (.set 2 (.bi .abs (.cons (.ix (.ix (.var 0) (.int 0)) (.ix (.var 0) (.int 1))) .nil)))
    (.cons (.setIx 0 (.int 1) (.bin .add (.ix (.var 0) (.int 1)) (.int 1))) (.cons pkI .nil))) .nil
def pkB : Sts := .cons (.set 3 (.bin .mod (.bi .int (.cons (.ix (.var 0) (.int 2)) .nil)) (.var 1)))
    (.cons (.setIx 0 (.int 2) (.bin .fdiv (.ix (.var 0) (.int 2)) (.var 1))) (.cons (.retV 3) .nil))
def pkZ : Sts := .cons (.setIx 0 (.int 3) (.bin .mod (.bi .int (.cons (.bin .mul (.ix (.var 0) (.int 3)) (.int 48271)) .nil)) (.int 2147483647)))
    (.cons (.ret (.bin .mod (.bi .int (.cons (.bin .add (.bin .fdiv (.ix (.var 0) (.int 3)) (.int 5)) (.bin .mod (.bi .int (.cons (.bin .mul (.ix (.var 0) (.int 3)) (.ix (.var 0) (.int 3))) .nil)) (.int 2147483629))) .nil)) (.var 1))) .nil)
def pickFn : Fn := ⟨2, 4, .cons pkA (.cons (.ite (.cmp .gt (.ix (.var 0) (.int 2)) (.int 0)) pkB .nil) pkZ)⟩
/-- the state of the draws -/
def dst (ns : List Int) (p c s : Int) : List D := [.lst .scr (ns.map D.int), .int p, .int c, .int s]
/-- a draw's state: it may stand at any place n of the shared lists -/
def DrS (ds : List D) : Prop := ∃ (ns : List Int) (p : Nat) (c s : Int), ds = dst ns p c s ∧ p ≤ ns.length ∧ 0 ≤ c ∧ 0 ≤ s ∧ s < 2147483648
def Dr (st : Store) : Prop := ∃ ds, st = [ds] ∧ DrS ds
def penv (L : Int) (x y : Option D) : Env := [some (.sref 0), some (.int L), x, y]
section
variable {call : Nat → List D → M D} {ns : List Int} {p : Nat} {c s L : Int} {x y : Option D} {v : Int}
theorem pk_i (hv : 0 ≤ v) (hp : p ≤ ns.length) (hs : 0 ≤ s) (hs2 : s < 2147483648) : ∃ ds, DrS ds ∧ exec call pkI (penv L (some (.int v)) y) [dst ns p 0 s] = .ok (.nx (penv L (some (.int v)) y)) [ds] := by
  have h3 : ev call (.cmp .ge (.var 2) (.bin .pow (.int 10) (.int 18))) (penv L (some (.int v)) y) [dst ns p 0 s] = .ok (.bl (decide ((10 : Int) ^ (18 : Int).toNat ≤ v))) [dst ns p 0 s] := by
    (repeat' (first | exact e_int | exact e_bl | exact e_non | exact e_str | exact es_nil | exact o_none | exact ifs_nil | exact and_nil | exact or_nil | exact e_vI (by rfl) | exact e_vF (by rfl) | exact e_vR (by rfl) | exact e_vS (by rfl) | exact e_vB (by rfl) | exact e_vN (by rfl) | apply es_cons | apply e_bin | apply e_neg | apply e_ix | apply e_sl | apply o_some | apply e_tup | apply e_lst | apply e_bi | apply e_isa | apply e_cmp | apply e_not | apply e_and | apply e_or | apply e_tst | apply i_r1 | apply i_r2 | apply i_seq | exact bin_add | exact bin_sub | exact bi_int | exact bi_abs | exact cmp_eqI | exact cmp_neI | exact cmp_ltI | exact cmp_leI | exact cmp_gtI | exact cmp_geI | exact bi_len | exact bi_lenT | exact ix_lst (by rfl) | exact ix_tup (by rfl) | exact ix_sref (by rfl) (by rfl) | apply bin_mod | apply bin_mul | apply bin_fdiv | apply bin_pow | exact mulOk_r (by decide) | exact mulOk_l (by decide) | exact divOk_of (by decide) (by decide) | decide))
  by_cases hb : (10 : Int) ^ (18 : Int).toNat ≤ v
  · rw [decide_eq_true hb] at h3
    refine ⟨dst ns p v s, ⟨ns, p, v, s, rfl, hp, hv, hs, hs2⟩, x_iteT (e_tst h3 rfl) (s_cons (x_setShP 2 2 (.int v) (by rfl) ?_ ?_ rfl rfl rfl rfl) rfl)⟩
    · (repeat' (first | exact e_int | exact e_bl | exact e_non | exact e_str | exact es_nil | exact o_none | exact ifs_nil | exact and_nil | exact or_nil | exact e_vI (by rfl) | exact e_vF (by rfl) | exact e_vR (by rfl) | exact e_vS (by rfl) | exact e_vB (by rfl) | exact e_vN (by rfl) | apply es_cons | apply e_bin | apply e_neg | apply e_ix | apply e_sl | apply o_some | apply e_tup | apply e_lst | apply e_bi | apply e_isa | apply e_cmp | apply e_not | apply e_and | apply e_or | apply e_tst | apply i_r1 | apply i_r2 | apply i_seq | exact bin_add | exact bin_sub | exact bi_int | exact bi_abs | exact cmp_eqI | exact cmp_neI | exact cmp_ltI | exact cmp_leI | exact cmp_gtI | exact cmp_geI | exact bi_len | exact bi_lenT | exact ix_lst (by rfl) | exact ix_tup (by rfl) | exact ix_sref (by rfl) (by rfl) | apply bin_mod | apply bin_mul | apply bin_fdiv | apply bin_pow | exact mulOk_r (by decide) | exact mulOk_l (by decide) | exact divOk_of (by decide) (by decide) | decide))
    · (repeat' (first | exact e_int | exact e_bl | exact e_non | exact e_str | exact es_nil | exact o_none | exact ifs_nil | exact and_nil | exact or_nil | exact e_vI (by rfl) | exact e_vF (by rfl) | exact e_vR (by rfl) | exact e_vS (by rfl) | exact e_vB (by rfl) | exact e_vN (by rfl) | apply es_cons | apply e_bin | apply e_neg | apply e_ix | apply e_sl | apply o_some | apply e_tup | apply e_lst | apply e_bi | apply e_isa | apply e_cmp | apply e_not | apply e_and | apply e_or | apply e_tst | apply i_r1 | apply i_r2 | apply i_seq | exact bin_add | exact bin_sub | exact bi_int | exact bi_abs | exact cmp_eqI | exact cmp_neI | exact cmp_ltI | exact cmp_leI | exact cmp_gtI | exact cmp_geI | exact bi_len | exact bi_lenT | exact ix_lst (by rfl) | exact ix_tup (by rfl) | exact ix_sref (by rfl) (by rfl) | apply bin_mod | apply bin_mul | apply bin_fdiv | apply bin_pow | exact mulOk_r (by decide) | exact mulOk_l (by decide) | exact divOk_of (by decide) (by decide) | decide))
  · rw [decide_eq_false hb] at h3
    refine ⟨dst ns p 0 ((s * 48271 + v).fmod 2147483646 + 1), ⟨ns, p, 0, _, rfl, hp, Int.le_refl _, ?_, ?_⟩, x_iteF (e_tst h3 rfl) (s_cons (x_setShP 3 3 (.int ((s * 48271 + v).fmod 2147483646 + 1)) (by rfl) ?_ ?_ rfl rfl rfl rfl) rfl)⟩
    · have := Int.fmod_nonneg_of_pos (s * 48271 + v) (by decide : (0 : Int) < 2147483646)
      omega
    · have := Int.fmod_lt_of_pos (s * 48271 + v) (by decide : (0 : Int) < 2147483646)
      omega
    · (repeat' (first | exact e_int | exact e_bl | exact e_non | exact e_str | exact es_nil | exact o_none | exact ifs_nil | exact and_nil | exact or_nil | exact e_vI (by rfl) | exact e_vF (by rfl) | exact e_vR (by rfl) | exact e_vS (by rfl) | exact e_vB (by rfl) | exact e_vN (by rfl) | apply es_cons | apply e_bin | apply e_neg | apply e_ix | apply e_sl | apply o_some | apply e_tup | apply e_lst | apply e_bi | apply e_isa | apply e_cmp | apply e_not | apply e_and | apply e_or | apply e_tst | apply i_r1 | apply i_r2 | apply i_seq | exact bin_add | exact bin_sub | exact bi_int | exact bi_abs | exact cmp_eqI | exact cmp_neI | exact cmp_ltI | exact cmp_leI | exact cmp_gtI | exact cmp_geI | exact bi_len | exact bi_lenT | exact ix_lst (by rfl) | exact ix_tup (by rfl) | exact ix_sref (by rfl) (by rfl) | apply bin_mod | apply bin_mul | apply bin_fdiv | apply bin_pow | exact mulOk_r (by decide) | exact mulOk_l (by decide) | exact divOk_of (by decide) (by decide) | decide))
    · (repeat' (first | exact e_int | exact e_bl | exact e_non | exact e_str | exact es_nil | exact o_none | exact ifs_nil | exact and_nil | exact or_nil | exact e_vI (by rfl) | exact e_vF (by rfl) | exact e_vR (by rfl) | exact e_vS (by rfl) | exact e_vB (by rfl) | exact e_vN (by rfl) | apply es_cons | apply e_bin | apply e_neg | apply e_ix | apply e_sl | apply o_some | apply e_tup | apply e_lst | apply e_bi | apply e_isa | apply e_cmp | apply e_not | apply e_and | apply e_or | apply e_tst | apply i_r1 | apply i_r2 | apply i_seq | exact bin_add | exact bin_sub | exact bi_int | exact bi_abs | exact cmp_eqI | exact cmp_neI | exact cmp_ltI | exact cmp_leI | exact cmp_gtI | exact cmp_geI | exact bi_len | exact bi_lenT | exact ix_lst (by rfl) | exact ix_tup (by rfl) | exact ix_sref (by rfl) (by rfl) | apply bin_mod | apply bin_mul | apply bin_fdiv | apply bin_pow | exact mulOk_r (by decide) | exact mulOk_l (by decide) | exact divOk_of (by decide) (by decide) | decide))
theorem pk_a (hp : p ≤ ns.length) (hc : 0 ≤ c) (hs : 0 ≤ s) (hs2 : s < 2147483648) : ∃ ds x, DrS ds ∧ exec call pkA (penv L none none) [dst ns p c s] = .ok (.nx (penv L x none)) [ds] := by
  have h1 : ev call (.cmp .eq (.ix (.var 0) (.int 2)) (.int 0)) (penv L none none) [dst ns p c s] = .ok (.bl (decide (c = 0))) [dst ns p c s] := by
    (repeat' (first | exact e_int | exact e_bl | exact e_non | exact e_str | exact es_nil | exact o_none | exact ifs_nil | exact and_nil | exact or_nil | exact e_vI (by rfl) | exact e_vF (by rfl) | exact e_vR (by rfl) | exact e_vS (by rfl) | exact e_vB (by rfl) | exact e_vN (by rfl) | apply es_cons | apply e_bin | apply e_neg | apply e_ix | apply e_sl | apply o_some | apply e_tup | apply e_lst | apply e_bi | apply e_isa | apply e_cmp | apply e_not | apply e_and | apply e_or | apply e_tst | apply i_r1 | apply i_r2 | apply i_seq | exact bin_add | exact bin_sub | exact bi_int | exact bi_abs | exact cmp_eqI | exact cmp_neI | exact cmp_ltI | exact cmp_leI | exact cmp_gtI | exact cmp_geI | exact bi_len | exact bi_lenT | exact ix_lst (by rfl) | exact ix_tup (by rfl) | exact ix_sref (by rfl) (by rfl) | apply bin_mod | apply bin_mul | apply bin_fdiv | apply bin_pow | exact mulOk_r (by decide) | exact mulOk_l (by decide) | exact divOk_of (by decide) (by decide) | decide))
  have h2 : ev call (.cmp .lt (.ix (.var 0) (.int 1)) (.bi .len (.cons (.ix (.var 0) (.int 0)) .nil))) (penv L none none) [dst ns p c s] = .ok (.bl (decide ((p : Int) < ((ns.map D.int).length : Nat)))) [dst ns p c s] := by
    (repeat' (first | exact e_int | exact e_bl | exact e_non | exact e_str | exact es_nil | exact o_none | exact ifs_nil | exact and_nil | exact or_nil | exact e_vI (by rfl) | exact e_vF (by rfl) | exact e_vR (by rfl) | exact e_vS (by rfl) | exact e_vB (by rfl) | exact e_vN (by rfl) | apply es_cons | apply e_bin | apply e_neg | apply e_ix | apply e_sl | apply o_some | apply e_tup | apply e_lst | apply e_bi | apply e_isa | apply e_cmp | apply e_not | apply e_and | apply e_or | apply e_tst | apply i_r1 | apply i_r2 | apply i_seq | exact bin_add | exact bin_sub | exact bi_int | exact bi_abs | exact cmp_eqI | exact cmp_neI | exact cmp_ltI | exact cmp_leI | exact cmp_gtI | exact cmp_geI | exact bi_len | exact bi_lenT | exact ix_lst (by rfl) | exact ix_tup (by rfl) | exact ix_sref (by rfl) (by rfl) | apply bin_mod | apply bin_mul | apply bin_fdiv | apply bin_pow | exact mulOk_r (by decide) | exact mulOk_l (by decide) | exact divOk_of (by decide) (by decide) | decide))
  by_cases hc0 : c = 0
  · rw [decide_eq_true hc0] at h1
    by_cases hpl : p < ns.length
    · have e : decide ((p : Int) < ((ns.map D.int).length : Nat)) = true := decide_eq_true (by rw [List.length_map]; omega)
      rw [e] at h2
      have hat : atI (ns.map D.int) (p : Int) = some (.int ns[p]) := at_nat (by rw [List.getElem?_map, List.getElem?_eq_getElem hpl]; rfl)
      subst hc0
      obtain ⟨ds, q1, q2⟩ := pk_i (call := call) (ns := ns) (p := p + 1) (s := s) (L := L) (y := none) (v := if ns[p] < 0 then -ns[p] else ns[p]) (by split <;> omega) hpl hs hs2
      refine ⟨ds, some (.int (if ns[p] < 0 then -ns[p] else ns[p])), q1, x_iteT (e_tst (e_and (and_t h1 (and_t h2 and_nil))) rfl) ?_⟩
      refine s_cons (x_setP (x := .int (if ns[p] < 0 then -ns[p] else ns[p])) ?_ rfl) ?_
      · refine e_bi (es_cons (e_ix (x := .lst .scr (ns.map D.int)) (st1 := [dst ns p 0 s]) ?_ ?_ (ix_lst hat)) es_nil) rfl
        · (repeat' (first | exact e_int | exact e_bl | exact e_non | exact e_str | exact es_nil | exact o_none | exact ifs_nil | exact and_nil | exact or_nil | exact e_vI (by rfl) | exact e_vF (by rfl) | exact e_vR (by rfl) | exact e_vS (by rfl) | exact e_vB (by rfl) | exact e_vN (by rfl) | apply es_cons | apply e_bin | apply e_neg | apply e_ix | apply e_sl | apply o_some | apply e_tup | apply e_lst | apply e_bi | apply e_isa | apply e_cmp | apply e_not | apply e_and | apply e_or | apply e_tst | apply i_r1 | apply i_r2 | apply i_seq | exact bin_add | exact bin_sub | exact bi_int | exact bi_abs | exact cmp_eqI | exact cmp_neI | exact cmp_ltI | exact cmp_leI | exact cmp_gtI | exact cmp_geI | exact bi_len | exact bi_lenT | exact ix_lst (by rfl) | exact ix_tup (by rfl) | exact ix_sref (by rfl) (by rfl) | apply bin_mod | apply bin_mul | apply bin_fdiv | apply bin_pow | exact mulOk_r (by decide) | exact mulOk_l (by decide) | exact divOk_of (by decide) (by decide) | decide))
        · (repeat' (first | exact e_int | exact e_bl | exact e_non | exact e_str | exact es_nil | exact o_none | exact ifs_nil | exact and_nil | exact or_nil | exact e_vI (by rfl) | exact e_vF (by rfl) | exact e_vR (by rfl) | exact e_vS (by rfl) | exact e_vB (by rfl) | exact e_vN (by rfl) | apply es_cons | apply e_bin | apply e_neg | apply e_ix | apply e_sl | apply o_some | apply e_tup | apply e_lst | apply e_bi | apply e_isa | apply e_cmp | apply e_not | apply e_and | apply e_or | apply e_tst | apply i_r1 | apply i_r2 | apply i_seq | exact bin_add | exact bin_sub | exact bi_int | exact bi_abs | exact cmp_eqI | exact cmp_neI | exact cmp_ltI | exact cmp_leI | exact cmp_gtI | exact cmp_geI | exact bi_len | exact bi_lenT | exact ix_lst (by rfl) | exact ix_tup (by rfl) | exact ix_sref (by rfl) (by rfl) | apply bin_mod | apply bin_mul | apply bin_fdiv | apply bin_pow | exact mulOk_r (by decide) | exact mulOk_l (by decide) | exact divOk_of (by decide) (by decide) | decide))
      refine s_cons (x_setShP 1 1 (.int ((p : Int) + 1)) (by rfl) ?_ ?_ rfl rfl rfl rfl) ?_
      · (repeat' (first | exact e_int | exact e_bl | exact e_non | exact e_str | exact es_nil | exact o_none | exact ifs_nil | exact and_nil | exact or_nil | exact e_vI (by rfl) | exact e_vF (by rfl) | exact e_vR (by rfl) | exact e_vS (by rfl) | exact e_vB (by rfl) | exact e_vN (by rfl) | apply es_cons | apply e_bin | apply e_neg | apply e_ix | apply e_sl | apply o_some | apply e_tup | apply e_lst | apply e_bi | apply e_isa | apply e_cmp | apply e_not | apply e_and | apply e_or | apply e_tst | apply i_r1 | apply i_r2 | apply i_seq | exact bin_add | exact bin_sub | exact bi_int | exact bi_abs | exact cmp_eqI | exact cmp_neI | exact cmp_ltI | exact cmp_leI | exact cmp_gtI | exact cmp_geI | exact bi_len | exact bi_lenT | exact ix_lst (by rfl) | exact ix_tup (by rfl) | exact ix_sref (by rfl) (by rfl) | apply bin_mod | apply bin_mul | apply bin_fdiv | apply bin_pow | exact mulOk_r (by decide) | exact mulOk_l (by decide) | exact divOk_of (by decide) (by decide) | decide))
      · (repeat' (first | exact e_int | exact e_bl | exact e_non | exact e_str | exact es_nil | exact o_none | exact ifs_nil | exact and_nil | exact or_nil | exact e_vI (by rfl) | exact e_vF (by rfl) | exact e_vR (by rfl) | exact e_vS (by rfl) | exact e_vB (by rfl) | exact e_vN (by rfl) | apply es_cons | apply e_bin | apply e_neg | apply e_ix | apply e_sl | apply o_some | apply e_tup | apply e_lst | apply e_bi | apply e_isa | apply e_cmp | apply e_not | apply e_and | apply e_or | apply e_tst | apply i_r1 | apply i_r2 | apply i_seq | exact bin_add | exact bin_sub | exact bi_int | exact bi_abs | exact cmp_eqI | exact cmp_neI | exact cmp_ltI | exact cmp_leI | exact cmp_gtI | exact cmp_geI | exact bi_len | exact bi_lenT | exact ix_lst (by rfl) | exact ix_tup (by rfl) | exact ix_sref (by rfl) (by rfl) | apply bin_mod | apply bin_mul | apply bin_fdiv | apply bin_pow | exact mulOk_r (by decide) | exact mulOk_l (by decide) | exact divOk_of (by decide) (by decide) | decide))
      exact s_cons q2 rfl
    · have e : decide ((p : Int) < ((ns.map D.int).length : Nat)) = false := decide_eq_false (by rw [List.length_map]; omega)
      rw [e] at h2
      exact ⟨_, none, ⟨ns, p, c, s, rfl, hp, hc, hs, hs2⟩, x_iteF (e_tst (e_and (and_t h1 (and_f h2))) rfl) rfl⟩
  · rw [decide_eq_false hc0] at h1
    exact ⟨_, none, ⟨ns, p, c, s, rfl, hp, hc, hs, hs2⟩, x_iteF (e_tst (e_and (and_f h1)) rfl) rfl⟩
end
/-- THE RULE of a draw -/
theorem pick_ok {fs : List Fn} {k f : Nat} {L : Int} {st : Store} (hf : fs[f]? = some pickFn) (hL : 0 < L) (hL2 : L < 2 ^ 63) (h : Dr st) : ∃ r st', 0 ≤ r ∧ r < L ∧ Dr st' ∧ callK fs (k + 1) f [.sref 0, .int L] st = .ok (.int r) st' := by
  obtain ⟨ds, rfl, ns, p, c, s, rfl, hp, hc, hs, hs2⟩ := h
  obtain ⟨ds, x, ⟨ns, p, c, s, rfl, hp, hc, hs, hs2⟩, h1⟩ := pk_a (call := callK fs k) (L := L) hp hc hs hs2
  have h2 : ev (callK fs k) (.cmp .gt (.ix (.var 0) (.int 2)) (.int 0)) (penv L x none) [dst ns p c s] = .ok (.bl (decide (0 < c))) [dst ns p c s] := by
    (repeat' (first | exact e_int | exact e_bl | exact e_non | exact e_str | exact es_nil | exact o_none | exact ifs_nil | exact and_nil | exact or_nil | exact e_vI (by rfl) | exact e_vF (by rfl) | exact e_vR (by rfl) | exact e_vS (by rfl) | exact e_vB (by rfl) | exact e_vN (by rfl) | apply es_cons | apply e_bin | apply e_neg | apply e_ix | apply e_sl | apply o_some | apply e_tup | apply e_lst | apply e_bi | apply e_isa | apply e_cmp | apply e_not | apply e_and | apply e_or | apply e_tst | apply i_r1 | apply i_r2 | apply i_seq | exact bin_add | exact bin_sub | exact bi_int | exact bi_abs | exact cmp_eqI | exact cmp_neI | exact cmp_ltI | exact cmp_leI | exact cmp_gtI | exact cmp_geI | exact bi_len | exact bi_lenT | exact ix_lst (by rfl) | exact ix_tup (by rfl) | exact ix_sref (by rfl) (by rfl) | apply bin_mod | apply bin_mul | apply bin_fdiv | apply bin_pow | exact mulOk_r (by decide) | exact mulOk_l (by decide) | exact divOk_of (by decide) (by decide) | decide))
  have hd : divOk L = true := divOk_of (by omega) (by omega)
  by_cases hc0 : 0 < c
  · rw [decide_eq_true hc0] at h2
    refine ⟨c.fmod L, [dst ns p (c.fdiv L) s], Int.fmod_nonneg_of_pos _ hL, Int.fmod_lt_of_pos _ hL, ⟨_, rfl, ns, p, _, s, rfl, hp, Int.fdiv_nonneg hc (by omega), hs, hs2⟩, c_run hf (run_rt rfl rfl (s_cons h1 (s_rt (x_iteT (e_tst h2 rfl) ?_))) rfl)⟩
    refine s_cons (x_setP (x := .int (c.fmod L)) ?_ rfl) (s_cons (x_setShP 2 2 (.int (c.fdiv L)) (by rfl) ?_ ?_ rfl rfl rfl rfl) (s_rt (x_retV rfl)))
    · (repeat' (first | exact e_int | exact e_bl | exact e_non | exact e_str | exact es_nil | exact o_none | exact ifs_nil | exact and_nil | exact or_nil | exact e_vI (by rfl) | exact e_vF (by rfl) | exact e_vR (by rfl) | exact e_vS (by rfl) | exact e_vB (by rfl) | exact e_vN (by rfl) | apply es_cons | apply e_bin | apply e_neg | apply e_ix | apply e_sl | apply o_some | apply e_tup | apply e_lst | apply e_bi | apply e_isa | apply e_cmp | apply e_not | apply e_and | apply e_or | apply e_tst | apply i_r1 | apply i_r2 | apply i_seq | exact bin_add | exact bin_sub | exact bi_int | exact bi_abs | exact cmp_eqI | exact cmp_neI | exact cmp_ltI | exact cmp_leI | exact cmp_gtI | exact cmp_geI | exact bi_len | exact bi_lenT | exact ix_lst (by rfl) | exact ix_tup (by rfl) | exact ix_sref (by rfl) (by rfl) | apply bin_mod | apply bin_mul | apply bin_fdiv | apply bin_pow | exact mulOk_r (by decide) | exact mulOk_l (by decide) | exact divOk_of (by decide) (by decide) | decide)); omega
    · (repeat' (first | exact e_int | exact e_bl | exact e_non | exact e_str | exact es_nil | exact o_none | exact ifs_nil | exact and_nil | exact or_nil | exact e_vI (by rfl) | exact e_vF (by rfl) | exact e_vR (by rfl) | exact e_vS (by rfl) | exact e_vB (by rfl) | exact e_vN (by rfl) | apply es_cons | apply e_bin | apply e_neg | apply e_ix | apply e_sl | apply o_some | apply e_tup | apply e_lst | apply e_bi | apply e_isa | apply e_cmp | apply e_not | apply e_and | apply e_or | apply e_tst | apply i_r1 | apply i_r2 | apply i_seq | exact bin_add | exact bin_sub | exact bi_int | exact bi_abs | exact cmp_eqI | exact cmp_neI | exact cmp_ltI | exact cmp_leI | exact cmp_gtI | exact cmp_geI | exact bi_len | exact bi_lenT | exact ix_lst (by rfl) | exact ix_tup (by rfl) | exact ix_sref (by rfl) (by rfl) | apply bin_mod | apply bin_mul | apply bin_fdiv | apply bin_pow | exact mulOk_r (by decide) | exact mulOk_l (by decide) | exact divOk_of (by decide) (by decide) | decide)); exact hd
    · (repeat' (first | exact e_int | exact e_bl | exact e_non | exact e_str | exact es_nil | exact o_none | exact ifs_nil | exact and_nil | exact or_nil | exact e_vI (by rfl) | exact e_vF (by rfl) | exact e_vR (by rfl) | exact e_vS (by rfl) | exact e_vB (by rfl) | exact e_vN (by rfl) | apply es_cons | apply e_bin | apply e_neg | apply e_ix | apply e_sl | apply o_some | apply e_tup | apply e_lst | apply e_bi | apply e_isa | apply e_cmp | apply e_not | apply e_and | apply e_or | apply e_tst | apply i_r1 | apply i_r2 | apply i_seq | exact bin_add | exact bin_sub | exact bi_int | exact bi_abs | exact cmp_eqI | exact cmp_neI | exact cmp_ltI | exact cmp_leI | exact cmp_gtI | exact cmp_geI | exact bi_len | exact bi_lenT | exact ix_lst (by rfl) | exact ix_tup (by rfl) | exact ix_sref (by rfl) (by rfl) | apply bin_mod | apply bin_mul | apply bin_fdiv | apply bin_pow | exact mulOk_r (by decide) | exact mulOk_l (by decide) | exact divOk_of (by decide) (by decide) | decide))
  · rw [decide_eq_false hc0] at h2
    have r1 : ∀ a : Int, 0 ≤ a.fmod 2147483647 := fun a => Int.fmod_nonneg_of_pos _ (by decide)
    have r2 : ∀ a : Int, a.fmod 2147483647 < 2147483647 := fun a => Int.fmod_lt_of_pos _ (by decide)
    refine ⟨(((s * 48271).fmod 2147483647).fdiv 5 + ((s * 48271).fmod 2147483647 * (s * 48271).fmod 2147483647).fmod 2147483629).fmod L, [dst ns p c ((s * 48271).fmod 2147483647)], Int.fmod_nonneg_of_pos _ hL, Int.fmod_lt_of_pos _ hL, ⟨_, rfl, ns, p, _, _, rfl, hp, hc, r1 _, by have := r2 (s * 48271); omega⟩, c_run hf (run_rt rfl rfl (s_cons h1 (s_cons (x_iteF (e_tst h2 rfl) s_nil) ?_)) rfl)⟩
    refine s_cons (x_setShP 3 3 (.int ((s * 48271).fmod 2147483647)) (by rfl) ?_ ?_ rfl rfl rfl rfl) (s_rt (x_ret ?_ rfl))
    · (repeat' (first | exact e_int | exact e_bl | exact e_non | exact e_str | exact es_nil | exact o_none | exact ifs_nil | exact and_nil | exact or_nil | exact e_vI (by rfl) | exact e_vF (by rfl) | exact e_vR (by rfl) | exact e_vS (by rfl) | exact e_vB (by rfl) | exact e_vN (by rfl) | apply es_cons | apply e_bin | apply e_neg | apply e_ix | apply e_sl | apply o_some | apply e_tup | apply e_lst | apply e_bi | apply e_isa | apply e_cmp | apply e_not | apply e_and | apply e_or | apply e_tst | apply i_r1 | apply i_r2 | apply i_seq | exact bin_add | exact bin_sub | exact bi_int | exact bi_abs | exact cmp_eqI | exact cmp_neI | exact cmp_ltI | exact cmp_leI | exact cmp_gtI | exact cmp_geI | exact bi_len | exact bi_lenT | exact ix_lst (by rfl) | exact ix_tup (by rfl) | exact ix_sref (by rfl) (by rfl) | apply bin_mod | apply bin_mul | apply bin_fdiv | apply bin_pow | exact mulOk_r (by decide) | exact mulOk_l (by decide) | exact divOk_of (by decide) (by decide) | decide))
    · (repeat' (first | exact e_int | exact e_bl | exact e_non | exact e_str | exact es_nil | exact o_none | exact ifs_nil | exact and_nil | exact or_nil | exact e_vI (by rfl) | exact e_vF (by rfl) | exact e_vR (by rfl) | exact e_vS (by rfl) | exact e_vB (by rfl) | exact e_vN (by rfl) | apply es_cons | apply e_bin | apply e_neg | apply e_ix | apply e_sl | apply o_some | apply e_tup | apply e_lst | apply e_bi | apply e_isa | apply e_cmp | apply e_not | apply e_and | apply e_or | apply e_tst | apply i_r1 | apply i_r2 | apply i_seq | exact bin_add | exact bin_sub | exact bi_int | exact bi_abs | exact cmp_eqI | exact cmp_neI | exact cmp_ltI | exact cmp_leI | exact cmp_gtI | exact cmp_geI | exact bi_len | exact bi_lenT | exact ix_lst (by rfl) | exact ix_tup (by rfl) | exact ix_sref (by rfl) (by rfl) | apply bin_mod | apply bin_mul | apply bin_fdiv | apply bin_pow | exact mulOk_r (by decide) | exact mulOk_l (by decide) | exact divOk_of (by decide) (by decide) | decide))
    · (repeat' (first | exact e_int | exact e_bl | exact e_non | exact e_str | exact es_nil | exact o_none | exact ifs_nil | exact and_nil | exact or_nil | exact e_vI (by rfl) | exact e_vF (by rfl) | exact e_vR (by rfl) | exact e_vS (by rfl) | exact e_vB (by rfl) | exact e_vN (by rfl) | apply es_cons | apply e_bin | apply e_neg | apply e_ix | apply e_sl | apply o_some | apply e_tup | apply e_lst | apply e_bi | apply e_isa | apply e_cmp | apply e_not | apply e_and | apply e_or | apply e_tst | apply i_r1 | apply i_r2 | apply i_seq | exact bin_add | exact bin_sub | exact bi_int | exact bi_abs | exact cmp_eqI | exact cmp_neI | exact cmp_ltI | exact cmp_leI | exact cmp_gtI | exact cmp_geI | exact bi_len | exact bi_lenT | exact ix_lst (by rfl) | exact ix_tup (by rfl) | exact ix_sref (by rfl) (by rfl) | apply bin_mod | apply bin_mul | apply bin_fdiv | apply bin_pow | exact mulOk_r (by decide) | exact mulOk_l (by decide) | exact divOk_of (by decide) (by decide) | decide))
      · exact mulOk_l (by have := r1 (s * 48271); have := r2 (s * 48271); omega)
      · omega
end PL
namespace PL
open PySem
open L2 (atI ixN)
/-- nothing that may be changed, nothing lent -/
structure Pl (d : D) : Prop where
  no : d.noOwn = true
  kp : d.keep = true
mutual
theorem frz_id : ∀ {d : D}, d.noOwn = true → d.keep = true → d.frz = d
  | .non, _, _ => rfl
  | .bl _, _, _ => rfl
  | .int _, _, _ => rfl
  | .str _, _, _ => rfl
  | .tup ds, n, k => by
    show D.tup (frzL ds) = _
    rw [frzL_id (by simpa [D.noOwn] using n) (by simpa [D.keep] using k)]
  | .lst .own ds, n, k => by simp [D.noOwn] at n
  | .lst .fro ds, _, _ => rfl
  | .lst .bor ds, n, k => by simp [D.keep] at k
  | .lst .scr ds, _, _ => rfl
  | .sref _, _, _ => rfl
theorem frzL_id : ∀ {ds : List D}, noOwnL ds = true → keepL ds = true → frzL ds = ds
  | [], _, _ => rfl
  | d :: ds, n, k => by
    simp only [noOwnL, keepL, Bool.and_eq_true] at n k
    show d.frz :: frzL ds = _
    rw [frz_id n.1 k.1, frzL_id n.2 k.2]
end
theorem Pl.bw {d : D} (p : Pl d) : d.bw = d := bw_id p.no p.kp
theorem Pl.frz {d : D} (p : Pl d) : d.frz = d := frz_id p.no p.kp
mutual
theorem frz_keep : ∀ {d : D}, d.keep = true → d.frz.keep = true
  | .non, _ => rfl
  | .bl _, _ => rfl
  | .int _, _ => rfl
  | .str _, _ => rfl
  | .tup ds, k => by
    show keepL (frzL ds) = true
    exact frzL_keep (by simpa [D.keep] using k)
  | .lst .own ds, k => rfl
  | .lst .fro ds, _ => rfl
  | .lst .bor ds, k => by simp [D.keep] at k
  | .lst .scr ds, _ => rfl
  | .sref _, _ => rfl
theorem frzL_keep : ∀ {ds : List D}, keepL ds = true → keepL (frzL ds) = true
  | [], _ => rfl
  | d :: ds, k => by
    simp only [keepL, Bool.and_eq_true] at k
    show (d.frz.keep && keepL (frzL ds)) = true
    rw [frz_keep k.1, frzL_keep k.2]; rfl
end
theorem Pl.of_frz {d : D} (k : d.keep = true) : Pl d.frz := ⟨frz_noOwn d, frz_keep k⟩
theorem pl_int (i : Int) : Pl (.int i) := ⟨rfl, rfl⟩
theorem pl_bl (b : Bool) : Pl (.bl b) := ⟨rfl, rfl⟩
theorem pl_non : Pl .non := ⟨rfl, rfl⟩
theorem pl_str (s : Str) : Pl (.str s) := ⟨rfl, rfl⟩
theorem pl_fro (ds : List D) : Pl (.lst .fro ds) := ⟨rfl, rfl⟩
theorem noOwnL_of : ∀ {ds : List D}, (∀ d ∈ ds, Pl d) → noOwnL ds = true
  | [], _ => rfl
  | d :: ds, h => by
    show (d.noOwn && noOwnL ds) = true
    rw [(h d List.mem_cons_self).no, noOwnL_of fun e m => h e (List.mem_cons_of_mem _ m)]; rfl
theorem keepL_of : ∀ {ds : List D}, (∀ d ∈ ds, Pl d) → keepL ds = true
  | [], _ => rfl
  | d :: ds, h => by
    show (d.keep && keepL ds) = true
    rw [(h d List.mem_cons_self).kp, keepL_of fun e m => h e (List.mem_cons_of_mem _ m)]; rfl
theorem pl_tup {ds : List D} (h : ∀ d ∈ ds, Pl d) : Pl (.tup ds) := ⟨noOwnL_of h, keepL_of h⟩
theorem pl_tup_map {α : Type} {f : α → D} {l : List α} (h : ∀ x ∈ l, Pl (f x)) : Pl (.tup (l.map f)) := pl_tup fun d m => by
  obtain ⟨x, q, rfl⟩ := List.mem_map.mp m
  exact h x q
theorem e_vP {call : Nat → List D → M D} {env : Env} {st : Store} {i : Nat} {d : D} (p : Pl d) (h : env[i]? = some (some d)) : ev call (.var i) env st = .ok d st := e_var h p.bw
/-! ### _law_same -/
mutual
def D.dep : D → Nat
  | .tup ds => depL ds + 1
  | .lst _ ds => depL ds + 1
  | _ => 0
def depL : List D → Nat
  | [] => 0
  | d :: ds => max d.dep (depL ds)
end
mutual
/-- what _law_same may look at -/
def D.okS : D → Bool
  | .tup ds => decide (ds.length ≤ 1000000) && okSL ds
  | .lst m ds => m != .scr && decide (ds.length ≤ 1000000) && keepL ds && okSL ds
  | .str s => PyData.strOk s
  | .sref _ => false
  | _ => true
def okSL : List D → Bool
  | [] => true
  | d :: ds => d.okS && okSL ds
end
theorem frzL_map : ∀ ds : List D, frzL ds = ds.map D.frz
  | [] => rfl
  | d :: ds => by show d.frz :: frzL ds = _; rw [frzL_map ds]; rfl
theorem pyL_map : ∀ ds : List D, pyL ds = ds.map D.py
  | [] => rfl
  | d :: ds => by show d.py :: pyL ds = _; rw [pyL_map ds]; rfl
theorem frzL_len (ds : List D) : (frzL ds).length = ds.length := by rw [frzL_map, List.length_map]
mutual
theorem frz_py : ∀ d : D, d.frz.py = d.py
  | .non => rfl
  | .bl _ => rfl
  | .int _ => rfl
  | .str _ => rfl
  | .tup ds => by show PyData.tuple (pyL (frzL ds)) = _; rw [frzL_py ds]; rfl
  | .lst .own ds => by show PyData.list (pyL (frzL ds)) = _; rw [frzL_py ds]; rfl
  | .lst .fro ds => rfl
  | .lst .bor ds => rfl
  | .lst .scr ds => rfl
  | .sref _ => rfl
theorem frzL_py : ∀ ds : List D, pyL (frzL ds) = pyL ds
  | [] => rfl
  | d :: ds => by show d.frz.py :: pyL (frzL ds) = _; rw [frz_py d, frzL_py ds]; rfl
end
mutual
theorem frz_dep : ∀ d : D, d.frz.dep = d.dep
  | .non => rfl
  | .bl _ => rfl
  | .int _ => rfl
  | .str _ => rfl
  | .tup ds => by show depL (frzL ds) + 1 = _; rw [frzL_dep ds]; rfl
  | .lst .own ds => by show depL (frzL ds) + 1 = _; rw [frzL_dep ds]; rfl
  | .lst .fro ds => rfl
  | .lst .bor ds => rfl
  | .lst .scr ds => rfl
  | .sref _ => rfl
theorem frzL_dep : ∀ ds : List D, depL (frzL ds) = depL ds
  | [] => rfl
  | d :: ds => by show max d.frz.dep (depL (frzL ds)) = _; rw [frz_dep d, frzL_dep ds]; rfl
end
mutual
theorem frz_okS : ∀ {d : D}, d.okS = true → d.frz.okS = true
  | .non, _ => rfl
  | .bl _, _ => rfl
  | .int _, _ => rfl
  | .str _, h => h
  | .tup ds, h => by
    simp only [D.okS, D.frz, Bool.and_eq_true, decide_eq_true_eq, frzL_len] at h ⊢
    exact ⟨h.1, frzL_okS h.2⟩
  | .lst .own ds, h => by
    simp only [D.okS, D.frz, Bool.and_eq_true, decide_eq_true_eq, frzL_len] at h ⊢
    exact ⟨⟨⟨rfl, h.1.1.2⟩, frzL_keep h.1.2⟩, frzL_okS h.2⟩
  | .lst .fro ds, h => h
  | .lst .bor ds, h => h
  | .lst .scr ds, h => h
  | .sref _, h => h
theorem frzL_okS : ∀ {ds : List D}, okSL ds = true → okSL (frzL ds) = true
  | [], _ => rfl
  | d :: ds, h => by
    simp only [okSL, frzL, Bool.and_eq_true] at h ⊢
    exact ⟨frz_okS h.1, frzL_okS h.2⟩
end
theorem depL_get : ∀ {ds : List D} {i : Nat} {d : D}, ds[i]? = some d → d.dep ≤ depL ds
  | [], i, d, h => by simp at h
  | e :: ds, 0, d, h => by simp at h; subst h; exact Nat.le_max_left _ _
  | e :: ds, i + 1, d, h => Nat.le_trans (depL_get (i := i) (by simpa using h)) (Nat.le_max_right _ _)
theorem okSL_get : ∀ {ds : List D} {i : Nat} {d : D}, okSL ds = true → ds[i]? = some d → d.okS = true
  | [], i, d, _, h => by simp at h
  | e :: ds, 0, d, k, h => by simp only [okSL, Bool.and_eq_true] at k; simp at h; subst h; exact k.1
  | e :: ds, i + 1, d, k, h => by simp only [okSL, Bool.and_eq_true] at k; exact okSL_get (i := i) k.2 (by simpa using h)
def smIf (a : E) (r : E) : St := .ite a (.cons (.ret r) .nil) .nil
def smLast (f : Nat) : E := .and (.cons (.cmp .eq (.bi .len (.cons (.var 0) .nil)) (.bi .len (.cons (.var 1) .nil))) (.cons (.cmp .eq (.comp (.int 1) [2] false (.r1 (.bi .len (.cons (.var 1) .nil))) (.cons (.not (.call f (.cons (.ix (.var 0) (.var 2)) (.cons (.ix (.var 1) (.var 2)) .nil)))) .nil) [2]) (.lst .nil)) .nil))
def sameFn (f : Nat) : Fn := ⟨2, 3,
    (.cons (smIf (.cmp .is (.var 1) .non) (.cmp .is (.var 0) .non))
    (.cons (smIf (.isa .bool (.var 1)) (.and (.cons (.isa .bool (.var 0)) (.cons (.cmp .eq (.var 0) (.var 1)) .nil))))
    (.cons (smIf (.isa .int (.var 1)) (.and (.cons (.isa .int (.var 0)) (.cons (.not (.isa .bool (.var 0))) (.cons (.cmp .eq (.var 0) (.var 1)) .nil)))))
    (.cons (smIf (.isa .str (.var 1)) (.and (.cons (.isa .str (.var 0)) (.cons (.cmp .eq (.var 0) (.var 1)) .nil))))
    (.cons (smIf (.or (.cons (.and (.cons (.isa .list (.var 1)) (.cons (.not (.isa .list (.var 0))) .nil))) (.cons (.and (.cons (.isa .tuple (.var 1)) (.cons (.not (.isa .tuple (.var 0))) .nil))) .nil))) (.bl false))
    (.cons (.ret (smLast f)) .nil))))))⟩
section
variable {call : Nat → List D → M D} {x y : D} {z : Option D} {st : Store} {f : Nat}
abbrev smE (x y : D) (z : Option D) : Env := [some x, some y, z]
theorem sm_skip {a r : E} {env : Env} (h : ev call a env st = .ok (.bl false) st) : exec call (smIf a r) env st = .ok (.nx env) st := x_iteF (e_tst h rfl) rfl
theorem sm_take {a r : E} {env : Env} {d : D} (h : ev call a env st = .ok (.bl true) st) (h2 : ev call r env st = .ok d st) (k : d.keep = true) : exec call (smIf a r) env st = .ok (.rt d) st := x_iteT (e_tst h rfl) (s_rt (x_ret h2 k))
/-- the last row: both are lists, or tuples, and alike part by part -/
theorem sm_last {ds es : List D} (hx : ∃ m, x = .lst m ds ∨ x = .tup ds) (hy : ∃ m, y = .lst m es ∨ y = .tup es) (px : Pl x) (py : Pl y) (hl : ds.length = es.length) (hm : es.length ≤ 1000000)
    (hc : ∀ (i : Nat) (d e : D), ds[i]? = some d → es[i]? = some e → call f [d, e] st = .ok (.bl true) st) : ev call (smLast f) (smE x y none) st = .ok (.bl true) st := by
  have hv0 : ∀ z, ev call (.var 0) (smE x y z) st = .ok x st := fun z => e_vP px rfl
  have hv1 : ∀ z, ev call (.var 1) (smE x y z) st = .ok y st := fun z => e_vP py rfl
  have hlen0 : biD .len [x] = some (.int ds.length) := by obtain ⟨m, rfl | rfl⟩ := hx <;> rfl
  have hlen1 : biD .len [y] = some (.int es.length) := by obtain ⟨m, rfl | rfl⟩ := hy <;> rfl
  refine e_and (and_t (st1 := st) ?_ (and_t (st1 := st) ?_ and_nil))
  · refine e_cmp (e_bi (es_cons (hv0 _) es_nil) hlen0) (e_bi (es_cons (hv1 _) es_nil) hlen1) ?_
    rw [cmp_eqI, hl, decide_eq_true rfl]
  · refine e_cmp (e_comp (i_r1 (n := es.length) (e_bi (es_cons (hv1 _) es_nil) hlen1) ?_) (ys := []) ?_ (Nat.zero_le _)) (e_lst es_nil) rfl
    · simp only [rgOk, Bool.and_eq_true, decide_eq_true_eq]; omega
    · unfold rgD
      rw [comp_filter (g := fun _ => D.int 1) (p := fun _ => false) fun i hi => ?_]
      · simp
      · have hi' : i < es.length := by
          rw [List.mem_range] at hi; omega
        have e1 : es[i]? = some es[i] := List.getElem?_eq_getElem hi'
        have e0 : ds[i]? = some ds[i] := List.getElem?_eq_getElem (by omega)
        have c := hc i _ _ e0 e1
        have ix0 : ixD st x (.int ((0 : Int) + i)) = some ds[i] := by
          rw [Int.zero_add]
          obtain ⟨m, rfl | rfl⟩ := hx
          · exact ix_lst (at_nat e0)
          · exact ix_tup (at_nat e0)
        have ix1 : ixD st y (.int ((0 : Int) + i)) = some es[i] := by
          rw [Int.zero_add]
          obtain ⟨m, rfl | rfl⟩ := hy
          · exact ix_lst (at_nat e1)
          · exact ix_tup (at_nat e1)
        refine turn_f (env' := smE x y (some (.int ((0 : Int) + i)))) rfl (ifs_one (e_tst (e_not (e_call (es_cons (e_ix (hv0 _) (e_vI rfl) ix0) (es_cons (e_ix (hv1 _) (e_vI rfl) ix1) es_nil)) c)) rfl))
end
theorem pyL_get {ds : List D} {i : Nat} : (pyL ds)[i]? = (ds[i]?).map D.py := by rw [pyL_map, List.getElem?_map]
theorem pyL_len (ds : List D) : (pyL ds).length = ds.length := by rw [pyL_map, List.length_map]
theorem cmp_eqB {a b : Bool} : cmpD .eq (.bl a) (.bl b) = some (decide (a = b)) := by cases a <;> cases b <;> rfl
theorem cmp_eqS {a : Str} (h : PyData.strOk a = true) : cmpD .eq (.str a) (.str a) = some true := by
  show eqD (.str a) (.str a) = _
  unfold eqD
  have e : (D.str a).dat = true := h
  rw [if_pos (by rw [e]; rfl)]
  show some (PyData.eqv (.str a) (.str a)) = _
  simp [PyData.eqv]
section
variable {call : Nat → List D → M D} {x y : D} {st : Store} {f : Nat}
theorem sm_leaf (hp : x.py = y.py) (ox : x.okS = true) (oy : y.okS = true) (px : Pl x) (py : Pl y)
    (hlast : (∃ ds es : List D, (∃ m, x = .lst m ds ∨ x = .tup ds) ∧ (∃ m, y = .lst m es ∨ y = .tup es)) → ev call (smLast f) (smE x y none) st = .ok (.bl true) st) :
    execs call (sameFn f).body (smE x y none) st = .ok (.rt (.bl true)) st := by
  have hv0 : ev call (.var 0) (smE x y none) st = .ok x st := e_vP px rfl
  have hv1 : ev call (.var 1) (smE x y none) st = .ok y st := e_vP py rfl
  cases y with
  | non =>
    cases x with
    | non => exact s_rt (sm_take (e_cmp hv1 e_non rfl) (e_cmp hv0 e_non rfl) rfl)
    | sref n => cases ox
    | _ => cases hp
  | bl b =>
    cases x with
    | bl a =>
      have e : a = b := by injection hp
      subst e
      refine s_cons (sm_skip (e_cmp hv1 e_non rfl)) (s_rt (sm_take (e_isa hv1 rfl) (e_and (and_t (e_isa hv0 rfl) (and_t (e_cmp hv0 hv1 ?_) and_nil))) rfl))
      rw [cmp_eqB, decide_eq_true rfl]
    | _ => cases hp
  | int b =>
    cases x with
    | int a =>
      have e : a = b := by injection hp
      subst e
      refine s_cons (sm_skip (e_cmp hv1 e_non rfl)) (s_cons (sm_skip (e_isa hv1 rfl)) (s_rt (sm_take (e_isa hv1 rfl) (e_and (and_t (e_isa hv0 rfl) (and_t (e_not (k := false) (e_isa hv0 rfl)) (and_t (e_cmp hv0 hv1 ?_) and_nil)))) rfl)))
      rw [cmp_eqI, decide_eq_true rfl]
    | _ => cases hp
  | str b =>
    cases x with
    | str a =>
      have e : a = b := by injection hp
      subst e
      exact s_cons (sm_skip (e_cmp hv1 e_non rfl)) (s_cons (sm_skip (e_isa hv1 rfl)) (s_cons (sm_skip (e_isa hv1 rfl)) (s_rt (sm_take (e_isa hv1 rfl) (e_and (and_t (e_isa hv0 rfl) (and_t (e_cmp hv0 hv1 (cmp_eqS oy)) and_nil))) rfl))))
    | _ => cases hp
  | tup es =>
    cases x with
    | tup ds =>
      exact s_cons (sm_skip (e_cmp hv1 e_non rfl)) (s_cons (sm_skip (e_isa hv1 rfl)) (s_cons (sm_skip (e_isa hv1 rfl)) (s_cons (sm_skip (e_isa hv1 rfl)) (s_cons (sm_skip (e_or (or_f (e_and (and_f (e_isa hv1 rfl))) (or_f (e_and (and_t (e_isa hv1 rfl) (and_f (e_not (k := true) (e_isa hv0 rfl))))) or_nil)))) (s_rt (x_ret (hlast ⟨ds, es, ⟨.fro, .inr rfl⟩, ⟨.fro, .inr rfl⟩⟩) rfl))))))
    | _ => cases hp
  | lst m es =>
    cases x with
    | lst m' ds =>
      have i1 : ∀ k : Ki, isaD k (.lst m es) = some (.bl (match k with | .list => true | _ => false)) := fun k => by cases m <;> cases k <;> first | rfl | cases oy
      have i0 : ∀ k : Ki, isaD k (.lst m' ds) = some (.bl (match k with | .list => true | _ => false)) := fun k => by cases m' <;> cases k <;> first | rfl | cases ox
      exact s_cons (sm_skip (e_cmp hv1 e_non rfl)) (s_cons (sm_skip (e_isa hv1 (i1 .bool))) (s_cons (sm_skip (e_isa hv1 (i1 .int))) (s_cons (sm_skip (e_isa hv1 (i1 .str))) (s_cons (sm_skip (e_or (or_f (e_and (and_t (e_isa hv1 (i1 .list)) (and_f (e_not (k := true) (e_isa hv0 (i0 .list)))))) (or_f (e_and (and_f (e_isa hv1 (i1 .tuple)))) or_nil)))) (s_rt (x_ret (hlast ⟨ds, es, ⟨m', .inl rfl⟩, ⟨m, .inl rfl⟩⟩) rfl))))))
    | _ => cases hp
  | sref n => cases oy
end
/-- THE RULE of _law_same: alike data -/
theorem same_ok {fs : List Fn} {f : Nat} (hf : fs[f]? = some (sameFn f)) : ∀ (k : Nat) (d e : D) (st : Store), e.dep < k → d.py = e.py → d.okS = true → e.okS = true → d.keep = true → e.keep = true → callK fs k f [d, e] st = .ok (.bl true) st
  | 0, d, e, st, h, _, _, _, _, _ => absurd h (Nat.not_lt_zero _)
  | k + 1, d, e, st, h, hp, od, oe, kd, ke => by
    have hk : keepL [d, e] = true := by simp [keepL, kd, ke]
    refine c_run hf (run_rt hk rfl ?_ rfl)
    show execs (callK fs k) (sameFn f).body (smE d.frz e.frz none) st = _
    have px := Pl.of_frz kd
    have py := Pl.of_frz ke
    have hp' : d.frz.py = e.frz.py := by rw [frz_py, frz_py]; exact hp
    have ox := frz_okS od
    have oy := frz_okS oe
    have hd : e.frz.dep < k + 1 := by rw [frz_dep]; exact h
    generalize d.frz = x at *
    generalize e.frz = y at *
    refine sm_leaf hp' ox oy px py ?_
    rintro ⟨ds, es, hx, hy⟩
    have pl : pyL ds = pyL es := by
      obtain ⟨m, rfl | rfl⟩ := hx <;> obtain ⟨m', rfl | rfl⟩ := hy <;> first | (injection hp'; done) | (cases hp'; done)
    have hlen : ds.length = es.length := by rw [← pyL_len ds, pl, pyL_len]
    have oks : okSL ds = true ∧ okSL es = true ∧ es.length ≤ 1000000 := by
      obtain ⟨m, rfl | rfl⟩ := hx <;> obtain ⟨m', rfl | rfl⟩ := hy <;> simp only [D.okS, Bool.and_eq_true, decide_eq_true_eq] at ox oy <;> (first | exact ⟨ox.2, oy.2, by omega⟩ | exact ⟨ox.2, oy.2, by have := oy.1.1.2; omega⟩)
    have hdep : depL es + 1 = y.dep := by obtain ⟨m', rfl | rfl⟩ := hy <;> rfl
    refine sm_last hx hy px py hlen oks.2.2 fun i d' e' h1 h2 => ?_
    have hpy : d'.py = e'.py := by
      have a := pyL_get (ds := ds) (i := i)
      have b := pyL_get (ds := es) (i := i)
      rw [h1] at a
      rw [h2, ← pl, a] at b
      exact Option.some.inj b
    have kk : d'.keep = true ∧ e'.keep = true := by
      have a1 : keepL ds = true := by
        obtain ⟨m, rfl | rfl⟩ := hx
        · simp only [D.okS, Bool.and_eq_true] at ox; exact ox.1.2
        · simpa [D.keep] using px.kp
      have a2 : keepL es = true := by
        obtain ⟨m, rfl | rfl⟩ := hy
        · simp only [D.okS, Bool.and_eq_true] at oy; exact oy.1.2
        · simpa [D.keep] using py.kp
      exact ⟨keepL_get a1 h1, keepL_get a2 h2⟩
    exact same_ok hf k d' e' st (by have := depL_get h2; omega) hpy (okSL_get oks.1 h1) (okSL_get oks.2.1 h2) kk.1 kk.2
end PL
namespace PL
open PySem
open L2 (atI ixN)
/-! ### rows and tables of ints -/
def rowD (r : List Int) : D := .tup (r.map D.int)
def tabD (t : List (List Int)) : D := .tup (t.map rowD)
theorem pl_row (r : List Int) : Pl (rowD r) := pl_tup_map fun i _ => pl_int i
theorem pl_tab (t : List (List Int)) : Pl (tabD t) := pl_tup_map fun r _ => pl_row r
theorem e_vRow {call : Nat → List D → M D} {env : Env} {st : Store} {i : Nat} {r : List Int} (h : env[i]? = some (some (rowD r))) : ev call (.var i) env st = .ok (rowD r) st := e_vP (pl_row r) h
theorem e_vTab {call : Nat → List D → M D} {env : Env} {st : Store} {i : Nat} {t : List (List Int)} (h : env[i]? = some (some (tabD t))) : ev call (.var i) env st = .ok (tabD t) st := e_vP (pl_tab t) h
theorem ix_row {st : Store} {r : List Int} {i : Nat} {x : Int} (h : r[i]? = some x) : ixD st (rowD r) (.int (i : Int)) = some (.int x) := ix_tup (at_nat (by rw [List.getElem?_map, h]; rfl))
theorem ix_tab {st : Store} {t : List (List Int)} {i : Nat} {r : List Int} (h : t[i]? = some r) : ixD st (tabD t) (.int (i : Int)) = some (rowD r) := ix_tup (at_nat (by rw [List.getElem?_map, h]; rfl))
theorem len_row (r : List Int) : biD .len [rowD r] = some (.int r.length) := by show some (D.int ((r.map D.int).length : Nat)) = _; rw [List.length_map]
theorem len_tab (t : List (List Int)) : biD .len [tabD t] = some (.int t.length) := by show some (D.int ((t.map rowD).length : Nat)) = _; rw [List.length_map]
theorem items_row (r : List Int) : itemsD (rowD r) = some (r.map D.int) := by
  show some (bwL _) = _
  rw [bwL_id (pl_row r).no (pl_row r).kp]
theorem items_tab (t : List (List Int)) : itemsD (tabD t) = some (t.map rowD) := by
  show some (bwL _) = _
  rw [bwL_id (pl_tab t).no (pl_tab t).kp]
theorem bwL_ints (r : List Int) : bwL (r.map D.int) = r.map D.int := bwL_id (pl_row r).no (pl_row r).kp
theorem bwL_rows (t : List (List Int)) : bwL (t.map rowD) = t.map rowD := bwL_id (pl_tab t).no (pl_tab t).kp
theorem tup_ints {m : Md} (r : List Int) : biD .tuple [.lst m (r.map D.int)] = some (rowD r) := by
  show some (D.tup (bwL _)) = _
  rw [bwL_ints]; rfl
theorem tup_rows {m : Md} (t : List (List Int)) : biD .tuple [.lst m (t.map rowD)] = some (tabD t) := by
  show some (D.tup (bwL _)) = _
  rw [bwL_rows]; rfl
theorem intsOf_ints : ∀ r : List Int, intsOf (r.map D.int) = some r
  | [] => rfl
  | x :: r => by show (intsOf (r.map D.int)).map (x :: ·) = _; rw [intsOf_ints r]; rfl
theorem sum_ints {m : Md} (r : List Int) : biD .sum [.lst m (r.map D.int)] = some (.int r.sum) := by
  show (intsOf _).map _ = _
  rw [intsOf_ints]; rfl
theorem dep_ints : ∀ r : List Int, depL (r.map D.int) = 0
  | [] => rfl
  | x :: r => by show max 0 (depL (r.map D.int)) = 0; rw [dep_ints r]; rfl
theorem dep_row (r : List Int) : (rowD r).dep = 1 := by show depL _ + 1 = 1; rw [dep_ints]
theorem dep_rows : ∀ t : List (List Int), depL (t.map rowD) ≤ 1
  | [] => Nat.zero_le _
  | x :: t => by show max (rowD x).dep (depL (t.map rowD)) ≤ 1; rw [dep_row]; exact Nat.max_le.mpr ⟨Nat.le_refl _, dep_rows t⟩
theorem dep_tab (t : List (List Int)) : (tabD t).dep ≤ 2 := Nat.succ_le_succ (dep_rows t)
theorem okS_ints : ∀ r : List Int, okSL (r.map D.int) = true
  | [] => rfl
  | x :: r => by show (true && okSL (r.map D.int)) = true; rw [okS_ints r]; rfl
theorem okS_row {r : List Int} (h : r.length ≤ 1000000) : (rowD r).okS = true := by
  show (decide ((r.map D.int).length ≤ 1000000) && okSL (r.map D.int)) = true
  rw [List.length_map, decide_eq_true h, okS_ints]; rfl
theorem okS_rows : ∀ {t : List (List Int)}, (∀ r ∈ t, r.length ≤ 1000000) → okSL (t.map rowD) = true
  | [], _ => rfl
  | x :: t, h => by show ((rowD x).okS && okSL (t.map rowD)) = true; rw [okS_row (h x List.mem_cons_self), okS_rows fun r m => h r (List.mem_cons_of_mem _ m)]; rfl
theorem okS_tab {t : List (List Int)} (h : t.length ≤ 1000000) (h2 : ∀ r ∈ t, r.length ≤ 1000000) : (tabD t).okS = true := by
  show (decide ((t.map rowD).length ≤ 1000000) && okSL (t.map rowD)) = true
  rw [List.length_map, decide_eq_true h, okS_rows h2]; rfl
/-- == of data that are the same -/
theorem eqv_refl : True := trivial
/-! ### drawn comprehensions -/
theorem comp_exM {α β : Type} {f : D → M (List D)} {enc : α → D} {dec : β → D} {I : Store → Prop} {P : β → Prop} : ∀ {xs : List α} {st : Store}, I st → (∀ x ∈ xs, ∀ st, I st → ∃ (y : β) (st' : Store), P y ∧ I st' ∧ f (enc x) st = .ok [dec y] st') →
    ∃ (ys : List β) (st' : Store), ys.length = xs.length ∧ (∀ y ∈ ys, P y) ∧ I st' ∧ compM f (xs.map enc) st = .ok (ys.map dec) st'
  | [], st, i, _ => ⟨[], st, rfl, fun _ m => (nomatch m), i, rfl⟩
  | x :: xs, st, i, h => by
    obtain ⟨y, st1, p, i1, h1⟩ := h x List.mem_cons_self st i
    obtain ⟨ys, st2, q1, q2, q3, q4⟩ := comp_exM (P := P) i1 fun y m => h y (List.mem_cons_of_mem _ m)
    refine ⟨y :: ys, st2, by simp [q1], fun z m => ?_, q3, M.bind_of h1 (M.bind_of q4 rfl)⟩
    rcases List.mem_cons.mp m with e | m
    · rw [e]; exact p
    · exact q2 z m
/-- _law_table -/
def tableFn (p : Nat) : Fn := ⟨5, 7,
    (.cons (.ret (.bi .tuple (.cons (.comp (.bi .tuple (.cons (.comp (.bin .add (.var 3) (.call p (.cons (.var 0) (.cons (.bin .add (.bin .sub (.var 4) (.var 3)) (.int 1)) .nil)))) [6] false (.r1 (.var 2)) .nil [6]) .nil)) [5] false (.r1 (.var 1)) .nil [5]) .nil)))
    .nil)⟩
theorem table_ok {fs : List Fn} {k f p : Nat} {a b : Nat} {lo hi : Int} {st : Store} (hf : fs[f]? = some (tableFn p)) (hp : fs[p]? = some pickFn) (ha : a ≤ 1000) (hb : b ≤ 1000) (h1 : lo ≤ hi) (h2 : -1000000 ≤ lo) (h3 : hi ≤ 1000000) (h : Dr st) :
    ∃ (t : List (List Int)) (st' : Store), t.length = a ∧ (∀ r ∈ t, r.length = b ∧ ∀ x ∈ r, lo ≤ x ∧ x ≤ hi) ∧ Dr st' ∧ callK fs (k + 2) f [.sref 0, .int a, .int b, .int lo, .int hi] st = .ok (tabD t) st' := by
  have inner : ∀ (z : Option D) (st : Store), Dr st → ∃ (r : List Int) (st' : Store), (r.length = b ∧ ∀ x ∈ r, lo ≤ x ∧ x ≤ hi) ∧ Dr st' ∧
      ev (callK fs (k + 1)) (.bi .tuple (.cons (.comp (.bin .add (.var 3) (.call p (.cons (.var 0) (.cons (.bin .add (.bin .sub (.var 4) (.var 3)) (.int 1)) .nil)))) [6] false (.r1 (.var 2)) .nil [6]) .nil)) [some (.sref 0), some (.int a), some (.int b), some (.int lo), some (.int hi), z, none] st = .ok (rowD r) st' := fun z st h => by
    obtain ⟨r, st', q1, q2, q3, q4⟩ := comp_exM (f := turnF [6] false [6] (evIfs (callK fs (k + 1)) .nil) (ev (callK fs (k + 1)) (.bin .add (.var 3) (.call p (.cons (.var 0) (.cons (.bin .add (.bin .sub (.var 4) (.var 3)) (.int 1)) .nil))))) [some (.sref 0), some (.int a), some (.int b), some (.int lo), some (.int hi), z, none])
      (enc := fun (i : Nat) => D.int ((0 : Int) + i)) (dec := D.int) (I := Dr) (P := fun x => lo ≤ x ∧ x ≤ hi) (xs := List.range ((b : Int) - 0).toNat) (st := st) h fun i _ st hst => by
        obtain ⟨r, st', r1, r2, r3, r4⟩ := pick_ok (k := k) hp (L := hi - lo + 1) (by omega) (by omega) hst
        refine ⟨lo + r, st', ⟨by omega, by omega⟩, r3, turn_t (st1 := st) rfl ifs_nil (e_bin (st1 := st) (e_vI rfl) (e_call (st1 := st) (ds := [.sref 0, .int (hi - lo + 1)]) ?_ r4) rfl)⟩
        (repeat' (first | exact e_int | exact e_bl | exact e_non | exact e_str | exact es_nil | exact o_none | exact ifs_nil | exact and_nil | exact or_nil | exact e_vI (by rfl) | exact e_vF (by rfl) | exact e_vR (by rfl) | exact e_vS (by rfl) | exact e_vB (by rfl) | exact e_vN (by rfl) | apply es_cons | apply e_bin | apply e_neg | apply e_ix | apply e_sl | apply o_some | apply e_tup | apply e_lst | apply e_bi | apply e_isa | apply e_cmp | apply e_not | apply e_and | apply e_or | apply e_tst | apply i_r1 | apply i_r2 | apply i_seq | exact bin_add | exact bin_sub | exact bi_int | exact bi_abs | exact cmp_eqI | exact cmp_neI | exact cmp_ltI | exact cmp_leI | exact cmp_gtI | exact cmp_geI | exact bi_len | exact bi_lenT | exact ix_lst (by rfl) | exact ix_tup (by rfl) | exact ix_sref (by rfl) (by rfl) | apply bin_mod | apply bin_mul | apply bin_fdiv | apply bin_pow | exact mulOk_r (by decide) | exact mulOk_l (by decide) | exact divOk_of (by decide) (by decide) | decide))
    rw [List.length_range] at q1
    refine ⟨r, st', ⟨by omega, q2⟩, q3, e_bi (es_cons (e_comp (st1 := st) (i_r1 (n := b) (e_vI rfl) ?_) q4 ?_) es_nil) (tup_ints r)⟩
    · simp only [rgOk, Bool.and_eq_true, decide_eq_true_eq]; omega
    · rw [List.length_map]; unfold LIM; omega
  obtain ⟨t, st', q1, q2, q3, q4⟩ := comp_exM (f := turnF [5] false [5] (evIfs (callK fs (k + 1)) .nil) (ev (callK fs (k + 1)) (.bi .tuple (.cons (.comp (.bin .add (.var 3) (.call p (.cons (.var 0) (.cons (.bin .add (.bin .sub (.var 4) (.var 3)) (.int 1)) .nil)))) [6] false (.r1 (.var 2)) .nil [6]) .nil))) [some (.sref 0), some (.int a), some (.int b), some (.int lo), some (.int hi), none, none])
      (enc := fun (i : Nat) => D.int ((0 : Int) + i)) (dec := rowD) (I := Dr) (P := fun r => r.length = b ∧ ∀ x ∈ r, lo ≤ x ∧ x ≤ hi) (xs := List.range ((a : Int) - 0).toNat) (st := st) h fun i _ st hst => by
        obtain ⟨r, st', r1, r2, r3⟩ := inner (some (.int ((0 : Int) + i))) st hst
        exact ⟨r, st', r1, r2, turn_t (st1 := st) rfl ifs_nil r3⟩
  rw [List.length_range] at q1
  have hlen : st'.length = st.length := by
    obtain ⟨ds, rfl, _⟩ := q3
    obtain ⟨ds, rfl, _⟩ := h
    rfl
  refine ⟨t, st', by omega, q2, q3, c_run hf (run_rt rfl rfl (s_rt (x_ret (e_bi (es_cons (e_comp (st1 := st) (i_r1 (n := a) (e_vI rfl) ?_) q4 ?_) es_nil) (tup_rows t)) (pl_tab t).kp)) hlen)⟩
  · simp only [rgOk, Bool.and_eq_true, decide_eq_true_eq]; omega
  · rw [List.length_map]; unfold LIM; omega
end PL
namespace PL
open PySem
open L2 (atI ixN)
/-! ### gcd, fractions -/
theorem gcd_step (a b : Nat) : Nat.gcd a b = Nat.gcd b (a % b) := by
  rw [Nat.gcd_comm a b, Nat.gcd_rec b a, Nat.gcd_comm]
theorem fmod_nat (a b : Nat) : (a : Int).fmod (b : Int) = ((a % b : Nat) : Int) := by
  rw [Int.fmod_eq_emod_of_nonneg _ (by omega)]; rfl
theorem abs_nat (x : Int) : (if x < 0 then -x else x) = (x.natAbs : Int) := by split <;> omega
section
variable {call : Nat → List D → M D} {st : Store}
theorem div_loop : ∀ (n : Nat) (a b : Nat), b < n → whileM (tstD (ev call (.cmp .gt (.var 1) (.int 0)))) (execs call (.cons (.par [0, 1] (.cons (.var 1) (.cons (.bin .mod (.bi .int (.cons (.var 0) .nil)) (.var 1)) .nil))) .nil)) n [some (.int a), some (.int b)] st = .ok (.nx [some (.int (Nat.gcd a b)), some (.int 0)]) st
  | 0, _, _, h => absurd h (Nat.not_lt_zero _)
  | n + 1, a, b, h => by
    have hc : ev call (.cmp .gt (.var 1) (.int 0)) [some (.int a), some (.int b)] st = .ok (.bl (decide ((0 : Int) < b))) st := e_cmp (e_vI rfl) e_int cmp_gtI
    by_cases hb : b = 0
    · subst hb
      rw [Nat.gcd_zero_right]
      exact while_f (e_tst hc rfl)
    · rw [decide_eq_true (by omega)] at hc
      refine while_t (env' := [some (.int b), some (.int ((a % b : Nat) : Int))]) (e_tst hc rfl) (s_cons (x_parP (ds := [.int b, .int ((a % b : Nat) : Int)]) ?_ rfl rfl) rfl) ?_
      · refine es_cons (e_vI rfl) (es_cons (e_bin (e_bi (es_cons (e_vI rfl) es_nil) bi_int) (e_vI rfl) ?_) es_nil)
        rw [← fmod_nat]
        exact bin_mod (by omega)
      · rw [gcd_step a b]
        exact div_loop n b (a % b) (by have := Nat.mod_lt a (Nat.pos_of_ne_zero hb); omega)
end
/-- divisor -/
def divFn : Fn := ⟨2, 2,
    (.cons (.par [0, 1] (.cons (.bi .abs (.cons (.var 0) .nil)) (.cons (.bi .abs (.cons (.var 1) .nil)) .nil)))
    (.cons (.whl 100000 (.cmp .gt (.var 1) (.int 0)) (.cons (.par [0, 1] (.cons (.var 1) (.cons (.bin .mod (.bi .int (.cons (.var 0) .nil)) (.var 1)) .nil)))
    .nil))
    (.cons (.retV 0)
    .nil)))⟩
theorem div_ok {fs : List Fn} {f k : Nat} {st : Store} (hf : fs[f]? = some divFn) (x y : Int) (hy : y.natAbs < 100000) : callK fs (k + 1) f [.int x, .int y] st = .ok (.int (Int.gcd x y)) st := by
  refine c_run hf (run_rt rfl rfl (s_cons (env' := [some (.int x.natAbs), some (.int y.natAbs)]) (x_parP (ds := [.int x.natAbs, .int y.natAbs]) ?_ rfl rfl) (s_cons (env' := [some (.int (Int.gcd x y)), some (.int 0)]) (st1 := st) ?_ (s_rt (x_retV rfl)))) rfl)
  · rw [← abs_nat, ← abs_nat]
    exact es_cons (e_bi (es_cons (e_vI rfl) es_nil) bi_abs) (es_cons (e_bi (es_cons (e_vI rfl) es_nil) bi_abs) es_nil)
  · show whileM _ _ 100000 _ st = _
    exact div_loop 100000 x.natAbs y.natAbs hy
/-- x/y in lowest terms is m/n -/
structure Red (x y m n : Int) : Prop where
  pos : 0 < n
  co : Int.gcd m n = 1
  eq : m * y = x * n
  bm : m.natAbs ≤ x.natAbs
  bn : n.natAbs ≤ y.natAbs
theorem co_uniq {m n m' n' : Int} (h : 0 < n) (h' : 0 < n') (c : Int.gcd m n = 1) (c' : Int.gcd m' n' = 1) (e : m * n' = m' * n) : m = m' ∧ n = n' := by
  have c1 : Nat.gcd m.natAbs n.natAbs = 1 := c
  have c2 : Nat.gcd m'.natAbs n'.natAbs = 1 := c'
  have e1 : m.natAbs * n'.natAbs = m'.natAbs * n.natAbs := by rw [← Int.natAbs_mul, ← Int.natAbs_mul, e]
  have d1 : n.natAbs ∣ n'.natAbs := by
    have : Nat.Coprime n.natAbs m.natAbs := by unfold Nat.Coprime; rw [Nat.gcd_comm]; exact c1
    exact this.dvd_of_dvd_mul_left ⟨m'.natAbs, by rw [e1, Nat.mul_comm]⟩
  have d2 : n'.natAbs ∣ n.natAbs := by
    have : Nat.Coprime n'.natAbs m'.natAbs := by unfold Nat.Coprime; rw [Nat.gcd_comm]; exact c2
    exact this.dvd_of_dvd_mul_left ⟨m.natAbs, by rw [← e1, Nat.mul_comm]⟩
  have en : n = n' := by have := Nat.dvd_antisymm d1 d2; omega
  subst en
  exact ⟨Int.eq_of_mul_eq_mul_right (by omega) e, rfl⟩
theorem Red.uniq {x y m n x' y' m' n' : Int} (r : Red x y m n) (r' : Red x' y' m' n') (hy : y ≠ 0) (hy' : y' ≠ 0) (e : x * y' = x' * y) : m = m' ∧ n = n' := by
  refine co_uniq r.pos r'.pos r.co r'.co ?_
  have h1 := r.eq
  have h2 := r'.eq
  have : m * n' * (y * y') = m' * n * (y * y') := by grind
  exact Int.eq_of_mul_eq_mul_right (Int.mul_ne_zero hy hy') this
/-- the parts by the divisor -/
theorem red_of {x y : Int} (hy : y ≠ 0) : ∃ g u v : Int, g = Int.gcd x y ∧ 0 < g ∧ x = g * u ∧ y = g * v ∧ Int.gcd u v = 1 ∧ u.natAbs ≤ x.natAbs ∧ v.natAbs ≤ y.natAbs := by
  have hg : 0 < Int.gcd x y := Int.gcd_pos_of_ne_zero_right x hy
  obtain ⟨u, hu⟩ := Int.gcd_dvd_left x y
  obtain ⟨v, hv⟩ := Int.gcd_dvd_right x y
  refine ⟨_, u, v, rfl, by omega, hu, hv, ?_, ?_, ?_⟩
  · have hu' : x.natAbs = Int.gcd x y * u.natAbs := by rw [← Int.natAbs_natCast (Int.gcd x y), ← Int.natAbs_mul, ← hu]
    have hv' : y.natAbs = Int.gcd x y * v.natAbs := by rw [← Int.natAbs_natCast (Int.gcd x y), ← Int.natAbs_mul, ← hv]
    have : Int.gcd x y = Int.gcd x y * Nat.gcd u.natAbs v.natAbs := by
      conv => lhs; unfold Int.gcd
      rw [← Nat.gcd_mul_left, ← hu', ← hv']
    show Nat.gcd u.natAbs v.natAbs = 1
    exact Nat.eq_of_mul_eq_mul_left hg (by omega)
  · have hu' : x.natAbs = Int.gcd x y * u.natAbs := by rw [← Int.natAbs_natCast (Int.gcd x y), ← Int.natAbs_mul, ← hu]
    rw [hu']; exact Nat.le_mul_of_pos_left _ hg
  · have hv' : y.natAbs = Int.gcd x y * v.natAbs := by rw [← Int.natAbs_natCast (Int.gcd x y), ← Int.natAbs_mul, ← hv]
    rw [hv']; exact Nat.le_mul_of_pos_left _ hg
/-- a fraction -/
def frD (m n : Int) : D := .tup [.int m, .int n]
theorem pl_fr (m n : Int) : Pl (frD m n) := ⟨rfl, rfl⟩
/-- made -/
def madeFn (d : Nat) : Fn := ⟨2, 3,
    (.cons (.set 2 (.call d (.cons (.var 0) (.cons (.var 1) .nil))))
    (.cons (.ite (.cmp .lt (.var 1) (.int 0)) (.cons (.set 2 (.bin .sub (.int 0) (.var 2)))
    .nil) .nil)
    (.cons (.ret (.tup (.cons (.bin .fdiv (.var 0) (.var 2)) (.cons (.bin .fdiv (.var 1) (.var 2)) .nil))))
    .nil)))⟩
theorem made_ok {fs : List Fn} {f d k : Nat} {st : Store} (hf : fs[f]? = some (madeFn d)) (hd : fs[d]? = some divFn) (x y : Int) (hy0 : y ≠ 0) (hy : y.natAbs < 100000) : ∃ m n, Red x y m n ∧ callK fs (k + 2) f [.int x, .int y] st = .ok (frD m n) st := by
  obtain ⟨g, u, v, hg, gp, hu, hv, co, b1, b2⟩ := red_of (x := x) hy0
  have hcall : callK fs (k + 1) d [.int x, .int y] st = .ok (.int g) st := by rw [hg]; exact div_ok hd x y hy
  have gb : g.natAbs < 2 ^ 64 := by
    have : g ≤ y.natAbs := by rw [hg]; exact Int.ofNat_le.mpr (Nat.le_of_dvd (by omega) (Nat.gcd_dvd_right _ _))
    omega
  have hlt : ev (callK fs (k + 1)) (.cmp .lt (.var 1) (.int 0)) [some (.int x), some (.int y), some (.int g)] st = .ok (.bl (decide (y < 0))) st := e_cmp (e_vI rfl) e_int cmp_ltI
  have v0 : v ≠ 0 := fun z => by rw [z, Int.mul_zero] at hv; exact hy0 hv
  by_cases hn : y < 0
  · rw [decide_eq_true hn] at hlt
    have e1 : x.fdiv (0 - g) = -u := by rw [hu, show g * u = (0 - g) * (-u) by grind]; exact Int.mul_fdiv_cancel_left _ (by omega)
    have e2 : y.fdiv (0 - g) = -v := by rw [hv, show g * v = (0 - g) * (-v) by grind]; exact Int.mul_fdiv_cancel_left _ (by omega)
    have vn : v < 0 := by
      rcases Int.lt_or_gt_of_ne v0 with h | h
      · exact h
      · have := Int.mul_pos gp h; omega
    refine ⟨-u, -v, ⟨by omega, by simpa [Int.gcd] using co, by grind, by omega, by omega⟩, c_run hf (run_rt rfl rfl (s_cons (x_set (st1 := st) (e_call (st1 := st) (es_cons (e_vI rfl) (es_cons (e_vI rfl) es_nil)) hcall) rfl) (s_cons (env' := [some (.int x), some (.int y), some (.int (0 - g))]) (x_iteT (e_tst hlt rfl) (s_cons (x_setP (x := .int (0 - g)) (e_bin e_int (e_vI rfl) bin_sub) rfl) rfl)) (s_rt (x_ret (x := frD (-u) (-v)) (e_tup (es_cons (e_bin (e_vI rfl) (e_vI rfl) ?_) (es_cons (e_bin (e_vI rfl) (e_vI rfl) ?_) es_nil))) rfl)))) rfl)⟩
    · rw [← e1]; exact bin_fdiv (divOk_of (by omega) (by omega))
    · rw [← e2]; exact bin_fdiv (divOk_of (by omega) (by omega))
  · rw [decide_eq_false hn] at hlt
    have e1 : x.fdiv g = u := by rw [hu]; exact Int.mul_fdiv_cancel_left _ (by omega)
    have e2 : y.fdiv g = v := by rw [hv]; exact Int.mul_fdiv_cancel_left _ (by omega)
    have vn : 0 < v := by
      rcases Int.lt_or_gt_of_ne v0 with h | h
      · have := Int.mul_neg_of_pos_of_neg gp h; omega
      · exact h
    refine ⟨u, v, ⟨vn, co, by grind, b1, b2⟩, c_run hf (run_rt rfl rfl (s_cons (x_set (st1 := st) (e_call (st1 := st) (es_cons (e_vI rfl) (es_cons (e_vI rfl) es_nil)) hcall) rfl) (s_cons (env' := [some (.int x), some (.int y), some (.int g)]) (x_iteF (e_tst hlt rfl) rfl) (s_rt (x_ret (x := frD u v) (e_tup (es_cons (e_bin (e_vI rfl) (e_vI rfl) ?_) (es_cons (e_bin (e_vI rfl) (e_vI rfl) ?_) es_nil))) rfl)))) rfl)⟩
    · rw [← e1]; exact bin_fdiv (divOk_of (by omega) gb)
    · rw [← e2]; exact bin_fdiv (divOk_of (by omega) gb)
end PL
namespace PL
open PySem
open L2 (atI ixN)
section
variable {call : Nat → List D → M D} {st : Store} {x y : Int}
theorem least_loop : ∀ (n : Nat) (a b : Nat), b < n → whileM (tstD (ev call (.cmp .ne (.var 3) (.int 0)))) (execs call (.cons (.par [2, 3] (.cons (.var 3) (.cons (.bin .mod (.bi .int (.cons (.var 2) .nil)) (.var 3)) .nil))) .nil)) n [some (.int x), some (.int y), some (.int a), some (.int b)] st = .ok (.nx [some (.int x), some (.int y), some (.int (Nat.gcd a b)), some (.int 0)]) st
  | 0, _, _, h => absurd h (Nat.not_lt_zero _)
  | n + 1, a, b, h => by
    have hc : ev call (.cmp .ne (.var 3) (.int 0)) [some (.int x), some (.int y), some (.int a), some (.int b)] st = .ok (.bl (!decide ((b : Int) = 0))) st := e_cmp (e_vI rfl) e_int cmp_neI
    by_cases hb : b = 0
    · subst hb
      rw [Nat.gcd_zero_right]
      exact while_f (e_tst hc rfl)
    · rw [decide_eq_false (by omega)] at hc
      refine while_t (env' := [some (.int x), some (.int y), some (.int b), some (.int ((a % b : Nat) : Int))]) (e_tst hc rfl) (s_cons (x_parP (ds := [.int b, .int ((a % b : Nat) : Int)]) ?_ rfl rfl) rfl) ?_
      · refine es_cons (e_vI rfl) (es_cons (e_bin (e_bi (es_cons (e_vI rfl) es_nil) bi_int) (e_vI rfl) ?_) es_nil)
        rw [← fmod_nat]
        exact bin_mod (by omega)
      · rw [gcd_step a b]
        exact least_loop n b (a % b) (by have := Nat.mod_lt a (Nat.pos_of_ne_zero hb); omega)
end
/-- _law_least -/
def leastIf : St := .ite (.cmp .lt (.var 1) (.int 0)) (.cons (.par [0, 1] (.cons (.bin .sub (.int 0) (.var 0)) (.cons (.bin .sub (.int 0) (.var 1)) .nil))) .nil) .nil
def leastRest : Sts := .cons (.par [2, 3] (.cons (.var 1) (.cons (.bi .abs (.cons (.var 0) .nil)) .nil)))
    (.cons (.whl 100000 (.cmp .ne (.var 3) (.int 0)) (.cons (.par [2, 3] (.cons (.var 3) (.cons (.bin .mod (.bi .int (.cons (.var 2) .nil)) (.var 3)) .nil)))
    .nil))
    (.cons (.ret (.tup (.cons (.bin .fdiv (.var 0) (.var 2)) (.cons (.bin .fdiv (.var 1) (.var 2)) .nil))))
    .nil))
def leastFn : Fn := ⟨2, 4, .cons leastIf leastRest⟩
theorem least_rest {call : Nat → List D → M D} {st : Store} (x y : Int) (hy : 0 < y) (hx : x.natAbs < 100000) (hy2 : y.natAbs < 2 ^ 64) : ∃ m n, Red x y m n ∧ execs call leastRest [some (.int x), some (.int y), none, none] st = .ok (.rt (frD m n)) st := by
  obtain ⟨g, u, v, hg, gp, hu, hv, co, b1, b2⟩ := red_of (x := x) (y := y) (by omega)
  have gb : g.natAbs < 2 ^ 64 := by
    have : g ≤ y.natAbs := by rw [hg]; exact Int.ofNat_le.mpr (Nat.le_of_dvd (by omega) (Nat.gcd_dvd_right _ _))
    omega
  have e1 : x.fdiv g = u := by rw [hu]; exact Int.mul_fdiv_cancel_left _ (by omega)
  have e2 : y.fdiv g = v := by rw [hv]; exact Int.mul_fdiv_cancel_left _ (by omega)
  have vn : 0 < v := by
    rcases Int.lt_trichotomy v 0 with h | h | h
    · have := Int.mul_neg_of_pos_of_neg gp h; omega
    · rw [h, Int.mul_zero] at hv; omega
    · exact h
  have hy' : (y.natAbs : Int) = y := by omega
  refine ⟨u, v, ⟨vn, co, by grind, b1, b2⟩, s_cons (env' := [some (.int x), some (.int y), some (.int y.natAbs), some (.int x.natAbs)]) (x_parP (ds := [.int y.natAbs, .int x.natAbs]) ?_ rfl rfl) (s_cons (env' := [some (.int x), some (.int y), some (.int g), some (.int 0)]) (st1 := st) ?_ (s_rt (x_ret (x := frD u v) (e_tup (es_cons (e_bin (e_vI rfl) (e_vI rfl) ?_) (es_cons (e_bin (e_vI rfl) (e_vI rfl) ?_) es_nil))) rfl)))⟩
  · rw [← abs_nat x, hy']
    exact es_cons (e_vI rfl) (es_cons (e_bi (es_cons (e_vI rfl) es_nil) bi_abs) es_nil)
  · have q := least_loop (call := call) (st := st) (x := x) (y := y) 100000 y.natAbs x.natAbs hx
    rw [Nat.gcd_comm] at q
    rw [hg]
    exact q
  · rw [← e1]; exact bin_fdiv (divOk_of (by omega) gb)
  · rw [← e2]; exact bin_fdiv (divOk_of (by omega) gb)
theorem least_ok {fs : List Fn} {f k : Nat} {st : Store} (hf : fs[f]? = some leastFn) (x y : Int) (hy0 : y ≠ 0) (hx : x.natAbs < 100000) (hy : y.natAbs < 100000) : ∃ m n, Red x y m n ∧ callK fs (k + 1) f [.int x, .int y] st = .ok (frD m n) st := by
  have hlt : ev (callK fs k) (.cmp .lt (.var 1) (.int 0)) [some (.int x), some (.int y), none, none] st = .ok (.bl (decide (y < 0))) st := e_cmp (e_vI rfl) e_int cmp_ltI
  by_cases hn : y < 0
  · rw [decide_eq_true hn] at hlt
    obtain ⟨m, n, r, h⟩ := least_rest (call := callK fs k) (st := st) (0 - x) (0 - y) (by omega) (by omega) (by omega)
    refine ⟨m, n, ⟨r.pos, r.co, by have := r.eq; grind, by have := r.bm; omega, by have := r.bn; omega⟩, c_run hf (run_rt rfl rfl (s_cons (env' := [some (.int (0 - x)), some (.int (0 - y)), none, none]) (x_iteT (e_tst hlt rfl) (s_cons (x_parP (ds := [.int (0 - x), .int (0 - y)]) ?_ rfl rfl) rfl)) h) rfl)⟩
    exact es_cons (e_bin e_int (e_vI rfl) bin_sub) (es_cons (e_bin e_int (e_vI rfl) bin_sub) es_nil)
  · rw [decide_eq_false hn] at hlt
    obtain ⟨m, n, r, h⟩ := least_rest (call := callK fs k) (st := st) x y (by omega) (by omega) (by omega)
    exact ⟨m, n, r, c_run hf (run_rt rfl rfl (s_cons (env' := [some (.int x), some (.int y), none, none]) (x_iteF (e_tst hlt rfl) rfl) h) rfl)⟩
/-! ### arithmetic of fractions: f(first, second) of frD -/
theorem ix_fr0 {st : Store} {m n : Int} : ixD st (frD m n) (.int 0) = some (.int m) := rfl
theorem ix_fr1 {st : Store} {m n : Int} : ixD st (frD m n) (.int 1) = some (.int n) := rfl
theorem e_vFr {call : Nat → List D → M D} {env : Env} {st : Store} {i : Nat} {m n : Int} (h : env[i]? = some (some (frD m n))) : ev call (.var i) env st = .ok (frD m n) st := e_vP (pl_fr m n) h

theorem mul_small {a b : Int} {A B : Nat} (ha : a.natAbs ≤ A) (hb : b.natAbs ≤ B) : (a * b).natAbs ≤ A * B := by rw [Int.natAbs_mul]; exact Nat.mul_le_mul ha hb
def plusFn (d : Nat) : Fn := ⟨2, 2,
    (.cons (.ret (.call d (.cons (.bin .add (.bin .mul (.ix (.var 0) (.int 0)) (.ix (.var 1) (.int 1))) (.bin .mul (.ix (.var 1) (.int 0)) (.ix (.var 0) (.int 1)))) (.cons (.bin .mul (.ix (.var 0) (.int 1)) (.ix (.var 1) (.int 1))) .nil))))
    .nil)⟩
def minusFn (d : Nat) : Fn := ⟨2, 2,
    (.cons (.ret (.call d (.cons (.bin .sub (.bin .mul (.ix (.var 0) (.int 0)) (.ix (.var 1) (.int 1))) (.bin .mul (.ix (.var 1) (.int 0)) (.ix (.var 0) (.int 1)))) (.cons (.bin .mul (.ix (.var 0) (.int 1)) (.ix (.var 1) (.int 1))) .nil))))
    .nil)⟩
def timesFn (d : Nat) : Fn := ⟨2, 2,
    (.cons (.ret (.call d (.cons (.bin .mul (.ix (.var 0) (.int 0)) (.ix (.var 1) (.int 0))) (.cons (.bin .mul (.ix (.var 0) (.int 1)) (.ix (.var 1) (.int 1))) .nil))))
    .nil)⟩
def overFn (d : Nat) : Fn := ⟨2, 2,
    (.cons (.ret (.call d (.cons (.bin .mul (.ix (.var 0) (.int 0)) (.ix (.var 1) (.int 1))) (.cons (.bin .mul (.ix (.var 0) (.int 1)) (.ix (.var 1) (.int 0))) .nil))))
    .nil)⟩
section
variable {fs : List Fn} {f d e k : Nat} {st : Store} {a b c g : Int}
theorem bin_fr {f2 : Fn} (X : E) (Y : E) (hb : f2 = ⟨2, 2, .cons (.ret (.call d (.cons X (.cons Y .nil)))) .nil⟩) (hf : fs[f]? = some f2) (hm : fs[d]? = some (madeFn e)) (he : fs[e]? = some divFn) (p q : Int)
    (hX : ev (callK fs (k + 2)) X [some (frD a b), some (frD c g)] st = .ok (.int p) st) (hY : ev (callK fs (k + 2)) Y [some (frD a b), some (frD c g)] st = .ok (.int q) st) (hq : q ≠ 0) (hq2 : q.natAbs < 100000) :
    ∃ m n, Red p q m n ∧ callK fs (k + 3) f [frD a b, frD c g] st = .ok (frD m n) st := by
  obtain ⟨m, n, r, h⟩ := made_ok (k := k) (st := st) hm he p q hq hq2
  refine ⟨m, n, r, c_run hf ?_⟩
  subst hb
  exact run_rt rfl rfl (s_rt (x_ret (x := frD m n) (e_call (es_cons hX (es_cons hY es_nil)) h) rfl)) rfl
theorem plus_ok (hf : fs[f]? = some (plusFn d)) (hm : fs[d]? = some (madeFn e)) (he : fs[e]? = some divFn) (ha : a.natAbs < 2 ^ 64) (hb : b.natAbs ≤ 10000) (hc : c.natAbs < 2 ^ 64) (hg : g.natAbs < 2 ^ 64) (hq : b * g ≠ 0) (hq2 : (b * g).natAbs < 100000) :
    ∃ m n, Red (a * g + c * b) (b * g) m n ∧ callK fs (k + 3) f [frD a b, frD c g] st = .ok (frD m n) st := by
  refine bin_fr _ _ rfl hf hm he _ _ ?_ ?_ hq hq2
  · (repeat' (first | exact ix_fr0 | exact ix_fr1 | exact e_vFr (by rfl) | (first | exact e_int | exact e_bl | exact e_non | exact e_str | exact es_nil | exact o_none | exact ifs_nil | exact and_nil | exact or_nil | exact e_vI (by rfl) | exact e_vF (by rfl) | exact e_vR (by rfl) | exact e_vS (by rfl) | exact e_vB (by rfl) | exact e_vN (by rfl) | apply es_cons | apply e_bin | apply e_neg | apply e_ix | apply e_sl | apply o_some | apply e_tup | apply e_lst | apply e_bi | apply e_isa | apply e_cmp | apply e_not | apply e_and | apply e_or | apply e_tst | apply i_r1 | apply i_r2 | apply i_seq | exact bin_add | exact bin_sub | exact bi_int | exact bi_abs | exact cmp_eqI | exact cmp_neI | exact cmp_ltI | exact cmp_leI | exact cmp_gtI | exact cmp_geI | exact bi_len | exact bi_lenT | exact ix_lst (by rfl) | exact ix_tup (by rfl) | exact ix_sref (by rfl) (by rfl) | apply bin_mod | apply bin_mul | apply bin_fdiv | apply bin_pow | exact mulOk_r (by decide) | exact mulOk_l (by decide) | exact divOk_of (by decide) (by decide) | decide))) <;> first | exact mulOk_l ha | exact mulOk_l hc
  · (repeat' (first | exact ix_fr0 | exact ix_fr1 | exact e_vFr (by rfl) | (first | exact e_int | exact e_bl | exact e_non | exact e_str | exact es_nil | exact o_none | exact ifs_nil | exact and_nil | exact or_nil | exact e_vI (by rfl) | exact e_vF (by rfl) | exact e_vR (by rfl) | exact e_vS (by rfl) | exact e_vB (by rfl) | exact e_vN (by rfl) | apply es_cons | apply e_bin | apply e_neg | apply e_ix | apply e_sl | apply o_some | apply e_tup | apply e_lst | apply e_bi | apply e_isa | apply e_cmp | apply e_not | apply e_and | apply e_or | apply e_tst | apply i_r1 | apply i_r2 | apply i_seq | exact bin_add | exact bin_sub | exact bi_int | exact bi_abs | exact cmp_eqI | exact cmp_neI | exact cmp_ltI | exact cmp_leI | exact cmp_gtI | exact cmp_geI | exact bi_len | exact bi_lenT | exact ix_lst (by rfl) | exact ix_tup (by rfl) | exact ix_sref (by rfl) (by rfl) | apply bin_mod | apply bin_mul | apply bin_fdiv | apply bin_pow | exact mulOk_r (by decide) | exact mulOk_l (by decide) | exact divOk_of (by decide) (by decide) | decide))); exact mulOk_r hg
theorem minus_ok (hf : fs[f]? = some (minusFn d)) (hm : fs[d]? = some (madeFn e)) (he : fs[e]? = some divFn) (ha : a.natAbs < 2 ^ 64) (hb : b.natAbs ≤ 10000) (hc : c.natAbs < 2 ^ 64) (hg : g.natAbs < 2 ^ 64) (hq : b * g ≠ 0) (hq2 : (b * g).natAbs < 100000) :
    ∃ m n, Red (a * g - c * b) (b * g) m n ∧ callK fs (k + 3) f [frD a b, frD c g] st = .ok (frD m n) st := by
  refine bin_fr _ _ rfl hf hm he _ _ ?_ ?_ hq hq2
  · (repeat' (first | exact ix_fr0 | exact ix_fr1 | exact e_vFr (by rfl) | (first | exact e_int | exact e_bl | exact e_non | exact e_str | exact es_nil | exact o_none | exact ifs_nil | exact and_nil | exact or_nil | exact e_vI (by rfl) | exact e_vF (by rfl) | exact e_vR (by rfl) | exact e_vS (by rfl) | exact e_vB (by rfl) | exact e_vN (by rfl) | apply es_cons | apply e_bin | apply e_neg | apply e_ix | apply e_sl | apply o_some | apply e_tup | apply e_lst | apply e_bi | apply e_isa | apply e_cmp | apply e_not | apply e_and | apply e_or | apply e_tst | apply i_r1 | apply i_r2 | apply i_seq | exact bin_add | exact bin_sub | exact bi_int | exact bi_abs | exact cmp_eqI | exact cmp_neI | exact cmp_ltI | exact cmp_leI | exact cmp_gtI | exact cmp_geI | exact bi_len | exact bi_lenT | exact ix_lst (by rfl) | exact ix_tup (by rfl) | exact ix_sref (by rfl) (by rfl) | apply bin_mod | apply bin_mul | apply bin_fdiv | apply bin_pow | exact mulOk_r (by decide) | exact mulOk_l (by decide) | exact divOk_of (by decide) (by decide) | decide))) <;> first | exact mulOk_l ha | exact mulOk_l hc
  · (repeat' (first | exact ix_fr0 | exact ix_fr1 | exact e_vFr (by rfl) | (first | exact e_int | exact e_bl | exact e_non | exact e_str | exact es_nil | exact o_none | exact ifs_nil | exact and_nil | exact or_nil | exact e_vI (by rfl) | exact e_vF (by rfl) | exact e_vR (by rfl) | exact e_vS (by rfl) | exact e_vB (by rfl) | exact e_vN (by rfl) | apply es_cons | apply e_bin | apply e_neg | apply e_ix | apply e_sl | apply o_some | apply e_tup | apply e_lst | apply e_bi | apply e_isa | apply e_cmp | apply e_not | apply e_and | apply e_or | apply e_tst | apply i_r1 | apply i_r2 | apply i_seq | exact bin_add | exact bin_sub | exact bi_int | exact bi_abs | exact cmp_eqI | exact cmp_neI | exact cmp_ltI | exact cmp_leI | exact cmp_gtI | exact cmp_geI | exact bi_len | exact bi_lenT | exact ix_lst (by rfl) | exact ix_tup (by rfl) | exact ix_sref (by rfl) (by rfl) | apply bin_mod | apply bin_mul | apply bin_fdiv | apply bin_pow | exact mulOk_r (by decide) | exact mulOk_l (by decide) | exact divOk_of (by decide) (by decide) | decide))); exact mulOk_r hg
theorem times_ok (hf : fs[f]? = some (timesFn d)) (hm : fs[d]? = some (madeFn e)) (he : fs[e]? = some divFn) (ha : a.natAbs < 2 ^ 64) (hg : g.natAbs < 2 ^ 64) (hq : b * g ≠ 0) (hq2 : (b * g).natAbs < 100000) :
    ∃ m n, Red (a * c) (b * g) m n ∧ callK fs (k + 3) f [frD a b, frD c g] st = .ok (frD m n) st := by
  refine bin_fr _ _ rfl hf hm he _ _ ?_ ?_ hq hq2
  · (repeat' (first | exact ix_fr0 | exact ix_fr1 | exact e_vFr (by rfl) | (first | exact e_int | exact e_bl | exact e_non | exact e_str | exact es_nil | exact o_none | exact ifs_nil | exact and_nil | exact or_nil | exact e_vI (by rfl) | exact e_vF (by rfl) | exact e_vR (by rfl) | exact e_vS (by rfl) | exact e_vB (by rfl) | exact e_vN (by rfl) | apply es_cons | apply e_bin | apply e_neg | apply e_ix | apply e_sl | apply o_some | apply e_tup | apply e_lst | apply e_bi | apply e_isa | apply e_cmp | apply e_not | apply e_and | apply e_or | apply e_tst | apply i_r1 | apply i_r2 | apply i_seq | exact bin_add | exact bin_sub | exact bi_int | exact bi_abs | exact cmp_eqI | exact cmp_neI | exact cmp_ltI | exact cmp_leI | exact cmp_gtI | exact cmp_geI | exact bi_len | exact bi_lenT | exact ix_lst (by rfl) | exact ix_tup (by rfl) | exact ix_sref (by rfl) (by rfl) | apply bin_mod | apply bin_mul | apply bin_fdiv | apply bin_pow | exact mulOk_r (by decide) | exact mulOk_l (by decide) | exact divOk_of (by decide) (by decide) | decide))); exact mulOk_l ha
  · (repeat' (first | exact ix_fr0 | exact ix_fr1 | exact e_vFr (by rfl) | (first | exact e_int | exact e_bl | exact e_non | exact e_str | exact es_nil | exact o_none | exact ifs_nil | exact and_nil | exact or_nil | exact e_vI (by rfl) | exact e_vF (by rfl) | exact e_vR (by rfl) | exact e_vS (by rfl) | exact e_vB (by rfl) | exact e_vN (by rfl) | apply es_cons | apply e_bin | apply e_neg | apply e_ix | apply e_sl | apply o_some | apply e_tup | apply e_lst | apply e_bi | apply e_isa | apply e_cmp | apply e_not | apply e_and | apply e_or | apply e_tst | apply i_r1 | apply i_r2 | apply i_seq | exact bin_add | exact bin_sub | exact bi_int | exact bi_abs | exact cmp_eqI | exact cmp_neI | exact cmp_ltI | exact cmp_leI | exact cmp_gtI | exact cmp_geI | exact bi_len | exact bi_lenT | exact ix_lst (by rfl) | exact ix_tup (by rfl) | exact ix_sref (by rfl) (by rfl) | apply bin_mod | apply bin_mul | apply bin_fdiv | apply bin_pow | exact mulOk_r (by decide) | exact mulOk_l (by decide) | exact divOk_of (by decide) (by decide) | decide))); exact mulOk_r hg
theorem over_ok (hf : fs[f]? = some (overFn d)) (hm : fs[d]? = some (madeFn e)) (he : fs[e]? = some divFn) (ha : a.natAbs < 2 ^ 64) (hc : c.natAbs < 2 ^ 64) (hq : b * c ≠ 0) (hq2 : (b * c).natAbs < 100000) :
    ∃ m n, Red (a * g) (b * c) m n ∧ callK fs (k + 3) f [frD a b, frD c g] st = .ok (frD m n) st := by
  refine bin_fr _ _ rfl hf hm he _ _ ?_ ?_ hq hq2
  · (repeat' (first | exact ix_fr0 | exact ix_fr1 | exact e_vFr (by rfl) | (first | exact e_int | exact e_bl | exact e_non | exact e_str | exact es_nil | exact o_none | exact ifs_nil | exact and_nil | exact or_nil | exact e_vI (by rfl) | exact e_vF (by rfl) | exact e_vR (by rfl) | exact e_vS (by rfl) | exact e_vB (by rfl) | exact e_vN (by rfl) | apply es_cons | apply e_bin | apply e_neg | apply e_ix | apply e_sl | apply o_some | apply e_tup | apply e_lst | apply e_bi | apply e_isa | apply e_cmp | apply e_not | apply e_and | apply e_or | apply e_tst | apply i_r1 | apply i_r2 | apply i_seq | exact bin_add | exact bin_sub | exact bi_int | exact bi_abs | exact cmp_eqI | exact cmp_neI | exact cmp_ltI | exact cmp_leI | exact cmp_gtI | exact cmp_geI | exact bi_len | exact bi_lenT | exact ix_lst (by rfl) | exact ix_tup (by rfl) | exact ix_sref (by rfl) (by rfl) | apply bin_mod | apply bin_mul | apply bin_fdiv | apply bin_pow | exact mulOk_r (by decide) | exact mulOk_l (by decide) | exact divOk_of (by decide) (by decide) | decide))); exact mulOk_l ha
  · (repeat' (first | exact ix_fr0 | exact ix_fr1 | exact e_vFr (by rfl) | (first | exact e_int | exact e_bl | exact e_non | exact e_str | exact es_nil | exact o_none | exact ifs_nil | exact and_nil | exact or_nil | exact e_vI (by rfl) | exact e_vF (by rfl) | exact e_vR (by rfl) | exact e_vS (by rfl) | exact e_vB (by rfl) | exact e_vN (by rfl) | apply es_cons | apply e_bin | apply e_neg | apply e_ix | apply e_sl | apply o_some | apply e_tup | apply e_lst | apply e_bi | apply e_isa | apply e_cmp | apply e_not | apply e_and | apply e_or | apply e_tst | apply i_r1 | apply i_r2 | apply i_seq | exact bin_add | exact bin_sub | exact bi_int | exact bi_abs | exact cmp_eqI | exact cmp_neI | exact cmp_ltI | exact cmp_leI | exact cmp_gtI | exact cmp_geI | exact bi_len | exact bi_lenT | exact ix_lst (by rfl) | exact ix_tup (by rfl) | exact ix_sref (by rfl) (by rfl) | apply bin_mod | apply bin_mul | apply bin_fdiv | apply bin_pow | exact mulOk_r (by decide) | exact mulOk_l (by decide) | exact divOk_of (by decide) (by decide) | decide))); exact mulOk_r hc
end
end PL
namespace PL
open PySem
open L2 (atI ixN)
/-! ### comprehensions that make rows, tables, sums -/
section
variable {call : Nat → List D → M D} {env : Env} {st : Store} {α : Type} {xs : List α} {enc : α → D} {it : It} {body : E} {v : Nat} {vs : List Nat}
theorem c_map {g : α → D} (hi : evI call it env st = .ok (xs.map enc) st) (hl : xs.length ≤ LIM) (hb : ∀ x ∈ xs, ev call body ((unset env vs).set v (some (enc x))) st = .ok (g x) st) : ev call (.comp body [v] false it .nil vs) env st = .ok (.lst .own (xs.map g)) st :=
  e_comp hi (comp_map fun x m => turn_t rfl ifs_nil (hb x m)) (by rw [List.length_map]; exact hl)
theorem t_row {g : α → Int} (hi : evI call it env st = .ok (xs.map enc) st) (hl : xs.length ≤ LIM) (hb : ∀ x ∈ xs, ev call body ((unset env vs).set v (some (enc x))) st = .ok (.int (g x)) st) : ev call (.bi .tuple (.cons (.comp body [v] false it .nil vs) .nil)) env st = .ok (rowD (xs.map g)) st := by
  have h := c_map (g := fun x => D.int (g x)) hi hl hb
  have e : (xs.map fun x => D.int (g x)) = (xs.map g).map D.int := by rw [List.map_map]; rfl
  rw [e] at h
  exact e_bi (es_cons h es_nil) (tup_ints _)
theorem t_sum {g : α → Int} (hi : evI call it env st = .ok (xs.map enc) st) (hl : xs.length ≤ LIM) (hb : ∀ x ∈ xs, ev call body ((unset env vs).set v (some (enc x))) st = .ok (.int (g x)) st) : ev call (.bi .sum (.cons (.comp body [v] false it .nil vs) .nil)) env st = .ok (.int (xs.map g).sum) st := by
  have h := c_map (g := fun x => D.int (g x)) hi hl hb
  have e : (xs.map fun x => D.int (g x)) = (xs.map g).map D.int := by rw [List.map_map]; rfl
  rw [e] at h
  exact e_bi (es_cons h es_nil) (sum_ints _)
theorem t_rows {g : α → List Int} (hi : evI call it env st = .ok (xs.map enc) st) (hl : xs.length ≤ LIM) (hb : ∀ x ∈ xs, ev call body ((unset env vs).set v (some (enc x))) st = .ok (rowD (g x)) st) : ev call (.bi .tuple (.cons (.comp body [v] false it .nil vs) .nil)) env st = .ok (tabD (xs.map g)) st := by
  have h := c_map (g := fun x => rowD (g x)) hi hl hb
  have e : (xs.map fun x => rowD (g x)) = (xs.map g).map rowD := by rw [List.map_map]; rfl
  rw [e] at h
  exact e_bi (es_cons h es_nil) (tup_rows _)
end
/-- range(n) -/
def rgE (i : Nat) : D := .int (i : Int)
theorem rg_n (n : Nat) : rgD 0 (n : Int) = (List.range n).map rgE := by
  unfold rgD rgE
  rw [Int.sub_zero, Int.toNat_natCast]
  congr 1
  funext i
  rw [Int.zero_add]
theorem i_rn {call : Nat → List D → M D} {env : Env} {st : Store} {a : E} {n : Nat} (h : ev call a env st = .ok (.int (n : Int)) st) (hn : n ≤ 1000000) : evI call (.r1 a) env st = .ok ((List.range n).map rgE) st := by
  rw [← rg_n]
  refine i_r1 h ?_
  simp only [rgOk, Bool.and_eq_true, decide_eq_true_eq]; omega
theorem i_row {call : Nat → List D → M D} {env : Env} {st : Store} {a : E} {r : List Int} (h : ev call a env st = .ok (rowD r) st) : evI call (.seq a) env st = .ok (r.map D.int) st := i_seq h (items_row r)
theorem i_tab {call : Nat → List D → M D} {env : Env} {st : Store} {a : E} {t : List (List Int)} (h : ev call a env st = .ok (tabD t) st) : evI call (.seq a) env st = .ok (t.map rowD) st := i_seq h (items_tab t)
theorem e_vJ {call : Nat → List D → M D} {env : Env} {st : Store} {i j : Nat} (h : env[i]? = some (some (rgE j))) : ev call (.var i) env st = .ok (.int (j : Int)) st := e_var h rfl
/-- a[i], a[i][j] of rows and tables -/
theorem e_ixR {call : Nat → List D → M D} {env : Env} {st : Store} {a b : E} {r : List Int} {i : Nat} {x : Int} (ha : ev call a env st = .ok (rowD r) st) (hb : ev call b env st = .ok (.int (i : Int)) st) (h : r[i]? = some x) : ev call (.ix a b) env st = .ok (.int x) st := e_ix ha hb (ix_row h)
theorem e_ixT {call : Nat → List D → M D} {env : Env} {st : Store} {a b : E} {t : List (List Int)} {i : Nat} {r : List Int} (ha : ev call a env st = .ok (tabD t) st) (hb : ev call b env st = .ok (.int (i : Int)) st) (h : t[i]? = some r) : ev call (.ix a b) env st = .ok (rowD r) st := e_ix ha hb (ix_tab h)
/-- entries; 0 where there is none -/
def at2 (t : List (List Int)) (i j : Nat) : Int := (t.getD i []).getD j 0
theorem getD_of {α : Type} {l : List α} {i : Nat} {x d : α} (h : l[i]? = some x) : l.getD i d = x := by rw [List.getD_eq_getElem?_getD, h]; rfl
/-- a table's shape -/
def Shp (t : List (List Int)) (a b : Nat) : Prop := t.length = a ∧ ∀ r ∈ t, r.length = b
theorem Shp.row {t : List (List Int)} {a b i : Nat} (s : Shp t a b) (h : i < a) : ∃ r, t[i]? = some r ∧ r.length = b := by
  have hi : i < t.length := by rw [s.1]; exact h
  exact ⟨t[i], List.getElem?_eq_getElem hi, s.2 _ (List.getElem_mem hi)⟩
theorem Shp.at {t : List (List Int)} {a b i j : Nat} (s : Shp t a b) (h : i < a) (hj : j < b) : ∃ r, t[i]? = some r ∧ r[j]? = some (at2 t i j) := by
  obtain ⟨r, h1, h2⟩ := s.row h
  refine ⟨r, h1, ?_⟩
  have hj' : j < r.length := by omega
  unfold at2
  rw [getD_of h1, List.getElem?_eq_getElem hj', List.getD_eq_getElem?_getD, List.getElem?_eq_getElem hj']; rfl
theorem e_at2 {call : Nat → List D → M D} {env : Env} {st : Store} {a b c : E} {t : List (List Int)} {n m i j : Nat} (s : Shp t n m) (hi : i < n) (hj : j < m) (ha : ev call a env st = .ok (tabD t) st) (hb : ev call b env st = .ok (.int (i : Int)) st) (hc : ev call c env st = .ok (.int (j : Int)) st) : ev call (.ix (.ix a b) c) env st = .ok (.int (at2 t i j)) st := by
  obtain ⟨r, h1, h2⟩ := s.at hi hj
  exact e_ixR (e_ixT ha hb h1) hc h2
def mat (a b : Nat) (F : Nat → Nat → Int) : List (List Int) := (List.range a).map fun i => (List.range b).map fun j => F i j
theorem shp_mat (a b : Nat) (F : Nat → Nat → Int) : Shp (mat a b F) a b := ⟨by unfold mat; rw [List.length_map, List.length_range], fun r m => by
  obtain ⟨i, _, rfl⟩ := List.mem_map.mp m
  rw [List.length_map, List.length_range]⟩
theorem mat_of {t : List (List Int)} {a b : Nat} (s : Shp t a b) : t = mat a b (at2 t) := by
  apply List.ext_getElem?
  intro i
  unfold mat
  rw [List.getElem?_map]
  by_cases h : i < a
  · obtain ⟨r, h1, h2⟩ := s.row h
    rw [h1, List.getElem?_range h]
    show some r = some _
    congr 1
    apply List.ext_getElem?
    intro j
    rw [List.getElem?_map]
    by_cases hj : j < b
    · obtain ⟨r', q1, q2⟩ := s.at h hj
      rw [h1] at q1; cases q1
      rw [q2, List.getElem?_range hj]; rfl
    · rw [List.getElem?_eq_none (by omega), List.getElem?_eq_none (by rw [List.length_range]; omega)]; rfl
  · rw [List.getElem?_eq_none (by rw [s.1]; omega), List.getElem?_eq_none (by rw [List.length_range]; omega)]; rfl
theorem mat_congr {a b : Nat} {F G : Nat → Nat → Int} (h : ∀ i, i < a → ∀ j, j < b → F i j = G i j) : mat a b F = mat a b G := by
  unfold mat
  refine List.map_congr_left fun i hi => List.map_congr_left fun j hj => ?_
  exact h i (List.mem_range.mp hi) j (List.mem_range.mp hj)
/-- tuple([tuple([.. for j in range(b)]) for i in range(a)]) -/
theorem t_mat {call : Nat → List D → M D} {env : Env} {st : Store} {A B body : E} {iv jv a b : Nat} {vs us : List Nat} {F : Nat → Nat → Int} (hA : ev call A env st = .ok (.int (a : Int)) st) (ha : a ≤ 1000000) (hb : b ≤ 1000000)
    (hB : ∀ i, i < a → ev call B ((unset env vs).set iv (some (rgE i))) st = .ok (.int (b : Int)) st)
    (h : ∀ i, i < a → ∀ j, j < b → ev call body ((unset ((unset env vs).set iv (some (rgE i))) us).set jv (some (rgE j))) st = .ok (.int (F i j)) st) :
    ev call (.bi .tuple (.cons (.comp (.bi .tuple (.cons (.comp body [jv] false (.r1 B) .nil us) .nil)) [iv] false (.r1 A) .nil vs) .nil)) env st = .ok (tabD (mat a b F)) st := by
  unfold mat
  refine t_rows (i_rn hA ha) (by rw [List.length_range]; exact ha) fun i hi => t_row (i_rn (hB i (List.mem_range.mp hi)) hb) (by rw [List.length_range]; exact hb) fun j hj => ?_
  exact h i (List.mem_range.mp hi) j (List.mem_range.mp hj)
end PL
namespace PL
open PySem
open L2 (atI ixN)
/-! ### == -/
theorem eq_same {d e : D} (h : d.py = e.py) (hd : d.dat = true) (he : e.dat = true) (hz : d.py.depth ≤ 64) : eqD d e = some true := by
  unfold eqD
  rw [if_pos (by rw [hd, he, decide_eq_true hz, ← h, decide_eq_true hz]; rfl), h, PySem.SeqAt.eqv_refl e.py (dat_lay e he)]
theorem cmp_neS {d e : D} (h : d.py = e.py) (hd : d.dat = true) (he : e.dat = true) (hz : d.py.depth ≤ 64) : cmpD .ne d e = some false := by
  show (eqD d e).map (!·) = _
  rw [eq_same h hd he hz]; rfl
theorem cmp_eqS' {d e : D} (h : d.py = e.py) (hd : d.dat = true) (he : e.dat = true) (hz : d.py.depth ≤ 64) : cmpD .eq d e = some true := eq_same h hd he hz
theorem dat_ints : ∀ r : List Int, datL (r.map D.int) = true
  | [] => rfl
  | x :: r => by show (true && datL (r.map D.int)) = true; rw [dat_ints r]; rfl
theorem dat_row (r : List Int) : (rowD r).dat = true := dat_ints r
theorem dat_rows : ∀ t : List (List Int), datL (t.map rowD) = true
  | [] => rfl
  | x :: t => by show ((rowD x).dat && datL (t.map rowD)) = true; rw [dat_row, dat_rows t]; rfl
theorem dat_tab (t : List (List Int)) : (tabD t).dat = true := dat_rows t
theorem pz_ints : ∀ r : List Int, PyData.depthAll (pyL (r.map D.int)) = 0
  | [] => rfl
  | x :: r => by show max 0 (PyData.depthAll (pyL (r.map D.int))) = 0; rw [pz_ints r]; rfl
theorem pz_row (r : List Int) : (rowD r).py.depth = 1 := by show PyData.depthAll _ + 1 = 1; rw [pz_ints]
theorem pz_rows : ∀ t : List (List Int), PyData.depthAll (pyL (t.map rowD)) ≤ 1
  | [] => Nat.zero_le _
  | x :: t => by show max ((rowD x).py.depth) (PyData.depthAll (pyL (t.map rowD))) ≤ 1; rw [pz_row]; exact Nat.max_le.mpr ⟨Nat.le_refl _, pz_rows t⟩
theorem pz_tab (t : List (List Int)) : (tabD t).py.depth ≤ 64 := Nat.le_trans (Nat.succ_le_succ (pz_rows t)) (by decide)
theorem ne_row {r r' : List Int} (h : r = r') : cmpD .ne (rowD r) (rowD r') = some false := by
  subst h; exact cmp_neS rfl (dat_row r) (dat_row r) (by rw [pz_row]; decide)
theorem ne_tab {t t' : List (List Int)} (h : t = t') : cmpD .ne (tabD t) (tabD t') = some false := by
  subst h; exact cmp_neS rfl (dat_tab t) (dat_tab t) (pz_tab t)
/-! ### _law_same of ints, rows, tables, fractions -/
section
variable {fs : List Fn} {f k : Nat} {st : Store}
theorem same_int (hf : fs[f]? = some (sameFn f)) {a b : Int} (h : a = b) : callK fs (k + 1) f [.int a, .int b] st = .ok (.bl true) st := by
  subst h; exact same_ok hf (k + 1) _ _ st (Nat.succ_pos _) rfl rfl rfl rfl rfl
theorem same_bl (hf : fs[f]? = some (sameFn f)) {a b : Bool} (h : a = b) : callK fs (k + 1) f [.bl a, .bl b] st = .ok (.bl true) st := by
  subst h; exact same_ok hf (k + 1) _ _ st (Nat.succ_pos _) rfl rfl rfl rfl rfl
theorem same_fr (hf : fs[f]? = some (sameFn f)) {a b c d : Int} (h : a = c ∧ b = d) : callK fs (k + 2) f [frD a b, frD c d] st = .ok (.bl true) st := by
  obtain ⟨rfl, rfl⟩ := h
  exact same_ok hf (k + 2) _ _ st (Nat.succ_lt_succ (Nat.succ_pos _)) rfl rfl rfl rfl rfl
theorem same_row (hf : fs[f]? = some (sameFn f)) {r r' : List Int} (h : r = r') (hl : r.length ≤ 1000000) : callK fs (k + 2) f [rowD r, rowD r'] st = .ok (.bl true) st := by
  subst h
  exact same_ok hf (k + 2) _ _ st (by rw [dep_row]; omega) rfl (okS_row hl) (okS_row hl) (pl_row r).kp (pl_row r).kp
theorem same_tab (hf : fs[f]? = some (sameFn f)) {t t' : List (List Int)} (h : t = t') {a b : Nat} (s : Shp t a b) (ha : a ≤ 1000000) (hb : b ≤ 1000000) : callK fs (k + 3) f [tabD t, tabD t'] st = .ok (.bl true) st := by
  subst h
  have o : (tabD t).okS = true := okS_tab (by rw [s.1]; exact ha) fun r m => by rw [s.2 r m]; exact hb
  exact same_ok hf (k + 3) _ _ st (by have := dep_tab t; omega) rfl o o (pl_tab t).kp (pl_tab t).kp
end
/-! ### the package's tables -/
def unitFn : Fn := ⟨1, 3,
    (.cons (.ret (.bi .tuple (.cons (.comp (.bi .tuple (.cons (.comp (.bi .int (.cons (.cmp .eq (.var 1) (.var 2)) .nil)) [2] false (.r1 (.var 0)) .nil [2]) .nil)) [1] false (.r1 (.var 0)) .nil [1]) .nil)))
    .nil)⟩
def transFn : Fn := ⟨1, 3,
    (.cons (.ret (.bi .tuple (.cons (.comp (.bi .tuple (.cons (.comp (.ix (.var 2) (.var 1)) [2] false (.seq (.var 0)) .nil [2]) .nil)) [1] false (.r1 (.bi .len (.cons (.ix (.var 0) (.int 0)) .nil))) .nil [1]) .nil)))
    .nil)⟩
def prodFn (t : Nat) : Fn := ⟨2, 6,
    (.cons (.set 2 (.call t (.cons (.var 1) .nil)))
    (.cons (.ret (.bi .tuple (.cons (.comp (.bi .tuple (.cons (.comp (.bi .sum (.cons (.comp (.bin .mul (.ix (.var 3) (.var 5)) (.ix (.var 4) (.var 5))) [5] false (.r1 (.bi .len (.cons (.var 3) .nil))) .nil [5]) .nil)) [4] false (.seq (.var 2)) .nil [4]) .nil)) [3] false (.seq (.var 0)) .nil [3]) .nil)))
    .nil))⟩
def timesTFn : Fn := ⟨2, 5,
    (.cons (.ret (.bi .tuple (.cons (.comp (.bi .tuple (.cons (.comp (.bi .sum (.cons (.comp (.bin .mul (.ix (.var 2) (.var 4)) (.ix (.ix (.var 1) (.var 4)) (.var 3))) [4] false (.r1 (.bi .len (.cons (.var 1) .nil))) .nil [4]) .nil)) [3] false (.r1 (.bi .len (.cons (.ix (.var 1) (.int 0)) .nil))) .nil [3]) .nil)) [2] false (.seq (.var 0)) .nil [2]) .nil)))
    .nil)⟩
def sumN (n : Nat) (F : Nat → Int) : Int := ((List.range n).map F).sum
def mulT (t u : List (List Int)) (a b c : Nat) : List (List Int) := mat a c fun i j => sumN b fun k => at2 t i k * at2 u k j
theorem int_bool {b : Bool} : biD .int [.bl b] = some (.int (if b then 1 else 0)) := rfl
/-- rows by their places -/
theorem rows_mat {β : Type} {t : List (List Int)} {a b : Nat} (s : Shp t a b) (g : List Int → β) : t.map g = (List.range a).map fun i => g (t.getD i []) := by
  apply List.ext_getElem?
  intro i
  rw [List.getElem?_map, List.getElem?_map]
  by_cases h : i < a
  · obtain ⟨r, h1, h2⟩ := s.row h
    rw [h1, List.getElem?_range h]
    show some (g r) = some (g (t.getD i []))
    rw [getD_of h1]
  · rw [List.getElem?_eq_none (by rw [s.1]; omega), List.getElem?_eq_none (by rw [List.length_range]; omega)]; rfl
section
variable {fs : List Fn} {f k : Nat} {st : Store} {t u : List (List Int)} {a b c : Nat}
theorem unit_ok (hf : fs[f]? = some unitFn) (ha : a ≤ 1000000) : callK fs (k + 1) f [.int a] st = .ok (tabD (mat a a fun i j => if i = j then 1 else 0)) st := by
  refine c_run hf (run_rt rfl rfl (s_rt (x_ret (t_mat (e_vI rfl) ha ha (fun i _ => e_vI rfl) fun i _ j _ => ?_) (pl_tab _).kp)) rfl)
  refine e_bi (es_cons (e_cmp (e_vJ rfl) (e_vJ rfl) cmp_eqI) es_nil) ?_
  rw [int_bool]
  by_cases h : i = j
  · rw [if_pos h, decide_eq_true (by omega)]; rfl
  · rw [if_neg h, decide_eq_false (by omega)]; rfl
theorem trans_ok (hf : fs[f]? = some transFn) (s : Shp t a b) (ha0 : 0 < a) (ha : a ≤ 1000000) (hb : b ≤ 1000000) : callK fs (k + 1) f [tabD t] st = .ok (tabD (mat b a fun i j => at2 t j i)) st := by
  obtain ⟨r0, h0, hl0⟩ := s.row ha0
  have hfz : frzL [tabD t] = [tabD t] := frzL_id (by show ((tabD t).noOwn && true) = true; rw [(pl_tab t).no]; rfl) (by show ((tabD t).keep && true) = true; rw [(pl_tab t).kp]; rfl)
  refine c_run hf (run_rt (by show ((tabD t).keep && true) = true; rw [(pl_tab t).kp]; rfl) rfl ?_ rfl)
  show execs (callK fs k) transFn.body ((frzL [tabD t]).map some ++ _) st = _
  rw [hfz]
  refine s_rt (x_ret (x := tabD (mat b a fun i j => at2 t j i)) ?_ (pl_tab _).kp)
  have hlen : ∀ z w, ev (callK fs k) (.bi .len (.cons (.ix (.var 0) (.int 0)) .nil)) [some (tabD t), z, w] st = .ok (.int (b : Int)) st := fun z w => by
    have := len_row r0
    rw [hl0] at this
    exact e_bi (es_cons (e_ixT (i := 0) (e_vTab rfl) e_int h0) es_nil) this
  unfold mat
  refine t_rows (i_rn (hlen _ _) hb) (by rw [List.length_range]; exact hb) fun i hi => ?_
  have hi' := List.mem_range.mp hi
  have q := t_row (call := callK fs k) (env := [some (tabD t), some (rgE i), none]) (st := st) (xs := t) (enc := rowD) (it := .seq (.var 0)) (body := .ix (.var 2) (.var 1)) (v := 2) (vs := [2]) (g := fun r => r.getD i 0) (i_tab (e_vTab rfl)) (by rw [s.1]; exact ha) fun r m => by
    have hl := s.2 r m
    have hj : i < r.length := by omega
    exact e_ixR (e_vRow rfl) (e_vJ rfl) (by rw [List.getElem?_eq_getElem hj, List.getD_eq_getElem?_getD, List.getElem?_eq_getElem hj]; rfl)
  rw [rows_mat s] at q
  exact q
end
end PL
namespace PL
open PySem
open L2 (atI ixN)
theorem frz_args : ∀ {ds : List D}, (∀ d ∈ ds, Pl d) → frzL ds = ds := fun h => frzL_id (noOwnL_of h) (keepL_of h)
theorem run_pl {call : Nat → List D → M D} {F : Fn} {ds : List D} {d : D} {st st1 : Store} (hp : ∀ d ∈ ds, Pl d) (hl : ds.length = F.n) (h : execs call F.body (ds.map some ++ List.replicate (F.m - F.n) none) st = .ok (.rt d) st1) (hs : st1.length = st.length) : runF call F ds st = .ok d st1 := by
  refine run_rt (keepL_of hp) hl ?_ hs
  unfold startE
  rw [frz_args hp]; exact h
theorem pl2 {x y : D} (a : Pl x) (b : Pl y) : ∀ d ∈ [x, y], Pl d := fun d m => by
  rcases List.mem_cons.mp m with e | m
  · rw [e]; exact a
  · rw [List.mem_singleton.mp m]; exact b
theorem pl1 {x : D} (a : Pl x) : ∀ d ∈ [x], Pl d := fun d m => by rw [List.mem_singleton.mp m]; exact a
theorem pl3 {x y z : D} (a : Pl x) (b : Pl y) (c : Pl z) : ∀ d ∈ [x, y, z], Pl d := fun d m => by
  rcases List.mem_cons.mp m with e | m
  · rw [e]; exact a
  · exact pl2 b c d m
/-- entries that may be multiplied -/
def Sml (t : List (List Int)) : Prop := ∀ r ∈ t, ∀ x ∈ r, x.natAbs < 2 ^ 64
theorem getD_mem {r : List Int} {i : Nat} (h : i < r.length) : r[i]? = some (r.getD i 0) ∧ r.getD i 0 ∈ r := by
  rw [List.getD_eq_getElem?_getD, List.getElem?_eq_getElem h]
  exact ⟨rfl, List.getElem_mem h⟩
theorem sumN_congr {n : Nat} {F G : Nat → Int} (h : ∀ i, i < n → F i = G i) : sumN n F = sumN n G := by
  unfold sumN
  rw [List.map_congr_left fun i hi => h i (List.mem_range.mp hi)]
theorem getD_map_range {n i : Nat} {F : Nat → Int} (h : i < n) : ((List.range n).map F).getD i 0 = F i := by
  rw [List.getD_eq_getElem?_getD, List.getElem?_map, List.getElem?_range h]; rfl
section
variable {fs : List Fn} {f k : Nat} {st : Store} {t u : List (List Int)} {a b c : Nat}
theorem prod_ok {tf : Nat} (hf : fs[f]? = some (prodFn tf)) (ht : fs[tf]? = some transFn) (s : Shp t a b) (s2 : Shp u b c) (hb0 : 0 < b) (ha : a ≤ 1000000) (hb : b ≤ 1000000) (hc : c ≤ 1000000) (sm : Sml t) : callK fs (k + 2) f [tabD t, tabD u] st = .ok (tabD (mulT t u a b c)) st := by
  refine c_run hf (run_pl (pl2 (pl_tab t) (pl_tab u)) rfl ?_ rfl)
  have ht' := trans_ok (k := k) (st := st) ht s2 hb0 hb hc
  have sc : Shp (mat c b fun i j => at2 u j i) c b := shp_mat _ _ _
  refine s_cons (env' := [some (tabD t), some (tabD u), some (tabD (mat c b fun i j => at2 u j i)), none, none, none]) (x_setP (e_call (es_cons (e_vTab rfl) es_nil) ht') (pl_tab _).kp) (s_rt (x_ret (x := tabD (mulT t u a b c)) ?_ (pl_tab _).kp))
  have q := t_rows (call := callK fs (k + 1)) (env := [some (tabD t), some (tabD u), some (tabD (mat c b fun i j => at2 u j i)), none, none, none]) (st := st) (xs := t) (enc := rowD) (it := .seq (.var 0))
    (body := .bi .tuple (.cons (.comp (.bi .sum (.cons (.comp (.bin .mul (.ix (.var 3) (.var 5)) (.ix (.var 4) (.var 5))) [5] false (.r1 (.bi .len (.cons (.var 3) .nil))) .nil [5]) .nil)) [4] false (.seq (.var 2)) .nil [4]) .nil)) (v := 3) (vs := [3])
    (g := fun r => (mat c b fun i j => at2 u j i).map fun col => sumN b fun k => r.getD k 0 * col.getD k 0) (i_tab (e_vTab rfl)) (by rw [s.1]; exact ha) fun r m => by
      have hl := s.2 r m
      refine t_row (i_tab (e_vTab rfl)) (by rw [sc.1]; exact hc) fun col mc => ?_
      have hl2 := sc.2 col mc
      have hlen : biD .len [rowD r] = some (.int (b : Int)) := by rw [len_row, hl]
      refine t_sum (i_rn (e_bi (es_cons (e_vRow rfl) es_nil) hlen) hb) (by rw [List.length_range]; exact hb) fun i hi => ?_
      have hi' := List.mem_range.mp hi
      have g1 := getD_mem (r := r) (i := i) (by omega)
      have g2 := getD_mem (r := col) (i := i) (by omega)
      exact e_bin (e_ixR (e_vRow rfl) (e_vJ rfl) g1.1) (e_ixR (e_vRow rfl) (e_vJ rfl) g2.1) (bin_mul (mulOk_l (sm r m _ g1.2)))
  rw [rows_mat s] at q
  have e : (List.range a).map (fun i => (mat c b fun i j => at2 u j i).map fun col => sumN b fun k => (t.getD i []).getD k 0 * col.getD k 0) = mulT t u a b c := by
    unfold mulT mat
    refine List.map_congr_left fun i hi => ?_
    rw [List.map_map]
    refine List.map_congr_left fun j hj => ?_
    show sumN b _ = sumN b _
    refine sumN_congr fun k hk => ?_
    rw [getD_map_range hk]; rfl
  rw [e] at q
  exact q
theorem timesT_ok (hf : fs[f]? = some timesTFn) (s : Shp t a b) (s2 : Shp u b c) (hb0 : 0 < b) (ha : a ≤ 1000000) (hb : b ≤ 1000000) (hc : c ≤ 1000000) (sm : Sml t) : callK fs (k + 1) f [tabD t, tabD u] st = .ok (tabD (mulT t u a b c)) st := by
  refine c_run hf (run_pl (pl2 (pl_tab t) (pl_tab u)) rfl ?_ rfl)
  obtain ⟨r0, h0, hl0⟩ := s2.row hb0
  refine s_rt (x_ret (x := tabD (mulT t u a b c)) ?_ (pl_tab _).kp)
  have q := t_rows (call := callK fs k) (env := [some (tabD t), some (tabD u), none, none, none]) (st := st) (xs := t) (enc := rowD) (it := .seq (.var 0))
    (body := .bi .tuple (.cons (.comp (.bi .sum (.cons (.comp (.bin .mul (.ix (.var 2) (.var 4)) (.ix (.ix (.var 1) (.var 4)) (.var 3))) [4] false (.r1 (.bi .len (.cons (.var 1) .nil))) .nil [4]) .nil)) [3] false (.r1 (.bi .len (.cons (.ix (.var 1) (.int 0)) .nil))) .nil [3]) .nil)) (v := 2) (vs := [2])
    (g := fun r => (List.range c).map fun j => sumN b fun k => r.getD k 0 * at2 u k j) (i_tab (e_vTab rfl)) (by rw [s.1]; exact ha) fun r m => by
      have hl := s.2 r m
      have hlen0 : biD .len [rowD r0] = some (.int (c : Int)) := by rw [len_row, hl0]
      have hlenu : biD .len [tabD u] = some (.int (b : Int)) := by rw [len_tab, s2.1]
      refine t_row (i_rn (e_bi (es_cons (e_ixT (i := 0) (e_vTab rfl) e_int h0) es_nil) hlen0) hc) (by rw [List.length_range]; exact hc) fun j hj => ?_
      refine t_sum (i_rn (e_bi (es_cons (e_vTab rfl) es_nil) hlenu) hb) (by rw [List.length_range]; exact hb) fun i hi => ?_
      have hi' := List.mem_range.mp hi
      have g1 := getD_mem (r := r) (i := i) (by omega)
      exact e_bin (e_ixR (e_vRow rfl) (e_vJ rfl) g1.1) (e_at2 s2 hi' (List.mem_range.mp hj) (e_vTab rfl) (e_vJ rfl) (e_vJ rfl)) (bin_mul (mulOk_l (sm r m _ g1.2)))
  rw [rows_mat s] at q
  exact q
def traceFn : Fn := ⟨1, 2,
    (.cons (.ret (.bi .sum (.cons (.comp (.ix (.ix (.var 0) (.var 1)) (.var 1)) [1] false (.r1 (.bi .len (.cons (.var 0) .nil))) .nil [1]) .nil)))
    .nil)⟩
theorem trace_ok (hf : fs[f]? = some traceFn) (s : Shp t a a) (ha : a ≤ 1000000) : callK fs (k + 1) f [tabD t] st = .ok (.int (sumN a fun i => at2 t i i)) st := by
  refine c_run hf (run_pl (pl1 (pl_tab t)) rfl (s_rt (x_ret (x := .int (sumN a fun i => at2 t i i)) ?_ rfl)) rfl)
  have hlen : biD .len [tabD t] = some (.int (a : Int)) := by rw [len_tab, s.1]
  exact t_sum (i_rn (e_bi (es_cons (e_vTab rfl) es_nil) hlen) ha) (by rw [List.length_range]; exact ha) fun i hi => e_at2 s (List.mem_range.mp hi) (List.mem_range.mp hi) (e_vTab rfl) (e_vJ rfl) (e_vJ rfl)
def scaledFn : Fn := ⟨2, 4,
    (.cons (.ret (.bi .tuple (.cons (.comp (.bi .tuple (.cons (.comp (.bin .mul (.var 1) (.var 3)) [3] false (.seq (.var 2)) .nil [3]) .nil)) [2] false (.seq (.var 0)) .nil [2]) .nil)))
    .nil)⟩
theorem scaled_ok (hf : fs[f]? = some scaledFn) (s : Shp t a b) (ha : a ≤ 1000000) (hb : b ≤ 1000000) {m : Int} (hm : m.natAbs < 2 ^ 64) : callK fs (k + 1) f [tabD t, .int m] st = .ok (tabD (t.map fun r => r.map fun x => m * x)) st := by
  refine c_run hf (run_pl (pl2 (pl_tab t) (pl_int m)) rfl (s_rt (x_ret (x := tabD (t.map fun r => r.map fun x => m * x)) ?_ (pl_tab _).kp)) rfl)
  exact t_rows (i_tab (e_vTab rfl)) (by rw [s.1]; exact ha) fun r hr => t_row (i_row (e_vRow rfl)) (by rw [s.2 r hr]; exact hb) fun x _ => e_bin (e_vI rfl) (e_vI rfl) (bin_mul (mulOk_l hm))
def plusTFn : Fn := ⟨2, 4,
    (.cons (.ret (.bi .tuple (.cons (.comp (.bi .tuple (.cons (.comp (.bin .add (.ix (.ix (.var 0) (.var 2)) (.var 3)) (.ix (.ix (.var 1) (.var 2)) (.var 3))) [3] false (.r1 (.bi .len (.cons (.ix (.var 0) (.var 2)) .nil))) .nil [3]) .nil)) [2] false (.r1 (.bi .len (.cons (.var 0) .nil))) .nil [2]) .nil)))
    .nil)⟩
theorem plusT_ok (hf : fs[f]? = some plusTFn) (s : Shp t a b) (s2 : Shp u a b) (ha : a ≤ 1000000) (hb : b ≤ 1000000) : callK fs (k + 1) f [tabD t, tabD u] st = .ok (tabD (mat a b fun i j => at2 t i j + at2 u i j)) st := by
  refine c_run hf (run_pl (pl2 (pl_tab t) (pl_tab u)) rfl (s_rt (x_ret (x := tabD (mat a b fun i j => at2 t i j + at2 u i j)) ?_ (pl_tab _).kp)) rfl)
  have hlen : biD .len [tabD t] = some (.int (a : Int)) := by rw [len_tab, s.1]
  refine t_mat (e_bi (es_cons (e_vTab rfl) es_nil) hlen) ha hb (fun i hi => ?_) fun i hi j hj => e_bin (e_at2 s hi hj (e_vTab rfl) (e_vJ rfl) (e_vJ rfl)) (e_at2 s2 hi hj (e_vTab rfl) (e_vJ rfl) (e_vJ rfl)) rfl
  obtain ⟨r, h1, h2⟩ := s.row hi
  exact e_bi (es_cons (e_ixT (e_vTab rfl) (e_vJ rfl) h1) es_nil) (by rw [len_row, h2])
def timesRFn : Fn := ⟨2, 4,
    (.cons (.ret (.bi .tuple (.cons (.comp (.bi .sum (.cons (.comp (.bin .mul (.ix (.var 2) (.var 3)) (.ix (.var 1) (.var 3))) [3] false (.r1 (.bi .len (.cons (.var 1) .nil))) .nil [3]) .nil)) [2] false (.seq (.var 0)) .nil [2]) .nil)))
    .nil)⟩
theorem timesR_ok (hf : fs[f]? = some timesRFn) (s : Shp t a b) (ha : a ≤ 1000000) (hb : b ≤ 1000000) (sm : Sml t) {r : List Int} (hr : r.length = b) : callK fs (k + 1) f [tabD t, rowD r] st = .ok (rowD (t.map fun l => sumN b fun i => l.getD i 0 * r.getD i 0)) st := by
  refine c_run hf (run_pl (pl2 (pl_tab t) (pl_row r)) rfl (s_rt (x_ret (x := rowD (t.map fun l => sumN b fun i => l.getD i 0 * r.getD i 0)) ?_ (pl_row _).kp)) rfl)
  have hlen : biD .len [rowD r] = some (.int (b : Int)) := by rw [len_row, hr]
  refine t_row (i_tab (e_vTab rfl)) (by rw [s.1]; exact ha) fun l hl => t_sum (i_rn (e_bi (es_cons (e_vRow rfl) es_nil) hlen) hb) (by rw [List.length_range]; exact hb) fun i hi => ?_
  have hi' := List.mem_range.mp hi
  have ll := s.2 l hl
  have g1 := getD_mem (r := l) (i := i) (by omega)
  have g2 := getD_mem (r := r) (i := i) (by omega)
  exact e_bin (e_ixR (e_vRow rfl) (e_vJ rfl) g1.1) (e_ixR (e_vRow rfl) (e_vJ rfl) g2.1) (bin_mul (mulOk_l (sm l hl _ g1.2)))
end
end PL
namespace PL
open PySem
open L2 (atI ixN)
/-! ### max of a list -/
theorem maxI_spec : ∀ (l : List Int) (x : Int), maxI (x :: l) ∈ x :: l ∧ ∀ y ∈ x :: l, y ≤ maxI (x :: l)
  | [], x => ⟨List.mem_cons_self, fun y m => by rw [List.mem_singleton.mp m]; exact Int.le_refl _⟩
  | z :: l, x => by
    obtain ⟨h1, h2⟩ := maxI_spec l z
    show (let m := maxI (z :: l); if x < m then m else x) ∈ x :: z :: l ∧ ∀ y ∈ x :: z :: l, y ≤ (let m := maxI (z :: l); if x < m then m else x)
    dsimp only
    by_cases hx : x < maxI (z :: l)
    · rw [if_pos hx]
      refine ⟨List.mem_cons_of_mem _ h1, fun y m => ?_⟩
      rcases List.mem_cons.mp m with e | m
      · rw [e]; exact Int.le_of_lt hx
      · exact h2 y m
    · rw [if_neg hx]
      refine ⟨List.mem_cons_self, fun y m => ?_⟩
      rcases List.mem_cons.mp m with e | m
      · rw [e]; exact Int.le_refl _
      · have := h2 y m; omega
theorem max_ints {m : Md} {l : List Int} {g : Int} (hg : g ∈ l) (h : ∀ y ∈ l, y ≤ g) : biD .max [.lst m (l.map D.int)] = some (.int g) := by
  cases l with
  | nil => cases hg
  | cons x l =>
    show (match intsOf ((x :: l).map D.int) with | some (n :: ns) => some (D.int (maxI (n :: ns))) | _ => none) = _
    rw [intsOf_ints]
    obtain ⟨q1, q2⟩ := maxI_spec l x
    have : maxI (x :: l) = g := Int.le_antisymm (h _ q1) (q2 g hg)
    show some (D.int (maxI (x :: l))) = _
    rw [this]
/-! ### part, others -/
def lstD (r : List Int) : D := .lst .fro (r.map D.int)
theorem e_vL {call : Nat → List D → M D} {env : Env} {st : Store} {i : Nat} {r : List Int} (h : env[i]? = some (some (lstD r))) : ev call (.var i) env st = .ok (lstD r) st := e_var h rfl
theorem i_lst {call : Nat → List D → M D} {env : Env} {st : Store} {a : E} {r : List Int} (h : ev call a env st = .ok (lstD r) st) : evI call (.seq a) env st = .ok (r.map D.int) st := i_seq h (by show some (bwL _) = _; rw [bwL_ints])
def partFn : Fn := ⟨3, 5,
    (.cons (.ret (.bi .tuple (.cons (.comp (.bi .tuple (.cons (.comp (.ix (.ix (.var 0) (.var 3)) (.var 4)) [4] false (.seq (.var 2)) .nil [4]) .nil)) [3] false (.seq (.var 1)) .nil [3]) .nil)))
    .nil)⟩
def partT (t : List (List Int)) (rs cs : List Int) : List (List Int) := rs.map fun i => cs.map fun j => at2 t i.toNat j.toNat
theorem e_at2I {call : Nat → List D → M D} {env : Env} {st : Store} {a b c : E} {t : List (List Int)} {n m : Nat} {i j : Int} (s : Shp t n m) (hi : 0 ≤ i ∧ i < n) (hj : 0 ≤ j ∧ j < m) (ha : ev call a env st = .ok (tabD t) st) (hb : ev call b env st = .ok (.int i) st) (hc : ev call c env st = .ok (.int j) st) : ev call (.ix (.ix a b) c) env st = .ok (.int (at2 t i.toNat j.toNat)) st := by
  have ei : ((i.toNat : Nat) : Int) = i := Int.toNat_of_nonneg hi.1
  have ej : ((j.toNat : Nat) : Int) = j := Int.toNat_of_nonneg hj.1
  exact e_at2 s (by omega) (by omega) ha (by rw [ei]; exact hb) (by rw [ej]; exact hc)
/-- the same row in any place: rows, columns, the table by their places -/
theorem e_part {call : Nat → List D → M D} {env : Env} {st : Store} {R C : E} {iv jv : Nat} {vs us : List Nat} {t : List (List Int)} {a b : Nat} {rs cs : List Int} {body : E} (s : Shp t a b) (hr : ∀ i ∈ rs, 0 ≤ i ∧ i < (a : Int)) (hc : ∀ j ∈ cs, 0 ≤ j ∧ j < (b : Int)) (l1 : rs.length ≤ LIM) (l2 : cs.length ≤ LIM)
    (hR : ev call R env st = .ok (lstD rs) st) (hC : ∀ i ∈ rs, ev call C ((unset env vs).set iv (some (.int i))) st = .ok (lstD cs) st)
    (hb : ∀ i ∈ rs, ∀ j ∈ cs, ev call body ((unset ((unset env vs).set iv (some (.int i))) us).set jv (some (.int j))) st = .ok (.int (at2 t i.toNat j.toNat)) st) :
    ev call (.bi .tuple (.cons (.comp (.bi .tuple (.cons (.comp body [jv] false (.seq C) .nil us) .nil)) [iv] false (.seq R) .nil vs) .nil)) env st = .ok (tabD (partT t rs cs)) st :=
  t_rows (i_lst hR) l1 fun i hi => t_row (i_lst (hC i hi)) l2 fun j hj => hb i hi j hj
section
variable {fs : List Fn} {f k : Nat} {st : Store} {t u : List (List Int)} {a b c : Nat}
theorem part_ok (hf : fs[f]? = some partFn) (s : Shp t a b) {rs cs : List Int} (hr : ∀ i ∈ rs, 0 ≤ i ∧ i < (a : Int)) (hc : ∀ j ∈ cs, 0 ≤ j ∧ j < (b : Int)) (l1 : rs.length ≤ LIM) (l2 : cs.length ≤ LIM) : callK fs (k + 1) f [tabD t, lstD rs, lstD cs] st = .ok (tabD (partT t rs cs)) st := by
  refine c_run hf (run_pl (pl3 (pl_tab t) (pl_fro _) (pl_fro _)) rfl (s_rt (x_ret (x := tabD (partT t rs cs)) ?_ (pl_tab _).kp)) rfl)
  exact e_part s hr hc l1 l2 (e_vL rfl) (fun i _ => e_vL rfl) fun i hi j hj => e_at2I s (hr i hi) (hc j hj) (e_vTab rfl) (e_vI rfl) (e_vI rfl)
/-! ### sign_f, below_f, sum_f -/
def signFn : Fn := ⟨1, 1,
    (.cons (.ret (.bin .sub (.bi .int (.cons (.cmp .gt (.ix (.var 0) (.int 0)) (.int 0)) .nil)) (.bi .int (.cons (.cmp .lt (.ix (.var 0) (.int 0)) (.int 0)) .nil))))
    .nil)⟩
def sgnI (m : Int) : Int := (if decide (0 < m) then 1 else 0) - (if decide (m < 0) then 1 else 0)
theorem sign_ok (hf : fs[f]? = some signFn) (m n : Int) : callK fs (k + 1) f [frD m n] st = .ok (.int (sgnI m)) st := by
  refine c_run hf (run_pl (pl1 (pl_fr m n)) rfl (s_rt (x_ret (x := .int (sgnI m)) ?_ rfl)) rfl)
  exact e_bin (e_bi (es_cons (e_cmp (e_ix (e_vFr rfl) e_int ix_fr0) e_int cmp_gtI) es_nil) int_bool) (e_bi (es_cons (e_cmp (e_ix (e_vFr rfl) e_int ix_fr0) e_int cmp_ltI) es_nil) int_bool) rfl
theorem Red.sgn {x y m n : Int} (r : Red x y m n) (hy : 0 < y) : sgnI m = sgnI x := by
  have h1 := r.eq
  have h2 := r.pos
  have p : 0 < m ↔ 0 < x := by
    constructor
    · intro h
      have := Int.mul_pos h hy
      rcases Int.lt_or_le 0 x with q | q
      · exact q
      · have := Int.mul_nonpos_of_nonpos_of_nonneg q (Int.le_of_lt h2); omega
    · intro h
      have := Int.mul_pos h h2
      rcases Int.lt_or_le 0 m with q | q
      · exact q
      · have := Int.mul_nonpos_of_nonpos_of_nonneg q (Int.le_of_lt hy); omega
  have z : m < 0 ↔ x < 0 := by
    constructor
    · intro h
      have := Int.mul_neg_of_neg_of_pos h hy
      rcases Int.lt_or_le x 0 with q | q
      · exact q
      · have := Int.mul_nonneg q (Int.le_of_lt h2); omega
    · intro h
      have := Int.mul_neg_of_neg_of_pos h h2
      rcases Int.lt_or_le m 0 with q | q
      · exact q
      · have := Int.mul_nonneg q (Int.le_of_lt hy); omega
  unfold sgnI
  simp only [p, z]
def belowFn : Fn := ⟨2, 2,
    (.cons (.ret (.cmp .lt (.bin .mul (.ix (.var 0) (.int 0)) (.ix (.var 1) (.int 1))) (.bin .mul (.ix (.var 1) (.int 0)) (.ix (.var 0) (.int 1)))))
    .nil)⟩
theorem below_ok (hf : fs[f]? = some belowFn) {m n p q : Int} (hm : m.natAbs < 2 ^ 64) (hp : p.natAbs < 2 ^ 64) : callK fs (k + 1) f [frD m n, frD p q] st = .ok (.bl (decide (m * q < p * n))) st := by
  refine c_run hf (run_pl (pl2 (pl_fr m n) (pl_fr p q)) rfl (s_rt (x_ret (x := .bl (decide (m * q < p * n))) ?_ rfl)) rfl)
  exact e_cmp (e_bin (e_ix (e_vFr rfl) e_int ix_fr0) (e_ix (e_vFr rfl) e_int ix_fr1) (bin_mul (mulOk_l hm))) (e_bin (e_ix (e_vFr rfl) e_int ix_fr0) (e_ix (e_vFr rfl) e_int ix_fr1) (bin_mul (mulOk_l hp))) cmp_ltI
theorem Red.below {a b c d m n p q : Int} (r : Red a b m n) (r' : Red c d p q) (hb : 0 < b) (hd : 0 < d) : (m * q < p * n) ↔ (a * d < c * b) := by
  have h1 := r.eq
  have h2 := r'.eq
  have nq : 0 < n * q := Int.mul_pos r.pos r'.pos
  have bd : 0 < b * d := Int.mul_pos hb hd
  have e1 : (m * q) * (b * d) = (a * d) * (n * q) := by grind
  have e2 : (p * n) * (b * d) = (c * b) * (n * q) := by grind
  constructor
  · intro h
    have h3 := Int.mul_lt_mul_of_pos_right h bd
    rw [e1, e2] at h3
    exact Int.lt_of_mul_lt_mul_right h3 (Int.le_of_lt nq)
  · intro h
    have h3 := Int.mul_lt_mul_of_pos_right h nq
    rw [← e1, ← e2] at h3
    exact Int.lt_of_mul_lt_mul_right h3 (Int.le_of_lt bd)
end
end PL
/-! the draws of the later laws: _law_next(tape, many) -/
namespace PL
open PySem PySem.Spec PyProof.Rows
open L2 (atI ixN)
def nxC : St := .ite (.cmp .lt (.ix (.var 0) (.int 1)) (.bi .len (.cons (.ix (.var 0) (.int 0)) .nil))) (.cons (.set 3 (.bi .abs (.cons (.bi .int (.cons (.ix (.ix (.var 0) (.int 0)) (.ix (.var 0) (.int 1))) .nil)) .nil)))
    (.cons (.setIx 0 (.int 1) (.bin .add (.ix (.var 0) (.int 1)) (.int 1)))
    .nil)) .nil
def nxS : Sts := .cons (.setIx 0 (.int 3) (.bin .mod (.bi .int (.cons (.bin .add (.bin .add (.bin .mul (.ix (.var 0) (.int 3)) (.int 69621)) (.bin .mul (.var 3) (.int 40692))) (.int 17)) .nil)) (.int 2147483647)))
    (.cons (.ret (.bin .mod (.bin .mod (.bi .int (.cons (.bin .mul (.bi .int (.cons (.bin .fdiv (.ix (.var 0) (.int 3)) (.int 5)) .nil)) (.int 48271)) .nil)) (.int 2147483647)) (.var 1)))
    .nil)
def nxA : Sts := .cons (.set 3 (.int 0)) (.cons nxC (.cons (.set 2 (.var 3)) (.cons (.ite (.cmp .lt (.var 3) (.bin .pow (.int 10) (.int 18))) nxS .nil) .nil)))
def nextFn : Fn := ⟨2, 4, .cons (.set 2 (.ix (.var 0) (.int 2))) (.cons (.ite (.cmp .eq (.var 2) (.int 0)) nxA .nil)
    (.cons (.setIx 0 (.int 2) (.bin .fdiv (.var 2) (.var 1)))
    (.cons (.ret (.bin .mod (.bi .int (.cons (.var 2) .nil)) (.var 1)))
    .nil)))⟩
def tdst (ns : List Int) (p r s : Int) : List D := [.lst .fro (ns.map D.int), .int p, .int r, .int s]
def TpS (ds : List D) : Prop := ∃ (ns : List Int) (p : Nat) (r s : Int), ds = tdst ns p r s ∧ p ≤ ns.length ∧ 0 ≤ r ∧ 0 ≤ s ∧ s < 2147483648
def Tp (st : Store) : Prop := ∃ ds, st = [ds] ∧ TpS ds
section
variable {call : Nat → List D → M D} {ns : List Int} {p : Nat} {r s L : Int} {x y : Option D} {v : Int}
theorem nx_c (hp : p ≤ ns.length) : ∃ (p' : Nat) (c : Int), p' ≤ ns.length ∧ 0 ≤ c ∧ exec call nxC (penv L (some (.int 0)) (some (.int 0))) [tdst ns p r s] = .ok (.nx (penv L (some (.int 0)) (some (.int c)))) [tdst ns p' r s] := by
  have h2 : ev call (.cmp .lt (.ix (.var 0) (.int 1)) (.bi .len (.cons (.ix (.var 0) (.int 0)) .nil))) (penv L (some (.int 0)) (some (.int 0))) [tdst ns p r s] = .ok (.bl (decide ((p : Int) < ((ns.map D.int).length : Nat)))) [tdst ns p r s] := by
    (repeat' (first | exact e_int | exact e_bl | exact e_non | exact e_str | exact es_nil | exact o_none | exact ifs_nil | exact and_nil | exact or_nil | exact e_vI (by rfl) | exact e_vF (by rfl) | exact e_vR (by rfl) | exact e_vS (by rfl) | exact e_vB (by rfl) | exact e_vN (by rfl) | apply es_cons | apply e_bin | apply e_neg | apply e_ix | apply e_sl | apply o_some | apply e_tup | apply e_lst | apply e_bi | apply e_isa | apply e_cmp | apply e_not | apply e_and | apply e_or | apply e_tst | apply i_r1 | apply i_r2 | apply i_seq | exact bin_add | exact bin_sub | exact bi_int | exact bi_abs | exact cmp_eqI | exact cmp_neI | exact cmp_ltI | exact cmp_leI | exact cmp_gtI | exact cmp_geI | exact bi_len | exact bi_lenT | exact ix_lst (by rfl) | exact ix_tup (by rfl) | exact ix_sref (by rfl) (by rfl) | apply bin_mod | apply bin_mul | apply bin_fdiv | apply bin_pow | exact mulOk_r (by decide) | exact mulOk_l (by decide) | exact divOk_of (by decide) (by decide) | decide))
  by_cases hpl : p < ns.length
  · rw [decide_eq_true (by rw [List.length_map]; omega)] at h2
    have hat : atI (ns.map D.int) (p : Int) = some (.int ns[p]) := at_nat (by rw [List.getElem?_map, List.getElem?_eq_getElem hpl]; rfl)
    refine ⟨p + 1, if ns[p] < 0 then -ns[p] else ns[p], hpl, by split <;> omega, x_iteT (e_tst h2 rfl) (s_cons (x_setP (x := .int (if ns[p] < 0 then -ns[p] else ns[p])) ?_ rfl) (s_cons (x_setShP 1 1 (.int ((p : Int) + 1)) (by rfl) ?_ ?_ rfl rfl rfl rfl) rfl))⟩
    · refine e_bi (es_cons (e_bi (es_cons (e_ix (x := .lst .fro (ns.map D.int)) (st1 := [tdst ns p r s]) ?_ ?_ (ix_lst hat)) es_nil) rfl) es_nil) rfl
      · (repeat' (first | exact e_int | exact e_bl | exact e_non | exact e_str | exact es_nil | exact o_none | exact ifs_nil | exact and_nil | exact or_nil | exact e_vI (by rfl) | exact e_vF (by rfl) | exact e_vR (by rfl) | exact e_vS (by rfl) | exact e_vB (by rfl) | exact e_vN (by rfl) | apply es_cons | apply e_bin | apply e_neg | apply e_ix | apply e_sl | apply o_some | apply e_tup | apply e_lst | apply e_bi | apply e_isa | apply e_cmp | apply e_not | apply e_and | apply e_or | apply e_tst | apply i_r1 | apply i_r2 | apply i_seq | exact bin_add | exact bin_sub | exact bi_int | exact bi_abs | exact cmp_eqI | exact cmp_neI | exact cmp_ltI | exact cmp_leI | exact cmp_gtI | exact cmp_geI | exact bi_len | exact bi_lenT | exact ix_lst (by rfl) | exact ix_tup (by rfl) | exact ix_sref (by rfl) (by rfl) | apply bin_mod | apply bin_mul | apply bin_fdiv | apply bin_pow | exact mulOk_r (by decide) | exact mulOk_l (by decide) | exact divOk_of (by decide) (by decide) | decide))
      · (repeat' (first | exact e_int | exact e_bl | exact e_non | exact e_str | exact es_nil | exact o_none | exact ifs_nil | exact and_nil | exact or_nil | exact e_vI (by rfl) | exact e_vF (by rfl) | exact e_vR (by rfl) | exact e_vS (by rfl) | exact e_vB (by rfl) | exact e_vN (by rfl) | apply es_cons | apply e_bin | apply e_neg | apply e_ix | apply e_sl | apply o_some | apply e_tup | apply e_lst | apply e_bi | apply e_isa | apply e_cmp | apply e_not | apply e_and | apply e_or | apply e_tst | apply i_r1 | apply i_r2 | apply i_seq | exact bin_add | exact bin_sub | exact bi_int | exact bi_abs | exact cmp_eqI | exact cmp_neI | exact cmp_ltI | exact cmp_leI | exact cmp_gtI | exact cmp_geI | exact bi_len | exact bi_lenT | exact ix_lst (by rfl) | exact ix_tup (by rfl) | exact ix_sref (by rfl) (by rfl) | apply bin_mod | apply bin_mul | apply bin_fdiv | apply bin_pow | exact mulOk_r (by decide) | exact mulOk_l (by decide) | exact divOk_of (by decide) (by decide) | decide))
    · (repeat' (first | exact e_int | exact e_bl | exact e_non | exact e_str | exact es_nil | exact o_none | exact ifs_nil | exact and_nil | exact or_nil | exact e_vI (by rfl) | exact e_vF (by rfl) | exact e_vR (by rfl) | exact e_vS (by rfl) | exact e_vB (by rfl) | exact e_vN (by rfl) | apply es_cons | apply e_bin | apply e_neg | apply e_ix | apply e_sl | apply o_some | apply e_tup | apply e_lst | apply e_bi | apply e_isa | apply e_cmp | apply e_not | apply e_and | apply e_or | apply e_tst | apply i_r1 | apply i_r2 | apply i_seq | exact bin_add | exact bin_sub | exact bi_int | exact bi_abs | exact cmp_eqI | exact cmp_neI | exact cmp_ltI | exact cmp_leI | exact cmp_gtI | exact cmp_geI | exact bi_len | exact bi_lenT | exact ix_lst (by rfl) | exact ix_tup (by rfl) | exact ix_sref (by rfl) (by rfl) | apply bin_mod | apply bin_mul | apply bin_fdiv | apply bin_pow | exact mulOk_r (by decide) | exact mulOk_l (by decide) | exact divOk_of (by decide) (by decide) | decide))
    · (repeat' (first | exact e_int | exact e_bl | exact e_non | exact e_str | exact es_nil | exact o_none | exact ifs_nil | exact and_nil | exact or_nil | exact e_vI (by rfl) | exact e_vF (by rfl) | exact e_vR (by rfl) | exact e_vS (by rfl) | exact e_vB (by rfl) | exact e_vN (by rfl) | apply es_cons | apply e_bin | apply e_neg | apply e_ix | apply e_sl | apply o_some | apply e_tup | apply e_lst | apply e_bi | apply e_isa | apply e_cmp | apply e_not | apply e_and | apply e_or | apply e_tst | apply i_r1 | apply i_r2 | apply i_seq | exact bin_add | exact bin_sub | exact bi_int | exact bi_abs | exact cmp_eqI | exact cmp_neI | exact cmp_ltI | exact cmp_leI | exact cmp_gtI | exact cmp_geI | exact bi_len | exact bi_lenT | exact ix_lst (by rfl) | exact ix_tup (by rfl) | exact ix_sref (by rfl) (by rfl) | apply bin_mod | apply bin_mul | apply bin_fdiv | apply bin_pow | exact mulOk_r (by decide) | exact mulOk_l (by decide) | exact divOk_of (by decide) (by decide) | decide))
  · rw [decide_eq_false (by rw [List.length_map]; omega)] at h2
    exact ⟨p, 0, hp, Int.le_refl _, x_iteF (e_tst h2 rfl) rfl⟩
end
/-- THE RULE of a draw -/
theorem next_ok {fs : List Fn} {k f : Nat} {L : Int} {st : Store} (hf : fs[f]? = some nextFn) (hL : 0 < L) (hL2 : L < 2 ^ 63) (h : Tp st) : ∃ r st', 0 ≤ r ∧ r < L ∧ Tp st' ∧ callK fs (k + 1) f [.sref 0, .int L] st = .ok (.int r) st' := by
  obtain ⟨ds, rfl, ns, p, r, s, rfl, hp, hr, hs, hs2⟩ := h
  have hd : divOk L = true := divOk_of (by omega) (by omega)
  have fin : ∀ (p : Nat) (r c : Int) (z : Option D), p ≤ ns.length → 0 ≤ c → ∃ q st', 0 ≤ q ∧ q < L ∧ Tp st' ∧
      execs (callK fs k) (.cons (.setIx 0 (.int 2) (.bin .fdiv (.var 2) (.var 1))) (.cons (.ret (.bin .mod (.bi .int (.cons (.var 2) .nil)) (.var 1))) .nil)) (penv L (some (.int c)) z) [tdst ns p r s] = .ok (.rt (.int q)) st' := fun p r c z hp hc => by
    refine ⟨c.fmod L, [tdst ns p (c.fdiv L) s], Int.fmod_nonneg_of_pos _ hL, Int.fmod_lt_of_pos _ hL, ⟨_, rfl, ns, p, _, s, rfl, hp, Int.fdiv_nonneg hc (by omega), hs, hs2⟩, ?_⟩
    refine s_cons (x_setShP 2 2 (.int (c.fdiv L)) (by rfl) ?_ ?_ rfl rfl rfl rfl) (s_rt (x_ret ?_ rfl))
    · (repeat' (first | exact e_int | exact e_bl | exact e_non | exact e_str | exact es_nil | exact o_none | exact ifs_nil | exact and_nil | exact or_nil | exact e_vI (by rfl) | exact e_vF (by rfl) | exact e_vR (by rfl) | exact e_vS (by rfl) | exact e_vB (by rfl) | exact e_vN (by rfl) | apply es_cons | apply e_bin | apply e_neg | apply e_ix | apply e_sl | apply o_some | apply e_tup | apply e_lst | apply e_bi | apply e_isa | apply e_cmp | apply e_not | apply e_and | apply e_or | apply e_tst | apply i_r1 | apply i_r2 | apply i_seq | exact bin_add | exact bin_sub | exact bi_int | exact bi_abs | exact cmp_eqI | exact cmp_neI | exact cmp_ltI | exact cmp_leI | exact cmp_gtI | exact cmp_geI | exact bi_len | exact bi_lenT | exact ix_lst (by rfl) | exact ix_tup (by rfl) | exact ix_sref (by rfl) (by rfl) | apply bin_mod | apply bin_mul | apply bin_fdiv | apply bin_pow | exact mulOk_r (by decide) | exact mulOk_l (by decide) | exact divOk_of (by decide) (by decide) | decide)); exact hd
    · (repeat' (first | exact e_int | exact e_bl | exact e_non | exact e_str | exact es_nil | exact o_none | exact ifs_nil | exact and_nil | exact or_nil | exact e_vI (by rfl) | exact e_vF (by rfl) | exact e_vR (by rfl) | exact e_vS (by rfl) | exact e_vB (by rfl) | exact e_vN (by rfl) | apply es_cons | apply e_bin | apply e_neg | apply e_ix | apply e_sl | apply o_some | apply e_tup | apply e_lst | apply e_bi | apply e_isa | apply e_cmp | apply e_not | apply e_and | apply e_or | apply e_tst | apply i_r1 | apply i_r2 | apply i_seq | exact bin_add | exact bin_sub | exact bi_int | exact bi_abs | exact cmp_eqI | exact cmp_neI | exact cmp_ltI | exact cmp_leI | exact cmp_gtI | exact cmp_geI | exact bi_len | exact bi_lenT | exact ix_lst (by rfl) | exact ix_tup (by rfl) | exact ix_sref (by rfl) (by rfl) | apply bin_mod | apply bin_mul | apply bin_fdiv | apply bin_pow | exact mulOk_r (by decide) | exact mulOk_l (by decide) | exact divOk_of (by decide) (by decide) | decide))
    · (repeat' (first | exact e_int | exact e_bl | exact e_non | exact e_str | exact es_nil | exact o_none | exact ifs_nil | exact and_nil | exact or_nil | exact e_vI (by rfl) | exact e_vF (by rfl) | exact e_vR (by rfl) | exact e_vS (by rfl) | exact e_vB (by rfl) | exact e_vN (by rfl) | apply es_cons | apply e_bin | apply e_neg | apply e_ix | apply e_sl | apply o_some | apply e_tup | apply e_lst | apply e_bi | apply e_isa | apply e_cmp | apply e_not | apply e_and | apply e_or | apply e_tst | apply i_r1 | apply i_r2 | apply i_seq | exact bin_add | exact bin_sub | exact bi_int | exact bi_abs | exact cmp_eqI | exact cmp_neI | exact cmp_ltI | exact cmp_leI | exact cmp_gtI | exact cmp_geI | exact bi_len | exact bi_lenT | exact ix_lst (by rfl) | exact ix_tup (by rfl) | exact ix_sref (by rfl) (by rfl) | apply bin_mod | apply bin_mul | apply bin_fdiv | apply bin_pow | exact mulOk_r (by decide) | exact mulOk_l (by decide) | exact divOk_of (by decide) (by decide) | decide)); omega
  have h0 : exec (callK fs k) (.set 2 (.ix (.var 0) (.int 2))) (penv L none none) [tdst ns p r s] = .ok (.nx (penv L (some (.int r)) none)) [tdst ns p r s] := by
    refine x_setP (x := .int r) ?_ rfl
    (repeat' (first | exact e_int | exact e_bl | exact e_non | exact e_str | exact es_nil | exact o_none | exact ifs_nil | exact and_nil | exact or_nil | exact e_vI (by rfl) | exact e_vF (by rfl) | exact e_vR (by rfl) | exact e_vS (by rfl) | exact e_vB (by rfl) | exact e_vN (by rfl) | apply es_cons | apply e_bin | apply e_neg | apply e_ix | apply e_sl | apply o_some | apply e_tup | apply e_lst | apply e_bi | apply e_isa | apply e_cmp | apply e_not | apply e_and | apply e_or | apply e_tst | apply i_r1 | apply i_r2 | apply i_seq | exact bin_add | exact bin_sub | exact bi_int | exact bi_abs | exact cmp_eqI | exact cmp_neI | exact cmp_ltI | exact cmp_leI | exact cmp_gtI | exact cmp_geI | exact bi_len | exact bi_lenT | exact ix_lst (by rfl) | exact ix_tup (by rfl) | exact ix_sref (by rfl) (by rfl) | apply bin_mod | apply bin_mul | apply bin_fdiv | apply bin_pow | exact mulOk_r (by decide) | exact mulOk_l (by decide) | exact divOk_of (by decide) (by decide) | decide))
  have h1 : ev (callK fs k) (.cmp .eq (.var 2) (.int 0)) (penv L (some (.int r)) none) [tdst ns p r s] = .ok (.bl (decide (r = 0))) [tdst ns p r s] := by
    (repeat' (first | exact e_int | exact e_bl | exact e_non | exact e_str | exact es_nil | exact o_none | exact ifs_nil | exact and_nil | exact or_nil | exact e_vI (by rfl) | exact e_vF (by rfl) | exact e_vR (by rfl) | exact e_vS (by rfl) | exact e_vB (by rfl) | exact e_vN (by rfl) | apply es_cons | apply e_bin | apply e_neg | apply e_ix | apply e_sl | apply o_some | apply e_tup | apply e_lst | apply e_bi | apply e_isa | apply e_cmp | apply e_not | apply e_and | apply e_or | apply e_tst | apply i_r1 | apply i_r2 | apply i_seq | exact bin_add | exact bin_sub | exact bi_int | exact bi_abs | exact cmp_eqI | exact cmp_neI | exact cmp_ltI | exact cmp_leI | exact cmp_gtI | exact cmp_geI | exact bi_len | exact bi_lenT | exact ix_lst (by rfl) | exact ix_tup (by rfl) | exact ix_sref (by rfl) (by rfl) | apply bin_mod | apply bin_mul | apply bin_fdiv | apply bin_pow | exact mulOk_r (by decide) | exact mulOk_l (by decide) | exact divOk_of (by decide) (by decide) | decide))
  by_cases hr0 : r = 0
  · subst hr0
    obtain ⟨p', c, hp', hc, h2⟩ := nx_c (call := callK fs k) (L := L) (r := 0) (s := s) hp
    have h3 : ev (callK fs k) (.cmp .lt (.var 3) (.bin .pow (.int 10) (.int 18))) (penv L (some (.int c)) (some (.int c))) [tdst ns p' 0 s] = .ok (.bl (decide (c < (10 : Int) ^ (18 : Int).toNat))) [tdst ns p' 0 s] := by
      (repeat' (first | exact e_int | exact e_bl | exact e_non | exact e_str | exact es_nil | exact o_none | exact ifs_nil | exact and_nil | exact or_nil | exact e_vI (by rfl) | exact e_vF (by rfl) | exact e_vR (by rfl) | exact e_vS (by rfl) | exact e_vB (by rfl) | exact e_vN (by rfl) | apply es_cons | apply e_bin | apply e_neg | apply e_ix | apply e_sl | apply o_some | apply e_tup | apply e_lst | apply e_bi | apply e_isa | apply e_cmp | apply e_not | apply e_and | apply e_or | apply e_tst | apply i_r1 | apply i_r2 | apply i_seq | exact bin_add | exact bin_sub | exact bi_int | exact bi_abs | exact cmp_eqI | exact cmp_neI | exact cmp_ltI | exact cmp_leI | exact cmp_gtI | exact cmp_geI | exact bi_len | exact bi_lenT | exact ix_lst (by rfl) | exact ix_tup (by rfl) | exact ix_sref (by rfl) (by rfl) | apply bin_mod | apply bin_mul | apply bin_fdiv | apply bin_pow | exact mulOk_r (by decide) | exact mulOk_l (by decide) | exact divOk_of (by decide) (by decide) | decide))
    have a3 : exec (callK fs k) (.set 3 (.int 0)) (penv L (some (.int 0)) none) [tdst ns p 0 s] = .ok (.nx (penv L (some (.int 0)) (some (.int 0)))) [tdst ns p 0 s] := x_setP (x := .int 0) (by (repeat' (first | exact e_int | exact e_bl | exact e_non | exact e_str | exact es_nil | exact o_none | exact ifs_nil | exact and_nil | exact or_nil | exact e_vI (by rfl) | exact e_vF (by rfl) | exact e_vR (by rfl) | exact e_vS (by rfl) | exact e_vB (by rfl) | exact e_vN (by rfl) | apply es_cons | apply e_bin | apply e_neg | apply e_ix | apply e_sl | apply o_some | apply e_tup | apply e_lst | apply e_bi | apply e_isa | apply e_cmp | apply e_not | apply e_and | apply e_or | apply e_tst | apply i_r1 | apply i_r2 | apply i_seq | exact bin_add | exact bin_sub | exact bi_int | exact bi_abs | exact cmp_eqI | exact cmp_neI | exact cmp_ltI | exact cmp_leI | exact cmp_gtI | exact cmp_geI | exact bi_len | exact bi_lenT | exact ix_lst (by rfl) | exact ix_tup (by rfl) | exact ix_sref (by rfl) (by rfl) | apply bin_mod | apply bin_mul | apply bin_fdiv | apply bin_pow | exact mulOk_r (by decide) | exact mulOk_l (by decide) | exact divOk_of (by decide) (by decide) | decide))) rfl
    have a4 : exec (callK fs k) (.set 2 (.var 3)) (penv L (some (.int 0)) (some (.int c))) [tdst ns p' 0 s] = .ok (.nx (penv L (some (.int c)) (some (.int c)))) [tdst ns p' 0 s] := x_setP (x := .int c) (by (repeat' (first | exact e_int | exact e_bl | exact e_non | exact e_str | exact es_nil | exact o_none | exact ifs_nil | exact and_nil | exact or_nil | exact e_vI (by rfl) | exact e_vF (by rfl) | exact e_vR (by rfl) | exact e_vS (by rfl) | exact e_vB (by rfl) | exact e_vN (by rfl) | apply es_cons | apply e_bin | apply e_neg | apply e_ix | apply e_sl | apply o_some | apply e_tup | apply e_lst | apply e_bi | apply e_isa | apply e_cmp | apply e_not | apply e_and | apply e_or | apply e_tst | apply i_r1 | apply i_r2 | apply i_seq | exact bin_add | exact bin_sub | exact bi_int | exact bi_abs | exact cmp_eqI | exact cmp_neI | exact cmp_ltI | exact cmp_leI | exact cmp_gtI | exact cmp_geI | exact bi_len | exact bi_lenT | exact ix_lst (by rfl) | exact ix_tup (by rfl) | exact ix_sref (by rfl) (by rfl) | apply bin_mod | apply bin_mul | apply bin_fdiv | apply bin_pow | exact mulOk_r (by decide) | exact mulOk_l (by decide) | exact divOk_of (by decide) (by decide) | decide))) rfl
    by_cases hb : c < (10 : Int) ^ (18 : Int).toNat
    · rw [decide_eq_true hb] at h3
      have r1 : ∀ a : Int, 0 ≤ a.fmod 2147483647 := fun a => Int.fmod_nonneg_of_pos _ (by decide)
      have r2 : ∀ a : Int, a.fmod 2147483647 < 2147483647 := fun a => Int.fmod_lt_of_pos _ (by decide)
      refine ⟨(((((s * 69621 + c * 40692 + 17).fmod 2147483647).fdiv 5) * 48271).fmod 2147483647).fmod L, [tdst ns p' 0 ((s * 69621 + c * 40692 + 17).fmod 2147483647)], Int.fmod_nonneg_of_pos _ hL, Int.fmod_lt_of_pos _ hL,
        ⟨_, rfl, ns, p', 0, _, rfl, hp', Int.le_refl _, r1 _, by have := r2 (s * 69621 + c * 40692 + 17); omega⟩, c_run hf (run_rt rfl rfl (s_cons h0 (s_rt (x_iteT (e_tst h1 rfl) (s_cons a3 (s_cons h2 (s_cons a4 (s_rt (x_iteT (e_tst h3 rfl) ?_)))))))) rfl)⟩
      refine s_cons (x_setShP 3 3 (.int ((s * 69621 + c * 40692 + 17).fmod 2147483647)) (by rfl) ?_ ?_ rfl rfl rfl rfl) (s_rt (x_ret ?_ rfl))
      · (repeat' (first | exact e_int | exact e_bl | exact e_non | exact e_str | exact es_nil | exact o_none | exact ifs_nil | exact and_nil | exact or_nil | exact e_vI (by rfl) | exact e_vF (by rfl) | exact e_vR (by rfl) | exact e_vS (by rfl) | exact e_vB (by rfl) | exact e_vN (by rfl) | apply es_cons | apply e_bin | apply e_neg | apply e_ix | apply e_sl | apply o_some | apply e_tup | apply e_lst | apply e_bi | apply e_isa | apply e_cmp | apply e_not | apply e_and | apply e_or | apply e_tst | apply i_r1 | apply i_r2 | apply i_seq | exact bin_add | exact bin_sub | exact bi_int | exact bi_abs | exact cmp_eqI | exact cmp_neI | exact cmp_ltI | exact cmp_leI | exact cmp_gtI | exact cmp_geI | exact bi_len | exact bi_lenT | exact ix_lst (by rfl) | exact ix_tup (by rfl) | exact ix_sref (by rfl) (by rfl) | apply bin_mod | apply bin_mul | apply bin_fdiv | apply bin_pow | exact mulOk_r (by decide) | exact mulOk_l (by decide) | exact divOk_of (by decide) (by decide) | decide))
      · (repeat' (first | exact e_int | exact e_bl | exact e_non | exact e_str | exact es_nil | exact o_none | exact ifs_nil | exact and_nil | exact or_nil | exact e_vI (by rfl) | exact e_vF (by rfl) | exact e_vR (by rfl) | exact e_vS (by rfl) | exact e_vB (by rfl) | exact e_vN (by rfl) | apply es_cons | apply e_bin | apply e_neg | apply e_ix | apply e_sl | apply o_some | apply e_tup | apply e_lst | apply e_bi | apply e_isa | apply e_cmp | apply e_not | apply e_and | apply e_or | apply e_tst | apply i_r1 | apply i_r2 | apply i_seq | exact bin_add | exact bin_sub | exact bi_int | exact bi_abs | exact cmp_eqI | exact cmp_neI | exact cmp_ltI | exact cmp_leI | exact cmp_gtI | exact cmp_geI | exact bi_len | exact bi_lenT | exact ix_lst (by rfl) | exact ix_tup (by rfl) | exact ix_sref (by rfl) (by rfl) | apply bin_mod | apply bin_mul | apply bin_fdiv | apply bin_pow | exact mulOk_r (by decide) | exact mulOk_l (by decide) | exact divOk_of (by decide) (by decide) | decide))
      · (repeat' (first | exact e_int | exact e_bl | exact e_non | exact e_str | exact es_nil | exact o_none | exact ifs_nil | exact and_nil | exact or_nil | exact e_vI (by rfl) | exact e_vF (by rfl) | exact e_vR (by rfl) | exact e_vS (by rfl) | exact e_vB (by rfl) | exact e_vN (by rfl) | apply es_cons | apply e_bin | apply e_neg | apply e_ix | apply e_sl | apply o_some | apply e_tup | apply e_lst | apply e_bi | apply e_isa | apply e_cmp | apply e_not | apply e_and | apply e_or | apply e_tst | apply i_r1 | apply i_r2 | apply i_seq | exact bin_add | exact bin_sub | exact bi_int | exact bi_abs | exact cmp_eqI | exact cmp_neI | exact cmp_ltI | exact cmp_leI | exact cmp_gtI | exact cmp_geI | exact bi_len | exact bi_lenT | exact ix_lst (by rfl) | exact ix_tup (by rfl) | exact ix_sref (by rfl) (by rfl) | apply bin_mod | apply bin_mul | apply bin_fdiv | apply bin_pow | exact mulOk_r (by decide) | exact mulOk_l (by decide) | exact divOk_of (by decide) (by decide) | decide)); omega
    · rw [decide_eq_false hb] at h3
      obtain ⟨q, st', q1, q2, q3, q4⟩ := fin p' 0 c (some (.int c)) hp' hc
      exact ⟨q, st', q1, q2, q3, c_run hf (run_rt rfl rfl (s_cons h0 (s_cons (x_iteT (e_tst h1 rfl) (s_cons a3 (s_cons h2 (s_cons a4 (s_cons (x_iteF (e_tst h3 rfl) rfl) rfl))))) q4)) (by obtain ⟨_, rfl, _⟩ := q3; rfl))⟩
  · rw [decide_eq_false hr0] at h1
    obtain ⟨q, st', q1, q2, q3, q4⟩ := fin p r r none hp hr
    exact ⟨q, st', q1, q2, q3, c_run hf (run_rt rfl rfl (s_cons h0 (s_cons (x_iteF (e_tst h1 rfl) rfl) q4)) (by obtain ⟨_, rfl, _⟩ := q3; rfl))⟩
end PL
/-! determinants: by steps without fractions, along the first row -/
namespace PL
abbrev Mx := Nat → Nat → Int
def d3 (a b c d e f g h i : Int) : Int := a * (e * i - f * h) - b * (d * i - f * g) + c * (d * h - e * g)
def d4 (a b c d e f g h i j k l m n o p : Int) : Int := a * d3 f g h j k l n o p - b * d3 e g h i k l m o p + c * d3 e f h i j l m n p - d * d3 e f g i j k m n o
/-- the determinant of the upper left part -/
def dtF : Nat → Mx → Int
  | 0, _ => 1
  | 1, F => F 0 0
  | 2, F => F 0 0 * F 1 1 - F 0 1 * F 1 0
  | 3, F => d3 (F 0 0) (F 0 1) (F 0 2) (F 1 0) (F 1 1) (F 1 2) (F 2 0) (F 2 1) (F 2 2)
  | 4, F => d4 (F 0 0) (F 0 1) (F 0 2) (F 0 3) (F 1 0) (F 1 1) (F 1 2) (F 1 3) (F 2 0) (F 2 1) (F 2 2) (F 2 3) (F 3 0) (F 3 1) (F 3 2) (F 3 3)
  | _, _ => 0
/-! ### steps without fractions -/
def elimF (k : Nat) (b : Int) (F : Mx) : Mx := fun i j => if k < i ∧ k < j then (F i j * F k k - F i k * F k j).fdiv b else F i j
def swpF (k s : Nat) (F : Mx) : Mx := fun i j => F (if i = k then s else if i = s then k else i) j
def pivs (n k : Nat) (F : Mx) : List Nat := (List.range' k (n - k)).filter fun j => F j k != 0
def bar (n : Nat) : Nat → Nat → Mx → Int → Int → Int
  | 0, _, F, s, _ => s * F (n - 1) (n - 1)
  | m + 1, k, F, s, b => match pivs n k F with
    | [] => 0
    | p :: _ => let G := if p = k then F else swpF k p F
      bar n m (k + 1) (elimF k b G) (if p = k then s else 0 - s) (G k k)
def BarOk (n : Nat) : Nat → Nat → Mx → Int → Prop
  | 0, _, F, _ => True
  | m + 1, k, F, b => b ≠ 0 ∧ b.natAbs < 2 ^ 64 ∧ (∀ i j, i < n → j < n → (F i j).natAbs < 2 ^ 64) ∧ match pivs n k F with
    | [] => True
    | p :: _ => let G := if p = k then F else swpF k p F
      BarOk n m (k + 1) (elimF k b G) (G k k)
theorem piv_some {n k p : Nat} {l : List Nat} {F : Mx} (h : pivs n k F = p :: l) : k ≤ p ∧ p < n ∧ F p k ≠ 0 := by
  have m : p ∈ pivs n k F := by rw [h]; exact List.mem_cons_self
  unfold pivs at m
  obtain ⟨m1, m2⟩ := List.mem_filter.mp m
  rw [List.mem_range'_1] at m1
  refine ⟨m1.1, by omega, ?_⟩
  intro z; rw [z] at m2; simp at m2
theorem piv_none {n k : Nat} {F : Mx} (h : pivs n k F = []) : ∀ i, k ≤ i → i < n → F i k = 0 := fun i h1 h2 => by
  unfold pivs at h
  have := List.filter_eq_nil_iff.mp h i (List.mem_range'_1.mpr ⟨h1, by omega⟩)
  simpa using this
theorem fdiv_one (a : Int) : a.fdiv 1 = a := Int.fdiv_one a
theorem fdiv_ex {a b c : Int} (hb : b ≠ 0) (h : a = b * c) : a.fdiv b = c := by rw [h]; exact Int.mul_fdiv_cancel_left c hb
/-- all entries are small -/
def SmF (n : Nat) (B : Nat) (F : Mx) : Prop := ∀ i j, i < n → j < n → (F i j).natAbs ≤ B
theorem swp_sm {n B k p : Nat} {F : Mx} (h : SmF n B F) (hk : k < n) (hp : p < n) : SmF n B (swpF k p F) := fun i j hi hj => by
  unfold swpF
  split
  · exact h p j hp hj
  · split
    · exact h k j hk hj
    · exact h i j hi hj
theorem elim_swp {k s a : Nat} {b : Int} {F : Mx} (hk : a < k) (hs : a < s) : swpF k s (elimF a b F) = elimF a b (swpF k s F) := by
  funext i j
  unfold swpF elimF
  have e : (if a = k then s else if a = s then k else a) = a := by rw [if_neg (by omega), if_neg (by omega)]
  simp only [e]
  by_cases h1 : i = k
  · subst h1
    simp only [if_true]
    by_cases hj : a < j
    · rw [if_pos ⟨hs, hj⟩, if_pos ⟨hk, hj⟩]
    · rw [if_neg (by omega), if_neg (by omega)]
  · simp only [if_neg h1]
    by_cases h2 : i = s
    · subst h2
      simp only [if_true]
      by_cases hj : a < j
      · rw [if_pos ⟨hk, hj⟩, if_pos ⟨hs, hj⟩]
      · rw [if_neg (by omega), if_neg (by omega)]
    · simp only [if_neg h2]
/-! swaps change the sign -/
theorem dt_swp {n k s : Nat} {F : Mx} (hn : n ≤ 4) (h : k < s) (hs : s < n) : dtF n (swpF k s F) = - dtF n F := by
  have : n = 2 ∧ k = 0 ∧ s = 1 ∨ n = 3 ∧ (k = 0 ∧ s = 1 ∨ k = 0 ∧ s = 2 ∨ k = 1 ∧ s = 2) ∨ n = 4 ∧ (k = 0 ∧ s = 1 ∨ k = 0 ∧ s = 2 ∨ k = 0 ∧ s = 3 ∨ k = 1 ∧ s = 2 ∨ k = 1 ∧ s = 3 ∨ k = 2 ∧ s = 3) := by omega
  rcases this with ⟨rfl, rfl, rfl⟩ | ⟨rfl, ⟨rfl, rfl⟩ | ⟨rfl, rfl⟩ | ⟨rfl, rfl⟩⟩ | ⟨rfl, ⟨rfl, rfl⟩ | ⟨rfl, rfl⟩ | ⟨rfl, rfl⟩ | ⟨rfl, rfl⟩ | ⟨rfl, rfl⟩ | ⟨rfl, rfl⟩⟩ <;>
  · simp only [dtF, swpF, d3, d4]
    simp
    try grind
theorem s3 (a b c d e f g h i : Int) : (i * a - g * c) * (e * a - d * b) - (h * a - g * b) * (f * a - d * c) = a * d3 a b c d e f g h i := by
  unfold d3; grind
theorem s4 (a b c d e f g h i j k l m n o p : Int) : d3 a b d e f h m n p * d3 a b c e f g i j k - d3 a b c e f g m n o * d3 a b d e f h i j l = (f * a - e * b) * d4 a b c d e f g h i j k l m n o p := by
  unfold d4 d3; grind
end PL
namespace PL
theorem bar_case {n k m : Nat} {F : Mx} {s b v : Int} (hb : b ≠ 0) (hb2 : b.natAbs < 2 ^ 64) (hs : ∀ i j, i < n → j < n → (F i j).natAbs < 2 ^ 64) (hk : k < n)
    (h0 : (∀ i, k ≤ i → i < n → F i k = 0) → v = 0)
    (h1 : ∀ G s', (G = F ∧ s' = s ∨ ∃ p, k < p ∧ p < n ∧ G = swpF k p F ∧ s' = 0 - s) → G k k ≠ 0 → bar n m (k + 1) (elimF k b G) s' (G k k) = v ∧ BarOk n m (k + 1) (elimF k b G) (G k k)) :
    bar n (m + 1) k F s b = v ∧ BarOk n (m + 1) k F b := by
  cases hp : pivs n k F with
  | nil =>
    unfold bar BarOk
    simp only [hp]
    exact ⟨(h0 (piv_none hp)).symm, hb, hb2, hs, trivial⟩
  | cons p l =>
    obtain ⟨p1, p2, p3⟩ := piv_some hp
    unfold bar BarOk
    simp only [hp]
    by_cases e : p = k
    · subst e
      simp only [if_true]
      obtain ⟨g1, g2⟩ := h1 F s (.inl ⟨rfl, rfl⟩) p3
      exact ⟨g1, hb, hb2, hs, g2⟩
    · simp only [if_neg e]
      obtain ⟨g1, g2⟩ := h1 (swpF k p F) (0 - s) (.inr ⟨p, by omega, p2, rfl, rfl⟩) (by unfold swpF; simp; exact p3)
      exact ⟨g1, hb, hb2, hs, g2⟩
theorem na_mul {a b : Int} {A B : Nat} (h : a.natAbs ≤ A) (h2 : b.natAbs ≤ B) : (a * b).natAbs ≤ A * B := by rw [Int.natAbs_mul]; exact Nat.mul_le_mul h h2
theorem na_sub {a b : Int} {A B : Nat} (h : a.natAbs ≤ A) (h2 : b.natAbs ≤ B) : (a - b).natAbs ≤ A + B := by omega
theorem na_add {a b : Int} {A B : Nat} (h : a.natAbs ≤ A) (h2 : b.natAbs ≤ B) : (a + b).natAbs ≤ A + B := by omega
theorem d3_sm {a b c d e f g h i : Int} {B : Nat} (ha : a.natAbs ≤ B) (hb : b.natAbs ≤ B) (hc : c.natAbs ≤ B) (hd : d.natAbs ≤ B) (he : e.natAbs ≤ B) (hf : f.natAbs ≤ B) (hg : g.natAbs ≤ B) (hh : h.natAbs ≤ B) (hi : i.natAbs ≤ B) : (d3 a b c d e f g h i).natAbs ≤ B * (B * B + B * B) + B * (B * B + B * B) + B * (B * B + B * B) := by
  unfold d3
  exact na_add (na_sub (na_mul ha (na_sub (na_mul he hi) (na_mul hf hh))) (na_mul hb (na_sub (na_mul hd hi) (na_mul hf hg)))) (na_mul hc (na_sub (na_mul hd hh) (na_mul he hg)))
abbrev SB : Nat := 4096
theorem elim0 {G : Mx} {i j : Nat} (hi : 0 < i) (hj : 0 < j) : elimF 0 1 G i j = G i j * G 0 0 - G i 0 * G 0 j := by
  unfold elimF; rw [if_pos ⟨hi, hj⟩, fdiv_one]
theorem elim0_n {G : Mx} {i j : Nat} (h : ¬ (0 < i ∧ 0 < j)) : elimF 0 1 G i j = G i j := by
  unfold elimF; rw [if_neg h]
theorem elim0_sm {n : Nat} {G : Mx} (h : SmF n SB G) : ∀ i j, i < n → j < n → (elimF 0 1 G i j).natAbs ≤ 2 ^ 25 := fun i j hi hj => by
  have hn : 0 < n := by omega
  by_cases z : 0 < i ∧ 0 < j
  · rw [elim0 z.1 z.2]
    exact Nat.le_trans (na_sub (na_mul (h i j hi hj) (h 0 0 hn hn)) (na_mul (h i 0 hi hn) (h 0 j hn hj))) (by decide)
  · rw [elim0_n z]
    exact Nat.le_trans (h i j hi hj) (by decide)
theorem swp_at {k s : Nat} {F : Mx} {i j : Nat} (h : i ≠ k) (h2 : i ≠ s) : swpF k s F i j = F i j := by
  unfold swpF; rw [if_neg h, if_neg h2]
/-- what a choice of a pivot does -/
def Ch (n k : Nat) (F : Mx) (s : Int) (G : Mx) (s' : Int) : Prop := G = F ∧ s' = s ∨ ∃ p, k < p ∧ p < n ∧ G = swpF k p F ∧ s' = 0 - s
theorem Ch.dt {n k : Nat} {F G : Mx} {s s' : Int} (c : Ch n k F s G s') (hn : n ≤ 4) : s' * dtF n G = s * dtF n F := by
  rcases c with ⟨rfl, rfl⟩ | ⟨p, h1, h2, rfl, rfl⟩
  · rfl
  · rw [dt_swp hn h1 h2]; grind
theorem Ch.sm {n k : Nat} {F G : Mx} {s s' : Int} (c : Ch n k F s G s') (h : SmF n SB F) : SmF n SB G := by
  rcases c with ⟨rfl, rfl⟩ | ⟨p, h1, h2, rfl, rfl⟩
  · exact h
  · exact swp_sm h (by omega) h2
theorem Ch.up {n k a : Nat} {b : Int} {F G : Mx} {s s' : Int} (c : Ch n k (elimF a b F) s G s') (h : a < k) : ∃ F', Ch n k F s F' s' ∧ G = elimF a b F' ∧ ∀ j, F' a j = F a j := by
  rcases c with ⟨rfl, rfl⟩ | ⟨p, h1, h2, rfl, rfl⟩
  · exact ⟨F, .inl ⟨rfl, rfl⟩, rfl, fun _ => rfl⟩
  · exact ⟨swpF k p F, .inr ⟨p, h1, h2, rfl, rfl⟩, elim_swp h (by omega), fun j => swp_at (by omega) (by omega)⟩
theorem elim1 {G : Mx} (hG : G 0 0 ≠ 0) {i j : Nat} (hi : 1 < i) (hj : 1 < j) : elimF 1 (G 0 0) (elimF 0 1 G) i j = d3 (G 0 0) (G 0 1) (G 0 j) (G 1 0) (G 1 1) (G 1 j) (G i 0) (G i 1) (G i j) := by
  unfold elimF
  rw [if_pos ⟨hi, hj⟩]
  refine fdiv_ex hG ?_
  rw [if_pos (by omega), if_pos (by omega), if_pos (by omega), if_pos (by omega), fdiv_one, fdiv_one, fdiv_one, fdiv_one]
  unfold d3; grind
theorem elim1_sm {n : Nat} {G : Mx} (hG : G 0 0 ≠ 0) (h : SmF n SB G) (hn : 1 < n) : ∀ i j, i < n → j < n → (elimF 1 (G 0 0) (elimF 0 1 G) i j).natAbs ≤ 2 ^ 40 := fun i j hi hj => by
  by_cases z : 1 < i ∧ 1 < j
  · rw [elim1 hG z.1 z.2]
    exact Nat.le_trans (d3_sm (h _ _ (by omega) (by omega)) (h _ _ (by omega) (by omega)) (h _ _ (by omega) (by omega)) (h _ _ (by omega) (by omega)) (h _ _ (by omega) (by omega)) (h _ _ (by omega) (by omega)) (h _ _ (by omega) (by omega)) (h _ _ (by omega) (by omega)) (h _ _ (by omega) (by omega))) (by decide)
  · have : elimF 1 (G 0 0) (elimF 0 1 G) i j = elimF 0 1 G i j := if_neg z
    rw [this]
    exact Nat.le_trans (elim0_sm h i j hi hj) (by decide)
theorem lt64' {a : Int} {A : Nat} (h : a.natAbs ≤ A) (h2 : A < 2 ^ 64) : a.natAbs < 2 ^ 64 := Nat.lt_of_le_of_lt h h2
theorem mul_cancel0 {a b : Int} (ha : a ≠ 0) (h : a * b = 0) : b = 0 := (Int.mul_eq_zero.mp h).resolve_left ha
/-- THE THEOREM of the steps -/
theorem bar_ok {n : Nat} {F : Mx} (hn : n ≤ 4) (hn0 : 0 < n) (h : SmF n SB F) : bar n (n - 1) 0 F 1 1 = dtF n F ∧ BarOk n (n - 1) 0 F 1 := by
  have b0 : ∀ (G : Mx), SmF n SB G → ∀ i j, i < n → j < n → (G i j).natAbs < 2 ^ 64 := fun G h i j hi hj => lt64' (h i j hi hj) (by decide)
  rcases (show n = 1 ∨ n = 2 ∨ n = 3 ∨ n = 4 by omega) with rfl | rfl | rfl | rfl
  · exact ⟨by show 1 * F 0 0 = F 0 0; omega, trivial⟩
  · refine bar_case (by decide) (by decide) (b0 F h) (by decide) (fun z => ?_) fun G s' c hG => ?_
    · simp only [dtF, z 0 (by decide) (by decide), z 1 (by decide) (by decide)]; grind
    · have e := Ch.dt (n := 2) c (by decide)
      refine ⟨?_, trivial⟩
      show s' * elimF 0 1 G 1 1 = _
      rw [elim0 (by decide) (by decide)]
      simp only [dtF] at e ⊢
      grind
  · refine bar_case (by decide) (by decide) (b0 F h) (by decide) (fun z => ?_) fun G s' c hG => ?_
    · simp only [dtF, d3, z 0 (by decide) (by decide), z 1 (by decide) (by decide), z 2 (by decide) (by decide)]; grind
    · have e := Ch.dt (n := 3) c (by decide)
      have sG := Ch.sm (n := 3) c h
      refine bar_case hG (b0 G sG 0 0 (by decide) (by decide)) (fun i j hi hj => lt64' (elim0_sm sG i j hi hj) (by decide)) (by decide) (fun z => ?_) fun H t c2 hH => ?_
      · have z1 := z 1 (by decide) (by decide)
        have z2 := z 2 (by decide) (by decide)
        rw [elim0 (by decide) (by decide)] at z1 z2
        have : G 0 0 * dtF 3 G = 0 := by
          simp only [dtF]
          rw [← s3, z1, z2]; grind
        have := mul_cancel0 hG this
        rw [this] at e
        grind
      · obtain ⟨G', c3, rfl, r0⟩ := Ch.up c2 (by decide)
        have e2 := c3.dt (by decide)
        refine ⟨?_, trivial⟩
        show t * elimF 1 (G 0 0) (elimF 0 1 G') 2 2 = _
        rw [← r0 0, elim1 (by rw [r0]; exact hG) (by decide) (by decide)]
        show t * dtF 3 G' = _
        rw [e2, e]; grind
  · refine bar_case (by decide) (by decide) (b0 F h) (by decide) (fun z => ?_) fun G s' c hG => ?_
    · simp only [dtF, d4, d3, z 0 (by decide) (by decide), z 1 (by decide) (by decide), z 2 (by decide) (by decide), z 3 (by decide) (by decide)]; grind
    · have e := Ch.dt (n := 4) c (by decide)
      have sG := Ch.sm (n := 4) c h
      refine bar_case hG (b0 G sG 0 0 (by decide) (by decide)) (fun i j hi hj => lt64' (elim0_sm sG i j hi hj) (by decide)) (by decide) (fun z => ?_) fun H t c2 hH => ?_
      · have z1 := z 1 (by decide) (by decide)
        have z2 := z 2 (by decide) (by decide)
        have z3 := z 3 (by decide) (by decide)
        rw [elim0 (by decide) (by decide)] at z1 z2 z3
        have : G 0 0 * (G 0 0 * dtF 4 G) = 0 := by
          simp only [dtF, d4, d3]
          grind
        have := mul_cancel0 hG (mul_cancel0 hG this)
        rw [this] at e
        grind
      · obtain ⟨G', c3, rfl, r0⟩ := Ch.up c2 (by decide)
        have e2 := c3.dt (by decide)
        have sG' := c3.sm sG
        have hG' : G' 0 0 ≠ 0 := by rw [r0]; exact hG
        rw [← r0 0]
        refine bar_case hH (lt64' (elim0_sm sG' 1 1 (by decide) (by decide)) (by decide)) (fun i j hi hj => lt64' (elim1_sm hG' sG' (by decide) i j hi hj) (by decide)) (by decide) (fun z => ?_) fun K u c4 hK => ?_
        · have z2 := z 2 (by decide) (by decide)
          have z3 := z 3 (by decide) (by decide)
          rw [elim1 hG' (by decide) (by decide)] at z2 z3
          have h11 : elimF 0 1 G' 1 1 = G' 1 1 * G' 0 0 - G' 1 0 * G' 0 1 := elim0 (by decide) (by decide)
          rw [h11] at hH
          have : (G' 1 1 * G' 0 0 - G' 1 0 * G' 0 1) * dtF 4 G' = 0 := by
            have q := s4 (G' 0 0) (G' 0 1) (G' 0 2) (G' 0 3) (G' 1 0) (G' 1 1) (G' 1 2) (G' 1 3) (G' 2 0) (G' 2 1) (G' 2 2) (G' 2 3) (G' 3 0) (G' 3 1) (G' 3 2) (G' 3 3)
            rw [z2, z3] at q
            show (_ - _) * d4 _ _ _ _ _ _ _ _ _ _ _ _ _ _ _ _ = 0
            grind
          have := mul_cancel0 hH this
          rw [this] at e2
          grind
        · obtain ⟨H', c5, rfl, r1⟩ := Ch.up c4 (by decide)
          obtain ⟨G2, c6, rfl, r2⟩ := Ch.up c5 (by decide)
          have e3 := c6.dt (by decide)
          have g00 : G2 0 0 = G' 0 0 := r2 0
          have g11 : elimF 0 1 G' 1 1 = elimF 0 1 G2 1 1 := (r1 1).symm
          refine ⟨?_, trivial⟩
          show u * elimF 2 (elimF 0 1 G' 1 1) (elimF 1 (G' 0 0) (elimF 0 1 G2)) 3 3 = _
          rw [← g00, g11]
          have hH2 : elimF 0 1 G2 1 1 ≠ 0 := by rw [← g11]; exact hH
          have hG2 : G2 0 0 ≠ 0 := by rw [g00]; exact hG'
          have q : elimF 2 (elimF 0 1 G2 1 1) (elimF 1 (G2 0 0) (elimF 0 1 G2)) 3 3 = dtF 4 G2 := by
            conv => lhs; unfold elimF
            rw [if_pos (by decide)]
            show (elimF 1 (G2 0 0) (elimF 0 1 G2) 3 3 * elimF 1 (G2 0 0) (elimF 0 1 G2) 2 2 - elimF 1 (G2 0 0) (elimF 0 1 G2) 3 2 * elimF 1 (G2 0 0) (elimF 0 1 G2) 2 3).fdiv (elimF 0 1 G2 1 1) = _
            refine fdiv_ex hH2 ?_
            rw [elim1 hG2 (by decide) (by decide), elim1 hG2 (by decide) (by decide), elim1 hG2 (by decide) (by decide), elim1 hG2 (by decide) (by decide), elim0 (by decide) (by decide), s4]
            show _ = _ * d4 _ _ _ _ _ _ _ _ _ _ _ _ _ _ _ _
            grind
          rw [q, e3, e2, e]; grind
end PL
namespace PL
open PySem
open L2 (atI ixN)
/-! ### loops over range, by what holds -/
theorem rg_nn (a n : Nat) : rgD (a : Int) (n : Int) = (List.range' a (n - a)).map rgE := by
  unfold rgD rgE
  rw [show ((n : Int) - a).toNat = n - a by omega, List.range'_eq_map_range, List.map_map]
  refine List.map_congr_left fun i _ => ?_
  show D.int _ = D.int _
  congr 1
theorem f_rn2 {call : Nat → List D → M D} {env : Env} {st : Store} {a b : E} {k n : Nat} (ha : ev call a env st = .ok (.int (k : Int)) st) (hb : ev call b env st = .ok (.int (n : Int)) st) (hk : k ≤ 1000000) (hn : n ≤ 1000000) : evI call (.r2 a b) env st = .ok ((List.range' k (n - k)).map rgE) st := by
  rw [← rg_nn]
  refine i_r2 ha hb ?_
  simp only [rgOk, Bool.and_eq_true, decide_eq_true_eq]; omega
theorem f_rn1 {call : Nat → List D → M D} {env : Env} {st : Store} {a : E} {n : Nat} (ha : ev call a env st = .ok (.int (n : Int)) st) (hn : n ≤ 1000000) : evI call (.r1 a) env st = .ok ((List.range' 0 n).map rgE) st := by
  have := i_rn ha hn
  rw [List.range_eq_range'] at this
  exact this
theorem g_rn1 {call : Nat → List D → M D} {env : Env} {st : Store} {a : E} {n : Nat} (ha : ev call a env st = .ok (.int (n : Int)) st) (hn : n ≤ 1000000) : evF call (.r1 a) env st = .ok ((List.range' 0 n).map rgE) st := f_rn1 ha hn
theorem g_rn2 {call : Nat → List D → M D} {env : Env} {st : Store} {a b : E} {k n : Nat} (ha : ev call a env st = .ok (.int (k : Int)) st) (hb : ev call b env st = .ok (.int (n : Int)) st) (hk : k ≤ 1000000) (hn : n ≤ 1000000) : evF call (.r2 a b) env st = .ok ((List.range' k (n - k)).map rgE) st := f_rn2 ha hb hk hn
/-- a loop that may return -/
theorem for_R {v : Nat} {f : Env → M Fl} {st : Store} {Inv : Nat → Env → Prop} {Out : D → Prop} : ∀ (m s : Nat) (env : Env), Inv s env →
    (∀ i env, s ≤ i → i < s + m → Inv i env → (∃ env', f (env.set v (some (rgE i))) st = .ok (.nx env') st ∧ Inv (i + 1) env') ∨ ∃ d, f (env.set v (some (rgE i))) st = .ok (.rt d) st ∧ Out d) →
    (∃ env', forM [v] false f ((List.range' s m).map rgE) env st = .ok (.nx env') st ∧ Inv (s + m) env') ∨ ∃ d, forM [v] false f ((List.range' s m).map rgE) env st = .ok (.rt d) st ∧ Out d
  | 0, s, env, h0, _ => .inl ⟨env, for_nil, h0⟩
  | m + 1, s, env, h0, h => by
    rw [List.range'_succ, List.map_cons]
    rcases h s env (Nat.le_refl _) (by omega) h0 with ⟨env1, q1, i1⟩ | ⟨d, q1, o⟩
    · rcases for_R m (s + 1) env1 i1 fun i env a b => h i env (by omega) (by omega) with ⟨env2, q2, i2⟩ | ⟨d, q2, o⟩
      · exact .inl ⟨env2, for_nx rfl q1 q2, by rw [show s + (m + 1) = s + 1 + m by omega]; exact i2⟩
      · exact .inr ⟨d, for_nx rfl q1 q2, o⟩
    · exact .inr ⟨d, for_rt rfl q1, o⟩
theorem for_N {v : Nat} {f : Env → M Fl} {st : Store} {Inv : Nat → Env → Prop} (m s : Nat) (env : Env) (h0 : Inv s env)
    (h : ∀ i env, s ≤ i → i < s + m → Inv i env → ∃ env', f (env.set v (some (rgE i))) st = .ok (.nx env') st ∧ Inv (i + 1) env') :
    ∃ env', forM [v] false f ((List.range' s m).map rgE) env st = .ok (.nx env') st ∧ Inv (s + m) env' := by
  rcases for_R (Out := fun _ => False) m s env h0 fun i env a b c => .inl (h i env a b c) with q | ⟨d, _, o⟩
  · exact q
  · exact o.elim
section
variable {call : Nat → List D → M D} {env : Env} {st : Store} {e ix jx : E} {i : Nat} {x : D}
theorem x_setIx2 {ds es : List D} {k l : Int} {j m : Nat} (h : env[i]? = some (some (.lst .own ds))) (he : ev call e env st = .ok x st) (hx : ev call ix env st = .ok (.int k) st) (hj : ixN ds.length k = some j) (hd : ds[j]? = some (.lst .own es)) (hy : ev call jx env st = .ok (.int l) st) (hm : ixN es.length l = some m) (hk : x.keep = true) :
    exec call (.setIx2 i ix jx e) env st = .ok (.nx (env.set i (some (.lst .own (ds.set j (.lst .own (es.set m x))))))) st := by
  simp only [exec, setIx2F, h]
  refine M.bind_of he (M.bind_of hx ?_)
  simp only [hj, hd]
  refine M.bind_of hy ?_
  simp only [hm, hk, if_true]
theorem x_swap {a b c d : E} {ds : List D} {ka kb kc kd : Int} {ja jb : Nat} {da db : D} (h : env[i]? = some (some (.lst .own ds))) (hc : ev call c env st = .ok (.int kc) st) (jc : ixN ds.length kc = some jb) (gb : ds[jb]? = some db) (hd : ev call d env st = .ok (.int kd) st) (jd : ixN ds.length kd = some ja) (ga : ds[ja]? = some da)
    (ha : ev call a env st = .ok (.int ka) st) (ea : ixN ds.length ka = some ja) (hb : ev call b (env.set i (some (.lst .own (ds.set ja db)))) st = .ok (.int kb) st) (eb : ixN ds.length kb = some jb) :
    exec call (.swap i a b c d) env st = .ok (.nx (env.set i (some (.lst .own ((ds.set ja db).set jb da))))) st := by
  simp only [exec, swapF, h]
  refine M.bind_of hc ?_
  simp only [jc, gb]
  refine M.bind_of hd ?_
  simp only [jd, ga]
  refine M.bind_of ha ?_
  simp only [ea, if_true]
  refine M.bind_of (show M.quiet _ st = .ok (.int kb) st by unfold M.quiet; rw [hb]) ?_
  simp only [eb, if_true]
end
/-! ### a square table of one's own -/
def rowO (n : Nat) (f : Nat → Int) : List D := (List.range n).map fun j => D.int (f j)
def rowsO (n : Nat) (F : Mx) : List D := (List.range n).map fun i => D.lst .own (rowO n (F i))
def ownT (n : Nat) (F : Mx) : D := .lst .own (rowsO n F)
def updM (F : Mx) (i j : Nat) (v : Int) : Mx := fun a b => if a = i ∧ b = j then v else F a b
theorem rowO_len (n : Nat) (f : Nat → Int) : (rowO n f).length = n := by unfold rowO; rw [List.length_map, List.length_range]
theorem rowsO_len (n : Nat) (F : Mx) : (rowsO n F).length = n := by unfold rowsO; rw [List.length_map, List.length_range]
theorem rowO_at {n j : Nat} {f : Nat → Int} (h : j < n) : (rowO n f)[j]? = some (.int (f j)) := by unfold rowO; rw [List.getElem?_map, List.getElem?_range h]; rfl
theorem rowsO_at {n i : Nat} {F : Mx} (h : i < n) : (rowsO n F)[i]? = some (.lst .own (rowO n (F i))) := by unfold rowsO; rw [List.getElem?_map, List.getElem?_range h]; rfl
theorem map_range_set {α : Type} {n i : Nat} {f : Nat → α} {x : α} (h : i < n) : ((List.range n).map f).set i x = (List.range n).map fun a => if a = i then x else f a := by
  apply List.ext_getElem?
  intro j
  by_cases hj : j < n
  · by_cases e : i = j
    · subst e
      rw [List.getElem?_set_self (by rw [List.length_map, List.length_range]; exact h), List.getElem?_map, List.getElem?_range hj]
      show some x = some (if i = i then x else f i)
      rw [if_pos rfl]
    · rw [List.getElem?_set_ne e, List.getElem?_map, List.getElem?_map, List.getElem?_range hj]
      show some (f j) = some (if j = i then x else f j)
      rw [if_neg (Ne.symm e)]
  · rw [List.getElem?_eq_none (by rw [List.length_set, List.length_map, List.length_range]; omega), List.getElem?_eq_none (by rw [List.length_map, List.length_range]; omega)]
theorem rowsO_set {n i j : Nat} {F : Mx} {v : Int} (hi : i < n) (hj : j < n) : (rowsO n F).set i (.lst .own ((rowO n (F i)).set j (.int v))) = rowsO n (updM F i j v) := by
  unfold rowsO
  rw [map_range_set hi]
  refine List.map_congr_left fun a _ => ?_
  by_cases e : a = i
  · subst e
    rw [if_pos rfl]
    unfold rowO
    rw [map_range_set hj]
    congr 1
    refine List.map_congr_left fun b _ => ?_
    unfold updM
    by_cases e : b = j
    · rw [if_pos e, if_pos ⟨rfl, e⟩]
    · rw [if_neg e, if_neg fun z => e z.2]
  · rw [if_neg e]
    unfold rowO updM
    congr 1
    refine List.map_congr_left fun b _ => ?_
    rw [if_neg fun z => e z.1]
theorem rowsO_swp {n k s : Nat} {F : Mx} (hk : k < n) (hs : s < n) : ((rowsO n F).set k (.lst .own (rowO n (F s)))).set s (.lst .own (rowO n (F k))) = rowsO n (swpF k s F) := by
  unfold rowsO
  rw [map_range_set hk, map_range_set hs]
  refine List.map_congr_left fun a _ => ?_
  unfold swpF
  by_cases e : a = s
  · subst e
    rw [if_pos rfl]
    by_cases e2 : a = k
    · subst e2; simp
    · simp [e2]
  · rw [if_neg e]
    by_cases e2 : a = k
    · subst e2; simp
    · simp [e2, e]
theorem noOwn_rowO : ∀ l : List Int, noOwnL (l.map D.int) = true
  | [] => rfl
  | x :: l => by show (true && noOwnL _) = true; rw [noOwn_rowO l]; rfl
theorem keep_rowO : ∀ l : List Int, keepL (l.map D.int) = true
  | [] => rfl
  | x :: l => by show (true && keepL _) = true; rw [keep_rowO l]; rfl
theorem rowO_ints (n : Nat) (f : Nat → Int) : rowO n f = ((List.range n).map f).map D.int := by unfold rowO; rw [List.map_map]; rfl
theorem bw_rowO (n : Nat) (f : Nat → Int) : bwL (rowO n f) = rowO n f := by rw [rowO_ints]; exact bwL_ints _
theorem keepL_of' : ∀ {ds : List D}, (∀ d ∈ ds, d.keep = true) → keepL ds = true
  | [], _ => rfl
  | d :: ds, h => by show (d.keep && keepL ds) = true; rw [h d List.mem_cons_self, keepL_of' fun e m => h e (List.mem_cons_of_mem _ m)]; rfl
theorem keep_rowsO (n : Nat) (F : Mx) : keepL (rowsO n F) = true := keepL_of' fun d m => by
  obtain ⟨i, _, rfl⟩ := List.mem_map.mp m
  show keepL (rowO n (F i)) = true
  rw [rowO_ints]; exact keep_rowO _
theorem keep_ownT (n : Nat) (F : Mx) : (ownT n F).keep = true := keep_rowsO n F
section
variable {call : Nat → List D → M D} {env : Env} {st : Store} {a b : E} {v n i j : Nat} {F : Mx}
theorem bw_rowsO_at (h : i < n) : (bwL (rowsO n F))[i]? = some (.lst .bor (rowO n (F i))) := by
  rw [bwL_map, List.getElem?_map, rowsO_at h]
  show some (D.lst .bor (bwL (rowO n (F i)))) = _
  rw [bw_rowO]
theorem e_own (h : env[v]? = some (some (ownT n F))) : ev call (.var v) env st = .ok (.lst .bor (bwL (rowsO n F))) st := e_var h rfl
theorem e_ownRow (h : env[v]? = some (some (ownT n F))) (hi : i < n) (ha : ev call a env st = .ok (.int (i : Int)) st) : ev call (.ix (.var v) a) env st = .ok (.lst .bor (rowO n (F i))) st := e_ix (e_own h) ha (ix_lst (at_nat (bw_rowsO_at hi)))
theorem e_ownAt (h : env[v]? = some (some (ownT n F))) (hi : i < n) (hj : j < n) (ha : ev call a env st = .ok (.int (i : Int)) st) (hb : ev call b env st = .ok (.int (j : Int)) st) : ev call (.ix (.ix (.var v) a) b) env st = .ok (.int (F i j)) st := e_ix (e_ownRow h hi ha) hb (ix_lst (at_nat (rowO_at hj)))
theorem e_ownLen (h : env[v]? = some (some (ownT n F))) : ev call (.bi .len (.cons (.var v) .nil)) env st = .ok (.int (n : Int)) st := by
  refine e_bi (es_cons (e_own h) es_nil) ?_
  show some (D.int ((bwL (rowsO n F)).length : Nat)) = _
  rw [bwL_map, List.length_map, rowsO_len]
theorem ixN_nat {n i : Nat} (h : i < n) : ixN n (i : Int) = some i := by
  unfold ixN
  simp [h]
end
end PL
namespace PL
open PySem
open L2 (atI ixN)
def dA (i j : Nat) : E := .ix (.ix (.var 1) (.var i)) (.var j)
def dIn : Sts := .cons (.setIx2 1 (.var 7) (.var 5) (.bin .fdiv (.bin .sub (.bin .mul (dA 7 5) (dA 4 4)) (.bin .mul (dA 7 4) (dA 4 5))) (.var 3))) .nil
def dLen : E := .bi .len (.cons (.var 1) .nil)
def dJ : St := .for_ [5] false (.r2 (.bin .add (.var 4) (.int 1)) dLen) dIn
def dI : St := .for_ [7] false (.r2 (.bin .add (.var 4) (.int 1)) dLen) (.cons dJ .nil)
def dPiv : St := .set 6 (.comp (.var 5) [5] false (.r2 (.var 4) dLen) (.cons (.cmp .ne (dA 5 4) (.int 0)) .nil) [5])
def dZero : St := .ite (.cmp .eq (.bi .len (.cons (.var 6) .nil)) (.int 0)) (.cons (.ret (.int 0)) .nil) .nil
def dSwp : St := .ite (.cmp .ne (.ix (.var 6) (.int 0)) (.var 4)) (.cons (.swap 1 (.var 4) (.ix (.var 6) (.int 0)) (.ix (.var 6) (.int 0)) (.var 4)) (.cons (.set 2 (.bin .sub (.int 0) (.var 2))) .nil)) .nil
def dK : Sts := .cons dPiv (.cons dZero (.cons dSwp (.cons dI (.cons (.set 3 (dA 4 4)) .nil))))
def detFn : Fn := ⟨1, 9,
    .cons (.set 1 (.comp (.bi .list (.cons (.var 8) .nil)) [8] false (.seq (.var 0)) .nil [8]))
    (.cons (.setT [2, 3] (.tup (.cons (.int 1) (.cons (.int 1) .nil))))
    (.cons (.for_ [4] false (.r1 (.bin .sub dLen (.int 1))) dK)
    (.cons (.ret (.ite (.cmp .gt dLen (.int 0)) (.bin .mul (.var 2) (.ix (.ix (.var 1) (.neg (.int 1))) (.neg (.int 1)))) (.int 1)))
    .nil)))⟩
def dE (T : D) (n : Nat) (F : Mx) (s b : Int) (k : Nat) (z5 z6 z7 z8 : Option D) : Env := [some T, some (ownT n F), some (.int s), some (.int b), some (rgE k), z5, z6, z7, z8]
/-- how far the steps are -/
def Pm (k : Nat) (b : Int) (F : Mx) (i j : Nat) : Mx := fun a c => if k < a ∧ k < c ∧ (a < i ∨ a = i ∧ c < j) then (F a c * F k k - F a k * F k c).fdiv b else F a c
theorem pm_old {k i j a c : Nat} {b : Int} {F : Mx} (h : ¬ (k < a ∧ k < c ∧ (a < i ∨ a = i ∧ c < j))) : Pm k b F i j a c = F a c := if_neg h
theorem pm_step {k i j : Nat} {b : Int} {F : Mx} (hi : k < i) (hj : k < j) : updM (Pm k b F i j) i j ((F i j * F k k - F i k * F k j).fdiv b) = Pm k b F i (j + 1) := by
  funext a c
  unfold updM Pm
  by_cases e : a = i ∧ c = j
  · obtain ⟨rfl, rfl⟩ := e
    rw [if_pos ⟨rfl, rfl⟩, if_pos ⟨hi, hj, .inr ⟨rfl, by omega⟩⟩]
  · rw [if_neg e]
    by_cases h : k < a ∧ k < c ∧ (a < i ∨ a = i ∧ c < j)
    · rw [if_pos h, if_pos ⟨h.1, h.2.1, by omega⟩]
    · rw [if_neg h, if_neg (by omega)]
theorem pm_start {k : Nat} {b : Int} {F : Mx} : Pm k b F (k + 1) (k + 1) = F := by
  funext a c
  unfold Pm
  rw [if_neg (by omega)]
theorem rowsO_congr {n : Nat} {F G : Mx} (h : ∀ a, a < n → ∀ c, c < n → F a c = G a c) : rowsO n F = rowsO n G := by
  unfold rowsO rowO
  refine List.map_congr_left fun a ha => ?_
  congr 1
  refine List.map_congr_left fun c hc => ?_
  rw [h a (List.mem_range.mp ha) c (List.mem_range.mp hc)]
theorem pm_next {n k i : Nat} {b : Int} {F : Mx} : ownT n (Pm k b F i n) = ownT n (Pm k b F (i + 1) (k + 1)) := by
  unfold ownT
  rw [rowsO_congr fun a ha c hc => ?_]
  unfold Pm
  by_cases h : k < a ∧ k < c ∧ (a < i ∨ a = i ∧ c < n)
  · rw [if_pos h, if_pos ⟨h.1, h.2.1, by omega⟩]
  · rw [if_neg h, if_neg (by omega)]
theorem pm_end {n k j : Nat} {b : Int} {F : Mx} : ownT n (Pm k b F n j) = ownT n (elimF k b F) := by
  unfold ownT
  rw [rowsO_congr fun a ha c hc => ?_]
  unfold Pm elimF
  by_cases h : k < a ∧ k < c
  · rw [if_pos ⟨h.1, h.2, .inl ha⟩, if_pos h]
  · rw [if_neg (by omega), if_neg h]
section
variable {call : Nat → List D → M D} {st : Store} {T : D} {n k i j : Nat} {F : Mx} {s b : Int} {z5 z6 z7 z8 : Option D}
theorem d_len {z4 z5 : Option D} : ev call dLen [some T, some (ownT n F), some (.int s), some (.int b), z4, z5, z6, z7, z8] st = .ok (.int (n : Int)) st := e_ownLen rfl
theorem d_in (hk : k < n) (hki : k < i) (hkj : k < j) (hi : i < n) (hj : j < n) (hb : b ≠ 0) (hb2 : b.natAbs < 2 ^ 64) (hs : ∀ i j, i < n → j < n → (F i j).natAbs < 2 ^ 64) :
    execs call dIn (dE T n (Pm k b F i j) s b k (some (rgE j)) z6 (some (rgE i)) z8) st = .ok (.nx (dE T n (Pm k b F i (j + 1)) s b k (some (rgE j)) z6 (some (rgE i)) z8)) st := by
  have a1 : ev call (dA 7 5) (dE T n (Pm k b F i j) s b k (some (rgE j)) z6 (some (rgE i)) z8) st = .ok (.int (F i j)) st := by
    rw [← pm_old (k := k) (i := i) (j := j) (b := b) (a := i) (c := j) (F := F) (by omega)]
    exact e_ownAt rfl hi hj (e_vJ rfl) (e_vJ rfl)
  have a2 : ev call (dA 4 4) (dE T n (Pm k b F i j) s b k (some (rgE j)) z6 (some (rgE i)) z8) st = .ok (.int (F k k)) st := by
    rw [← pm_old (k := k) (i := i) (j := j) (b := b) (a := k) (c := k) (F := F) (by omega)]
    exact e_ownAt rfl hk hk (e_vJ rfl) (e_vJ rfl)
  have a3 : ev call (dA 7 4) (dE T n (Pm k b F i j) s b k (some (rgE j)) z6 (some (rgE i)) z8) st = .ok (.int (F i k)) st := by
    rw [← pm_old (k := k) (i := i) (j := j) (b := b) (a := i) (c := k) (F := F) (by omega)]
    exact e_ownAt rfl hi hk (e_vJ rfl) (e_vJ rfl)
  have a4 : ev call (dA 4 5) (dE T n (Pm k b F i j) s b k (some (rgE j)) z6 (some (rgE i)) z8) st = .ok (.int (F k j)) st := by
    rw [← pm_old (k := k) (i := i) (j := j) (b := b) (a := k) (c := j) (F := F) (by omega)]
    exact e_ownAt rfl hk hj (e_vJ rfl) (e_vJ rfl)
  have q := x_setIx2 (call := call) (env := dE T n (Pm k b F i j) s b k (some (rgE j)) z6 (some (rgE i)) z8) (st := st) (i := 1) (ix := .var 7) (jx := .var 5) (x := .int ((F i j * F k k - F i k * F k j).fdiv b)) rfl
    (e_bin (e_bin (e_bin a1 a2 (bin_mul (mulOk_l (hs i j hi hj)))) (e_bin a3 a4 (bin_mul (mulOk_l (hs i k hi hk)))) bin_sub) (e_vI (i := 3) rfl) (bin_fdiv (divOk_of hb hb2)))
    (e_vJ (j := i) rfl) (by rw [rowsO_len]; exact ixN_nat hi) (rowsO_at hi) (e_vJ (j := j) rfl) (by rw [rowO_len]; exact ixN_nat hj) rfl
  rw [rowsO_set hi hj, pm_step hki hkj] at q
  exact s_cons q s_nil
theorem d_j (hk : k < n) (hki : k < i) (hi : i < n) (hn : n ≤ 1000) (hb : b ≠ 0) (hb2 : b.natAbs < 2 ^ 64) (hs : ∀ i j, i < n → j < n → (F i j).natAbs < 2 ^ 64) :
    ∃ z5', exec call dJ (dE T n (Pm k b F i (k + 1)) s b k z5 z6 (some (rgE i)) z8) st = .ok (.nx (dE T n (Pm k b F (i + 1) (k + 1)) s b k z5' z6 (some (rgE i)) z8)) st := by
  have hit : evI call (.r2 (.bin .add (.var 4) (.int 1)) dLen) (dE T n (Pm k b F i (k + 1)) s b k z5 z6 (some (rgE i)) z8) st = .ok ((List.range' (k + 1) (n - (k + 1))).map rgE) st :=
    f_rn2 (e_bin (e_vJ (j := k) rfl) e_int bin_add) d_len (by omega) (by omega)
  obtain ⟨env', q, z, rfl⟩ := for_N (v := 5) (f := execs call dIn) (st := st) (Inv := fun j env => ∃ z, env = dE T n (Pm k b F i j) s b k z z6 (some (rgE i)) z8) (n - (k + 1)) (k + 1) _ ⟨z5, rfl⟩ fun j env h1 h2 ⟨z, e⟩ => by
    subst e
    exact ⟨_, d_in hk hki (by omega) hi (by omega) hb hb2 hs, some (rgE j), rfl⟩
  refine ⟨z, x_for hit ?_⟩
  rw [q]
  have e : k + 1 + (n - (k + 1)) = n := by omega
  rw [e]
  unfold dE
  rw [pm_next]
theorem d_i (hk : k < n) (hn : n ≤ 1000) (hb : b ≠ 0) (hb2 : b.natAbs < 2 ^ 64) (hs : ∀ i j, i < n → j < n → (F i j).natAbs < 2 ^ 64) :
    ∃ z5' z7', exec call dI (dE T n F s b k z5 z6 z7 z8) st = .ok (.nx (dE T n (elimF k b F) s b k z5' z6 z7' z8)) st := by
  have hit : evI call (.r2 (.bin .add (.var 4) (.int 1)) dLen) (dE T n F s b k z5 z6 z7 z8) st = .ok ((List.range' (k + 1) (n - (k + 1))).map rgE) st :=
    f_rn2 (e_bin (e_vJ (j := k) rfl) e_int bin_add) d_len (by omega) (by omega)
  obtain ⟨env', q, z, w, rfl⟩ := for_N (v := 7) (f := execs call (.cons dJ .nil)) (st := st) (Inv := fun i env => ∃ z w, env = dE T n (Pm k b F i (k + 1)) s b k z z6 w z8) (n - (k + 1)) (k + 1) _ ⟨z5, z7, by rw [pm_start]⟩ fun i env h1 h2 ⟨z, w, e⟩ => by
    subst e
    obtain ⟨z', h⟩ := d_j (call := call) (st := st) (T := T) (z5 := z) (z6 := z6) (z8 := z8) (s := s) hk (by omega : k < i) (by omega) hn hb hb2 hs
    exact ⟨_, s_cons h s_nil, z', some (rgE i), rfl⟩
  refine ⟨z, w, x_for hit ?_⟩
  rw [q]
  have e : k + 1 + (n - (k + 1)) = n := by omega
  rw [e]
  unfold dE
  rw [pm_end]
theorem d_piv (hk : k < n) (hn : n ≤ 1000) : exec call dPiv (dE T n F s b k z5 z6 z7 z8) st = .ok (.nx (dE T n F s b k z5 (some (.lst .own ((pivs n k F).map rgE))) z7 z8)) st := by
  have hit : evI call (.r2 (.var 4) dLen) (dE T n F s b k z5 z6 z7 z8) st = .ok ((List.range' k (n - k)).map rgE) st := f_rn2 (e_vJ rfl) d_len (by omega) (by omega)
  have q := e_comp (call := call) (es := .cons (.cmp .ne (dA 5 4) (.int 0)) .nil) (elt := .var 5) (tg := [5]) (own := [5]) (tup := false) hit (comp_filter (g := rgE) (p := fun j => F j k != 0) (st := st) fun j hj => ?_) ?_
  · refine x_set q (keepL_of' fun d m => ?_)
    obtain ⟨_, _, rfl⟩ := List.mem_map.mp m; rfl
  · rw [List.mem_range'_1] at hj
    have t : ev call (.cmp .ne (dA 5 4) (.int 0)) (dE T n F s b k (some (rgE j)) z6 z7 z8) st = .ok (.bl (!decide (F j k = 0))) st := e_cmp (e_ownAt rfl (by omega) hk (e_vJ rfl) (e_vJ rfl)) e_int cmp_neI
    have e : (F j k != 0) = !decide (F j k = 0) := rfl
    rw [← e] at t
    have bd : bindT [5] false (rgE j) (unset (dE T n F s b k z5 z6 z7 z8) [5]) = some (dE T n F s b k (some (rgE j)) z6 z7 z8) := rfl
    show turnF [5] false [5] _ _ _ _ _ = _
    cases hp : (F j k != 0) with
    | true => rw [hp] at t; exact turn_t bd (ifs_one (e_tst t rfl)) (e_vJ rfl)
    | false => rw [hp] at t; exact turn_f bd (ifs_one (e_tst t rfl))
  · rw [List.length_map]
    refine Nat.le_trans (List.length_filter_le _ _) ?_
    rw [List.length_range']; show n - k ≤ 1000000; omega
theorem bw_rgs (l : List Nat) : bwL (l.map rgE) = l.map rgE := by
  rw [bwL_map, List.map_map]; rfl
/-- one turn of the outer loop -/
theorem d_k {z5 z6 z7 z8 : Option D} (hk : k < n) (hn : n ≤ 1000) (hb : b ≠ 0) (hb2 : b.natAbs < 2 ^ 64) (hs : ∀ i j, i < n → j < n → (F i j).natAbs < 2 ^ 64) :
    match pivs n k F with
    | [] => execs call dK (dE T n F s b k z5 z6 z7 z8) st = .ok (.rt (.int 0)) st
    | p :: _ => let G := if p = k then F else swpF k p F
      ∃ z5' z6' z7', execs call dK (dE T n F s b k z5 z6 z7 z8) st = .ok (.nx (dE T n (elimF k b G) (if p = k then s else 0 - s) (G k k) k z5' z6' z7' z8)) st := by
  have hp := d_piv (call := call) (st := st) (T := T) (F := F) (s := s) (b := b) (z5 := z5) (z6 := z6) (z7 := z7) (z8 := z8) hk hn
  have hz : ∀ z5, ev call (.cmp .eq (.bi .len (.cons (.var 6) .nil)) (.int 0)) (dE T n F s b k z5 (some (.lst .own ((pivs n k F).map rgE))) z7 z8) st = .ok (.bl (decide (((pivs n k F).length : Int) = 0))) st := fun z5 => by
    have v : ev call (.var 6) (dE T n F s b k z5 (some (.lst .own ((pivs n k F).map rgE))) z7 z8) st = .ok (.lst .bor ((pivs n k F).map rgE)) st := e_var rfl (by show D.lst .bor (bwL _) = _; rw [bw_rgs])
    refine e_cmp (e_bi (es_cons v es_nil) bi_len) e_int ?_
    rw [cmp_eqI, List.length_map]
  cases hl : pivs n k F with
  | nil =>
    have hz' := hz z5
    rw [hl] at hz' hp
    exact s_cons hp (s_rt (x_iteT (e_tst hz' rfl) (s_rt (x_ret e_int rfl))))
  | cons p l =>
    obtain ⟨p1, p2, p3⟩ := piv_some hl
    have hz' := hz z5
    rw [hl] at hz' hp
    have f0 : decide ((((p :: l).length : Nat) : Int) = 0) = false := decide_eq_false (by rw [List.length_cons]; omega)
    rw [f0] at hz'
    have v6 : ∀ (F : Mx) (s : Int) (z5 : Option D), ev call (.ix (.var 6) (.int 0)) (dE T n F s b k z5 (some (.lst .own ((p :: l).map rgE))) z7 z8) st = .ok (.int (p : Int)) st := fun F s z5 => by
      have v : ev call (.var 6) (dE T n F s b k z5 (some (.lst .own ((p :: l).map rgE))) z7 z8) st = .ok (.lst .bor ((p :: l).map rgE)) st := e_var rfl (by show D.lst .bor (bwL _) = _; rw [bw_rgs])
      exact e_ix v e_int (ix_lst (at_nat (j := 0) rfl))
    have hc : ev call (.cmp .ne (.ix (.var 6) (.int 0)) (.var 4)) (dE T n F s b k z5 (some (.lst .own ((p :: l).map rgE))) z7 z8) st = .ok (.bl (!decide ((p : Int) = k))) st := e_cmp (v6 F s z5) (e_vJ rfl) cmp_neI
    by_cases e : p = k
    · subst e
      rw [decide_eq_true rfl] at hc
      simp only [if_true]
      obtain ⟨z5', z7', hi⟩ := d_i (call := call) (st := st) (T := T) (s := s) (z5 := z5) (z6 := some (.lst .own ((p :: l).map rgE))) (z7 := z7) (z8 := z8) p2 hn hb hb2 hs
      refine ⟨z5', _, z7', s_cons hp (s_cons (x_iteF (e_tst hz' rfl) s_nil) (s_cons (x_iteF (e_tst hc rfl) s_nil) (s_cons hi (s_cons (x_set (x := .int (F p p)) ?_ rfl) s_nil))))⟩
      have : elimF p b F p p = F p p := if_neg (by omega)
      rw [← this]
      exact e_ownAt rfl p2 p2 (e_vJ rfl) (e_vJ rfl)
    · rw [decide_eq_false (by omega)] at hc
      simp only [if_neg e]
      have sw := x_swap (call := call) (st := st) (i := 1) (env := dE T n F s b k z5 (some (.lst .own ((p :: l).map rgE))) z7 z8) (a := .var 4) (b := .ix (.var 6) (.int 0)) (c := .ix (.var 6) (.int 0)) (d := .var 4) (ds := rowsO n F) (ja := k) (jb := p) rfl (v6 F s z5) (by rw [rowsO_len]; exact ixN_nat p2) (rowsO_at p2) (e_vJ (j := k) rfl) (by rw [rowsO_len]; exact ixN_nat hk) (rowsO_at hk)
        (e_vJ (j := k) rfl) (by rw [rowsO_len]; exact ixN_nat hk) (by
          have v : ev call (.var 6) ((dE T n F s b k z5 (some (.lst .own ((p :: l).map rgE))) z7 z8).set 1 (some (.lst .own ((rowsO n F).set k (.lst .own (rowO n (F p))))))) st = .ok (.lst .bor ((p :: l).map rgE)) st := e_var rfl (by show D.lst .bor (bwL _) = _; rw [bw_rgs])
          exact e_ix v e_int (ix_lst (at_nat (j := 0) rfl))) (by rw [rowsO_len]; exact ixN_nat p2)
      rw [rowsO_swp hk p2] at sw
      have hs' : ∀ i j, i < n → j < n → (swpF k p F i j).natAbs < 2 ^ 64 := fun i j hi hj => by
        unfold swpF
        split
        · exact hs p j p2 hj
        · split
          · exact hs k j hk hj
          · exact hs i j hi hj
      obtain ⟨z5', z7', hi⟩ := d_i (call := call) (st := st) (T := T) (s := 0 - s) (z5 := z5) (z6 := some (.lst .own ((p :: l).map rgE))) (z7 := z7) (z8 := z8) hk hn hb hb2 hs'
      refine ⟨z5', _, z7', s_cons hp (s_cons (x_iteF (e_tst hz' rfl) s_nil) (s_cons (x_iteT (e_tst hc rfl) (s_cons sw (s_cons (x_set (x := .int (0 - s)) (e_bin e_int (e_vI rfl) bin_sub) rfl) s_nil))) (s_cons hi (s_cons (x_set (x := .int (swpF k p F k k)) ?_ rfl) s_nil))))⟩
      have : elimF k b (swpF k p F) k k = swpF k p F k k := if_neg (by omega)
      rw [← this]
      exact e_ownAt rfl hk hk (e_vJ rfl) (e_vJ rfl)
end
end PL
namespace PL
open PySem
open L2 (atI ixN)
section
variable {call : Nat → List D → M D} {st : Store} {T : D} {n : Nat}
def dZ (T : D) (n : Nat) (F : Mx) (s b : Int) (z4 z5 z6 z7 z8 : Option D) : Env := [some T, some (ownT n F), some (.int s), some (.int b), z4, z5, z6, z7, z8]
theorem d_loop (hn : n ≤ 1000) : ∀ (m k : Nat) (F : Mx) (s b : Int) (z4 z5 z6 z7 z8 : Option D), k + m < n → s.natAbs ≤ 1 → BarOk n m k F b →
    (∃ F' s' b' z4' z5' z6' z7', s'.natAbs ≤ 1 ∧ forM [4] false (execs call dK) ((List.range' k m).map rgE) (dZ T n F s b z4 z5 z6 z7 z8) st = .ok (.nx (dZ T n F' s' b' z4' z5' z6' z7' z8)) st ∧ bar n m k F s b = s' * F' (n - 1) (n - 1)) ∨
    (forM [4] false (execs call dK) ((List.range' k m).map rgE) (dZ T n F s b z4 z5 z6 z7 z8) st = .ok (.rt (.int 0)) st ∧ bar n m k F s b = 0)
  | 0, k, F, s, b, z4, z5, z6, z7, z8, h, hs, hB => .inl ⟨F, s, b, z4, z5, z6, z7, hs, for_nil, rfl⟩
  | m + 1, k, F, s, b, z4, z5, z6, z7, z8, h, hs, hB => by
    rw [List.range'_succ, List.map_cons]
    unfold BarOk at hB
    obtain ⟨hb, hb2, hsm, hB⟩ := hB
    have q := d_k (call := call) (st := st) (T := T) (s := s) (z5 := z5) (z6 := z6) (z7 := z7) (z8 := z8) (by omega : k < n) hn hb hb2 hsm
    have ee : (dZ T n F s b z4 z5 z6 z7 z8).set 4 (some (rgE k)) = dE T n F s b k z5 z6 z7 z8 := rfl
    cases hp : pivs n k F with
    | nil =>
      rw [hp] at q
      refine .inr ⟨for_rt rfl q, ?_⟩
      unfold bar; rw [hp]
    | cons p l =>
      rw [hp] at q hB
      obtain ⟨z5', z6', z7', q⟩ := q
      have hs' : (if p = k then s else 0 - s).natAbs ≤ 1 := by split <;> omega
      have eb : bar n (m + 1) k F s b = bar n m (k + 1) (elimF k b (if p = k then F else swpF k p F)) (if p = k then s else 0 - s) ((if p = k then F else swpF k p F) k k) := by
        conv => lhs; unfold bar
        rw [hp]
      rcases d_loop hn m (k + 1) (elimF k b (if p = k then F else swpF k p F)) (if p = k then s else 0 - s) ((if p = k then F else swpF k p F) k k) (some (rgE k)) z5' z6' z7' z8 (by omega) hs' hB with ⟨F', s', b', w4, w5, w6, w7, h1, h2, h3⟩ | ⟨h2, h3⟩
      · exact .inl ⟨F', s', b', w4, w5, w6, w7, h1, for_nx rfl q h2, by rw [eb]; exact h3⟩
      · exact .inr ⟨for_nx rfl q h2, by rw [eb]; exact h3⟩
end
theorem own_of_mat (n : Nat) (F : Mx) : ((mat n n F).map fun r => D.lst .own (r.map D.int)) = rowsO n F := by
  unfold mat rowsO rowO
  rw [List.map_map]
  refine List.map_congr_left fun i _ => ?_
  show D.lst .own (((List.range n).map fun j => F i j).map D.int) = _
  rw [List.map_map]; rfl
section
variable {fs : List Fn} {f k : Nat} {st : Store}
theorem bar_run (hf : fs[f]? = some detFn) {n : Nat} {F : Mx} (hn0 : 0 < n) (hn : n ≤ 1000) (hB : BarOk n (n - 1) 0 F 1) : callK fs (k + 1) f [tabD (mat n n F)] st = .ok (.int (bar n (n - 1) 0 F 1 1)) st := by
  have sh := shp_mat n n F
  refine c_run hf (run_pl (pl1 (pl_tab _)) rfl ?_ rfl)
  have h1 : ev (callK fs k) (.comp (.bi .list (.cons (.var 8) .nil)) [8] false (.seq (.var 0)) .nil [8]) ([some (tabD (mat n n F))] ++ List.replicate 8 none) st = .ok (ownT n F) st := by
    have q := c_map (call := callK fs k) (env := [some (tabD (mat n n F))] ++ List.replicate 8 none) (st := st) (xs := mat n n F) (enc := rowD) (it := .seq (.var 0)) (body := .bi .list (.cons (.var 8) .nil)) (v := 8) (vs := [8]) (g := fun r => D.lst .own (r.map D.int)) (i_tab (e_vTab rfl)) (by rw [sh.1]; show n ≤ 1000000; omega) fun r _ => by
      refine e_bi (es_cons (e_vRow rfl) es_nil) ?_
      show some (D.lst .own (bwL (r.map D.int))) = _
      rw [bwL_ints]
    rw [own_of_mat] at q
    exact q
  have loop := d_loop (call := callK fs k) (st := st) (T := tabD (mat n n F)) hn (n - 1) 0 F 1 1 none none none none none (by omega) (by decide) hB
  have len : ∀ (F : Mx) (s b : Int) (z4 z5 z6 z7 z8 : Option D), ev (callK fs k) dLen (dZ (tabD (mat n n F)) n F s b z4 z5 z6 z7 z8) st = .ok (.int (n : Int)) st := fun F s b z4 z5 z6 z7 z8 => e_ownLen rfl
  have hit : evI (callK fs k) (.r1 (.bin .sub dLen (.int 1))) (dZ (tabD (mat n n F)) n F 1 1 none none none none none) st = .ok ((List.range' 0 (n - 1)).map rgE) st := by
    refine f_rn1 (n := n - 1) ?_ (by omega)
    have := e_bin (len F 1 1 none none none none none) (e_int (n := 1)) bin_sub
    rw [show ((n : Int) - 1) = ((n - 1 : Nat) : Int) by omega] at this
    exact this
  refine s_cons (env' := [some (tabD (mat n n F)), some (ownT n F), none, none, none, none, none, none, none]) (x_set h1 (keep_ownT n F)) ?_
  refine s_cons (env' := dZ (tabD (mat n n F)) n F 1 1 none none none none none) (x_setT (ds := [.int 1, .int 1]) (e_tup (es_cons e_int (es_cons e_int es_nil))) rfl rfl) ?_
  rcases loop with ⟨F', s', b', w4, w5, w6, w7, h1, h2, h3⟩ | ⟨h2, h3⟩
  · refine s_cons (x_for hit h2) (s_rt (x_ret (x := .int (bar n (n - 1) 0 F 1 1)) ?_ rfl))
    rw [h3]
    have gl : ev (callK fs k) (.cmp .gt dLen (.int 0)) (dZ (tabD (mat n n F)) n F' s' b' w4 w5 w6 w7 none) st = .ok (.bl true) st := by
      have := e_cmp (o := .gt) (call := callK fs k) (env := dZ (tabD (mat n n F)) n F' s' b' w4 w5 w6 w7 none) (st := st) (a := dLen) (b := .int 0) (e_ownLen (n := n) (F := F') rfl) e_int cmp_gtI
      rw [decide_eq_true (by omega)] at this
      exact this
    have ix1 : ixN n (-1) = some (n - 1) := by
      unfold ixN
      rw [if_neg (by decide), if_pos (by omega)]
      congr 1; omega
    have lst : ev (callK fs k) (.ix (.ix (.var 1) (.neg (.int 1))) (.neg (.int 1))) (dZ (tabD (mat n n F)) n F' s' b' w4 w5 w6 w7 none) st = .ok (.int (F' (n - 1) (n - 1))) st := by
      refine e_ix (x := .lst .bor (rowO n (F' (n - 1)))) (e_ix (e_own (n := n) (F := F') rfl) (e_neg e_int) (ix_lst ?_)) (e_neg e_int) (ix_lst ?_)
      · unfold atI
        rw [bwL_length, rowsO_len, ix1]
        exact bw_rowsO_at (by omega)
      · unfold atI
        rw [rowO_len, ix1]
        exact rowO_at (by omega)
    exact e_iteT (e_tst gl rfl) (e_bin (e_vI rfl) lst (bin_mul (mulOk_l (by omega))))
  · rw [h3]
    exact s_rt (x_for hit h2)
/-- THE RULE of a determinant of up to four rows -/
theorem det_ok (hf : fs[f]? = some detFn) {n : Nat} {F : Mx} (hn0 : 0 < n) (hn : n ≤ 4) (h : SmF n SB F) : callK fs (k + 1) f [tabD (mat n n F)] st = .ok (.int (dtF n F)) st := by
  obtain ⟨h1, h2⟩ := bar_ok hn hn0 h
  rw [← h1]
  exact bar_run hf hn0 (by omega) h2
theorem det_tab (hf : fs[f]? = some detFn) {n : Nat} {t : List (List Int)} (s : Shp t n n) (hn0 : 0 < n) (hn : n ≤ 4) (h : SmF n SB (at2 t)) : callK fs (k + 1) f [tabD t] st = .ok (.int (dtF n (at2 t))) st := by
  have q := det_ok (k := k) (st := st) hf hn0 hn h
  rw [← mat_of s] at q
  exact q
end
end PL
namespace PL
open PySem
open L2 (atI ixN)
/-! ### slices -/
theorem sIx_none0 {n : Nat} : HT.sIx n 0 none = 0 := rfl
theorem sIx_noneN {n : Nat} : HT.sIx n n none = n := rfl
theorem sIx_nat {n d j : Nat} : HT.sIx n d (some (j : Int)) = min j n := by
  unfold HT.sIx
  simp
  intro h; omega
theorem cut_to {ds : List D} {j : Nat} (h : j ≤ ds.length) : cutD ds none (some (j : Int)) = ds.take j := by
  unfold cutD
  rw [sIx_none0, sIx_nat, List.drop_zero, Nat.sub_zero, Nat.min_eq_left h]
theorem cut_from {ds : List D} {j : Nat} : cutD ds (some (j : Int)) none = ds.drop j := by
  unfold cutD
  rw [sIx_nat, sIx_noneN]
  by_cases h : j ≤ ds.length
  · rw [Nat.min_eq_left h, List.take_of_length_le (by rw [List.length_drop]; exact Nat.le_refl _)]
  · rw [Nat.min_eq_right (by omega), List.drop_eq_nil_of_le (Nat.le_refl _), List.drop_eq_nil_of_le (by omega), List.take_nil]
section
variable {call : Nat → List D → M D} {env : Env} {st : Store} {a b : E}
theorem e_slTo {ds : List D} {j : Nat} (ha : ev call a env st = .ok (.tup ds) st) (hb : ev call b env st = .ok (.int (j : Int)) st) (h : j ≤ ds.length) : ev call (.sl a .none (.some b)) env st = .ok (.tup ((bwL ds).take j)) st := by
  refine e_sl ha o_none (o_some hb) ?_
  show some (D.tup (cutD (bwL ds) none (some (j : Int)))) = _
  rw [cut_to (by rw [bwL_length]; exact h)]
theorem e_slFrom {ds : List D} {j : Nat} (ha : ev call a env st = .ok (.tup ds) st) (hb : ev call b env st = .ok (.int (j : Int)) st) : ev call (.sl a (.some b) .none) env st = .ok (.tup ((bwL ds).drop j)) st := by
  refine e_sl ha (o_some hb) o_none ?_
  show some (D.tup (cutD (bwL ds) (some (j : Int)) none)) = _
  rw [cut_from]
theorem e_slFromL {m : Md} {ds : List D} {j : Nat} (ha : ev call a env st = .ok (.lst m ds) st) (hb : ev call b env st = .ok (.int (j : Int)) st) : ev call (.sl a (.some b) .none) env st = .ok (.lst .own ((bwL ds).drop j)) st := by
  refine e_sl ha (o_some hb) o_none ?_
  show some (D.lst .own (cutD (bwL ds) (some (j : Int)) none)) = _
  rw [cut_from]
theorem bi_tupT {ds : List D} : biD .tuple [.tup ds] = some (.tup ds) := rfl
theorem bin_addT {xs ys : List D} (h : xs.length + ys.length ≤ LIM) : binD .add (.tup xs) (.tup ys) = some (.tup (xs ++ ys)) := by simp only [binD, h, if_true]
/-- tuple(row[:j]) + tuple(row[j + 1:]) -/
theorem e_rest {v w : Nat} {r : List Int} {j : Nat} (hv : env[v]? = some (some (rowD r))) (hw : env[w]? = some (some (rgE j))) (hj : j ≤ r.length) (hr : r.length ≤ 1000) :
    ev call (.bin .add (.bi .tuple (.cons (.sl (.var v) .none (.some (.var w))) .nil)) (.bi .tuple (.cons (.sl (.var v) (.some (.bin .add (.var w) (.int 1))) .none) .nil))) env st = .ok (rowD (r.take j ++ r.drop (j + 1))) st := by
  have l := e_slTo (call := call) (env := env) (st := st) (a := .var v) (b := .var w) (e_vRow hv) (e_vJ hw) (by rw [List.length_map]; exact hj)
  have l2 := e_slFrom (call := call) (env := env) (st := st) (a := .var v) (b := .bin .add (.var w) (.int 1)) (j := j + 1) (e_vRow hv) (e_bin (e_vJ hw) e_int bin_add)
  rw [bwL_ints] at l l2
  have e : rowD (r.take j ++ r.drop (j + 1)) = .tup ((r.map D.int).take j ++ (r.map D.int).drop (j + 1)) := by
    unfold rowD
    rw [List.map_append, List.map_take, List.map_drop]
  rw [e]
  refine e_bin (e_bi (es_cons l es_nil) bi_tupT) (e_bi (es_cons l2 es_nil) bi_tupT) (bin_addT ?_)
  show _ ≤ 1000000
  rw [List.length_take, List.length_drop, List.length_map]
  omega
end
/-! ### a row, a column taken out -/
def skp (j b : Nat) : Nat := if b < j then b else b + 1
theorem take_drop_range {α : Type} {n j : Nat} {f : Nat → α} (h : j ≤ n) : ((List.range (n + 1)).map f).take j ++ ((List.range (n + 1)).map f).drop (j + 1) = (List.range n).map fun b => f (skp j b) := by
  apply List.ext_getElem?
  intro i
  by_cases hi : i < j
  · rw [List.getElem?_append_left (by rw [List.length_take, List.length_map, List.length_range]; omega), List.getElem?_take_of_lt hi, List.getElem?_map, List.getElem?_map, List.getElem?_range (by omega), List.getElem?_range (by omega)]
    show some (f i) = some (f (skp j i))
    unfold skp; rw [if_pos hi]
  · rw [List.getElem?_append_right (by rw [List.length_take, List.length_map, List.length_range]; omega), List.length_take, List.length_map, List.length_range, List.getElem?_drop, List.getElem?_map, List.getElem?_map]
    by_cases h2 : i < n
    · rw [show j + 1 + (i - min j (n + 1)) = i + 1 by omega, List.getElem?_range (by omega), List.getElem?_range h2]
      show some (f (i + 1)) = some (f (skp j i))
      unfold skp; rw [if_neg hi]
    · rw [List.getElem?_eq_none (by rw [List.length_range]; omega), List.getElem?_eq_none (by rw [List.length_range]; omega)]; rfl
def sgn (j : Nat) : Int := if j % 2 = 0 then 1 else -1
/-- the first row and a column taken out -/
def lapF (j : Nat) (F : Mx) : Mx := fun a b => F (a + 1) (skp j b)
theorem dt_lap {n : Nat} {F : Mx} (h : n < 4) : dtF (n + 1) F = sumN (n + 1) fun j => F 0 j * sgn j * dtF n (lapF j F) := by
  rcases (show n = 0 ∨ n = 1 ∨ n = 2 ∨ n = 3 by omega) with rfl | rfl | rfl | rfl
  · simp [dtF, sumN, sgn]
  · simp [dtF, sumN, sgn, lapF, skp, List.range_succ]; try grind
  · simp [dtF, sumN, sgn, lapF, skp, List.range_succ, d3]; try grind
  · simp [dtF, sumN, sgn, lapF, skp, List.range_succ, d4]; try grind
theorem sumN_succ (n : Nat) (F : Nat → Int) : sumN (n + 1) F = sumN n F + F n := by
  unfold sumN
  rw [List.range_succ, List.map_append, List.sum_append]
  simp
theorem sumN_zero (F : Nat → Int) : sumN 0 F = 0 := rfl
end PL
namespace PL
open PySem
open L2 (atI ixN)
/-! ### _law_det -/
def lstT (t : List (List Int)) : D := .lst .fro (t.map rowD)
theorem pl_lstT (t : List (List Int)) : Pl (lstT t) := pl_fro _
def ldSgn (v : Nat) : E := .ix (.lst (.cons (.int 1) (.cons (.neg (.int 1)) .nil))) (.bin .mod (.bi .int (.cons (.var v) .nil)) (.int 2))
def ldRest : E := .comp (.bin .add (.bi .tuple (.cons (.sl (.var 4) .none (.some (.var 2))) .nil)) (.bi .tuple (.cons (.sl (.var 4) (.some (.bin .add (.var 2) (.int 1))) .none) .nil))) [4] false (.seq (.sl (.var 0) (.some (.int 1)) .none)) .nil [4]
def ldBody (f : Nat) : Sts := .cons (.ite (.cmp .ne (.ix (.ix (.var 0) (.int 0)) (.var 2)) (.int 0)) (.cons (.set 3 ldRest)
    (.frz 3 (.cons (.set 1 (.bin .add (.var 1) (.bin .mul (.bin .mul (.ix (.ix (.var 0) (.int 0)) (.var 2)) (ldSgn 2)) (.call f (.cons (.var 3) .nil)))))
    .nil))) .nil) .nil
def ldFn (f : Nat) : Fn := ⟨1, 5,
    (.cons (.ite (.cmp .eq (.bi .len (.cons (.var 0) .nil)) (.int 0)) (.cons (.ret (.int 1)) .nil) .nil)
    (.cons (.set 1 (.int 0))
    (.cons (.for_ [2] false (.r1 (.bi .len (.cons (.var 0) .nil))) (ldBody f))
    (.cons (.retV 1)
    .nil))))⟩
theorem e_sgn {call : Nat → List D → M D} {env : Env} {st : Store} {v j : Nat} (h : env[v]? = some (some (rgE j))) : ev call (ldSgn v) env st = .ok (.int (sgn j)) st := by
  refine e_ix (e_lst (es_cons e_int (es_cons (e_neg e_int) es_nil))) (e_bin (e_bi (es_cons (e_vJ h) es_nil) bi_int) e_int (bin_mod (by decide))) ?_
  rw [show ((2 : Int)) = ((2 : Nat) : Int) from rfl, fmod_nat]
  unfold sgn
  rcases (show j % 2 = 0 ∨ j % 2 = 1 by omega) with h | h
  · rw [h]; rfl
  · rw [h]; rfl
theorem sgn_abs (a : Int) (j : Nat) : (a * sgn j).natAbs = a.natAbs := by
  unfold sgn
  split
  · rw [Int.mul_one]
  · rw [Int.mul_neg, Int.mul_one, Int.natAbs_neg]
/-- rows held by a tuple or by a frozen list -/
inductive Rws (t : List (List Int)) : D → Prop
  | tup : Rws t (tabD t)
  | lst : Rws t (lstT t)
section
variable {t : List (List Int)} {x : D}
theorem Rws.pl (h : Rws t x) : Pl x := by
  cases h
  · exact pl_tab t
  · exact pl_lstT t
theorem Rws.len (h : Rws t x) : biD .len [x] = some (.int (t.length : Nat)) := by
  cases h
  · exact len_tab t
  · show some (D.int ((t.map rowD).length : Nat)) = _; rw [List.length_map]
theorem Rws.ix {st : Store} {i : Nat} {r : List Int} (h : Rws t x) (hi : t[i]? = some r) : ixD st x (.int (i : Int)) = some (rowD r) := by
  cases h
  · exact ix_tab hi
  · exact ix_lst (at_nat (by rw [List.getElem?_map, hi]; rfl))
theorem Rws.tail {call : Nat → List D → M D} {env : Env} {st : Store} {v : Nat} (h : Rws t x) (hv : env[v]? = some (some x)) : evI call (.seq (.sl (.var v) (.some (.int 1)) .none)) env st = .ok ((t.drop 1).map rowD) st := by
  cases h
  · have := e_slFrom (call := call) (env := env) (st := st) (a := .var v) (b := .int 1) (j := 1) (e_vTab hv) e_int
    rw [bwL_rows] at this
    refine i_seq this ?_
    show some (bwL _) = _
    rw [← List.map_drop, bwL_rows]
  · have := e_slFromL (call := call) (env := env) (st := st) (a := .var v) (b := .int 1) (j := 1) (e_vF hv) e_int
    rw [bwL_rows] at this
    refine i_seq this ?_
    show some (bwL _) = _
    rw [← List.map_drop, bwL_rows]
end
theorem mat_drop {n m : Nat} {F : Mx} : (mat (n + 1) m F).drop 1 = (List.range n).map fun a => (List.range m).map (F (a + 1)) := by
  unfold mat
  rw [List.range_succ_eq_map, List.map_cons, List.drop_one, List.tail_cons, List.map_map]; rfl
theorem mat_at {n m i : Nat} {F : Mx} (h : i < n) : (mat n m F)[i]? = some ((List.range m).map (F i)) := by
  unfold mat
  rw [List.getElem?_map, List.getElem?_range h]; rfl
theorem map_range_at {α : Type} {n i : Nat} {f : Nat → α} (h : i < n) : ((List.range n).map f)[i]? = some (f i) := by
  rw [List.getElem?_map, List.getElem?_range h]; rfl
theorem frz_rows (t : List (List Int)) : (D.lst .own (t.map rowD)).frz = lstT t := by
  show D.lst .fro (frzL _) = _
  rw [frzL_id (pl_tab t).no (pl_tab t).kp]; rfl
theorem keep_rows {t : List (List Int)} : (D.lst .own (t.map rowD)).keep = true := (pl_tab t).kp
theorem lap_lt {n j : Nat} {F : Mx} {B : Nat} (h : ∀ a b, a < n + 1 → b < n + 1 → (F a b).natAbs < B) : ∀ a b, a < n → b < n → (lapF j F a b).natAbs < B := fun a b ha hb => by
  unfold lapF skp
  exact h _ _ (by omega) (by split <;> omega)
section
variable {fs : List Fn} {f : Nat} {st : Store}
theorem ld_rest {call : Nat → List D → M D} {n j : Nat} {F : Mx} {x : D} {z1 z3 z4 : Option D} (hx : Rws (mat (n + 1) (n + 1) F) x) (hj : j < n + 1) (hn : n < 1000) :
    ev call ldRest [some x, z1, some (rgE j), z3, z4] st = .ok (.lst .own ((mat n n (lapF j F)).map rowD)) st := by
  have hit : evI call (.seq (.sl (.var 0) (.some (.int 1)) .none)) [some x, z1, some (rgE j), z3, z4] st = .ok ((List.range n).map fun a => rowD ((List.range (n + 1)).map (F (a + 1)))) st := by
    have := hx.tail (call := call) (env := [some x, z1, some (rgE j), z3, z4]) (st := st) (v := 0) rfl
    rw [mat_drop, List.map_map] at this
    exact this
  have q := c_map (call := call) (body := .bin .add (.bi .tuple (.cons (.sl (.var 4) .none (.some (.var 2))) .nil)) (.bi .tuple (.cons (.sl (.var 4) (.some (.bin .add (.var 2) (.int 1))) .none) .nil))) (v := 4) (vs := [4]) (g := fun a => rowD ((List.range n).map fun b => lapF j F a b)) hit (by rw [List.length_range]; show n ≤ 1000000; omega) fun a _ => by
    have := e_rest (call := call) (env := [some x, z1, some (rgE j), z3, some (rowD ((List.range (n + 1)).map (F (a + 1))))]) (st := st) (v := 4) (w := 2) (j := j) rfl rfl (by rw [List.length_map, List.length_range]; omega) (by rw [List.length_map, List.length_range]; omega)
    rw [take_drop_range (by omega)] at this
    exact this
  unfold ldRest
  rw [q]
  unfold mat
  rw [List.map_map]; rfl
theorem ld_ok (hf : fs[f]? = some (ldFn f)) : ∀ (n k : Nat) (F : Mx) (x : D) (st : Store), n ≤ 4 → n < k → (∀ a b, a < n → b < n → (F a b).natAbs < 2 ^ 64) → Rws (mat n n F) x → callK fs k f [x] st = .ok (.int (dtF n F)) st
  | 0, k + 1, F, x, st, _, _, _, hx => by
    refine c_run hf (run_pl (pl1 hx.pl) rfl ?_ rfl)
    have l := hx.len
    refine s_rt (x_iteT (e_tst (e_cmp (e_bi (es_cons (e_vP hx.pl rfl) es_nil) l) e_int cmp_eqI) rfl) (s_rt (x_ret (x := .int 1) e_int rfl)))
  | n + 1, 0, F, x, st, _, hk, _, hx => by omega
  | n + 1, k + 1, F, x, st, hn, hk, hB, hx => by
    refine c_run hf (run_pl (pl1 hx.pl) rfl ?_ rfl)
    have l := hx.len
    rw [(shp_mat _ _ _).1] at l
    have c0 : ev (callK fs k) (.cmp .eq (.bi .len (.cons (.var 0) .nil)) (.int 0)) [some x, none, none, none, none] st = .ok (.bl (decide (((n + 1 : Nat) : Int) = 0))) st := e_cmp (e_bi (es_cons (e_vP hx.pl rfl) es_nil) l) e_int cmp_eqI
    rw [decide_eq_false (by omega)] at c0
    have at0 : ∀ (j : Nat) (z1 z3 z4 : Option D), j < n + 1 → ev (callK fs k) (.ix (.ix (.var 0) (.int 0)) (.var 2)) [some x, z1, some (rgE j), z3, z4] st = .ok (.int (F 0 j)) st := fun j z1 z3 z4 hj =>
      e_ixR (e_ix (e_vP hx.pl rfl) e_int (hx.ix (i := 0) (mat_at (by omega)))) (e_vJ rfl) (map_range_at hj)
    have step : ∀ j env, 0 ≤ j → j < 0 + (n + 1) → (∃ z2 z3 z4, env = [some x, some (.int (sumN j fun j => F 0 j * sgn j * dtF n (lapF j F))), z2, z3, z4]) →
        ∃ env', execs (callK fs k) (ldBody f) (env.set 2 (some (rgE j))) st = .ok (.nx env') st ∧ ∃ z2 z3 z4, env' = [some x, some (.int (sumN (j + 1) fun j => F 0 j * sgn j * dtF n (lapF j F))), z2, z3, z4] := by
      rintro j env _ hj ⟨z2, z3, z4, rfl⟩
      have hj' : j < n + 1 := by omega
      have t : ev (callK fs k) (.cmp .ne (.ix (.ix (.var 0) (.int 0)) (.var 2)) (.int 0)) [some x, some (.int (sumN j fun j => F 0 j * sgn j * dtF n (lapF j F))), some (rgE j), z3, z4] st = .ok (.bl (!decide (F 0 j = 0))) st := e_cmp (at0 j _ z3 z4 hj') e_int cmp_neI
      by_cases hz : F 0 j = 0
      · rw [decide_eq_true hz] at t
        refine ⟨[some x, some (.int (sumN j fun j => F 0 j * sgn j * dtF n (lapF j F))), some (rgE j), z3, z4], s_cons (x_iteF (e_tst t rfl) s_nil) s_nil, some (rgE j), z3, z4, ?_⟩
        rw [sumN_succ, hz, Int.zero_mul, Int.zero_mul, Int.add_zero]
      · rw [decide_eq_false hz] at t
        have ih := ld_ok hf n k (lapF j F) (lstT (mat n n (lapF j F))) st (by omega) (by omega) (lap_lt hB) .lst
        refine ⟨[some x, some (.int (sumN (j + 1) fun j => F 0 j * sgn j * dtF n (lapF j F))), some (rgE j), some (lstT (mat n n (lapF j F))), z4], s_cons (x_iteT (e_tst t rfl) ?_) s_nil, some (rgE j), _, z4, rfl⟩
        refine s_cons (x_set (ld_rest hx hj' (by omega)) keep_rows) (s_frz rfl ?_)
        rw [frz_rows]
        refine s_cons (x_set (x := .int (sumN (j + 1) fun j => F 0 j * sgn j * dtF n (lapF j F))) ?_ rfl) s_nil
        rw [sumN_succ]
        have hb := hB 0 j (by omega) hj'
        exact e_bin (e_vI rfl) (e_bin (e_bin (at0 j _ _ _ hj') (e_sgn rfl) (bin_mul (mulOk_l hb))) (e_call (es_cons (e_vP (pl_lstT _) rfl) es_nil) ih) (bin_mul (mulOk_l (by rw [sgn_abs]; exact hb)))) bin_add
    have hit : evI (callK fs k) (.r1 (.bi .len (.cons (.var 0) .nil))) [some x, some (.int 0), none, none, none] st = .ok ((List.range' 0 (n + 1)).map rgE) st := f_rn1 (e_bi (es_cons (e_vP hx.pl rfl) es_nil) l) (by omega)
    obtain ⟨env', q, z2, z3, z4, rfl⟩ := for_N (v := 2) (f := execs (callK fs k) (ldBody f)) (st := st) (Inv := fun j env => ∃ z2 z3 z4, env = [some x, some (.int (sumN j fun j => F 0 j * sgn j * dtF n (lapF j F))), z2, z3, z4]) (n + 1) 0 [some x, some (.int 0), none, none, none] ⟨none, none, none, rfl⟩ step
    refine s_cons (env' := [some x, none, none, none, none]) (x_iteF (e_tst c0 rfl) s_nil) (s_cons (env' := [some x, some (.int 0), none, none, none]) (x_set e_int rfl) (s_cons (x_for hit q) ?_))
    rw [dt_lap (by omega)]
    refine s_rt (x_retV ?_)
    rw [Nat.zero_add]; rfl
end
end PL
namespace PL
open PySem
open L2 (atI ixN)
/-- arguments may be frozen ahead of a call -/
theorem callK_frz {fs : List Fn} {k f : Nat} {ds : List D} {st : Store} (hk : keepL ds = true) : callK fs k f ds st = callK fs k f (frzL ds) st := by
  cases k with
  | zero => rfl
  | succ k =>
    unfold callK
    cases fs[f]? with
    | none => rfl
    | some F =>
      show runF (callK fs k) F ds st = runF (callK fs k) F (frzL ds) st
      have e : frzL (frzL ds) = frzL ds := frzL_id (frzL_noOwn ds) (frzL_keep hk)
      unfold runF startE
      rw [e, frzL_len, hk, frzL_keep hk]
/-! ### loops over lists, by what holds -/
theorem for_LN {α : Type} {v : Nat} {f : Env → M Fl} {st : Store} {enc : α → D} {Inv : List α → Env → Prop} (N : Nat) : ∀ (ys p : List α) (env : Env), p.length + ys.length = N → Inv p env →
    (∀ p' x env, x ∈ ys → p'.length < N → Inv p' env → ∃ env', f (env.set v (some (enc x))) st = .ok (.nx env') st ∧ Inv (p' ++ [x]) env') → ∃ env', forM [v] false f (ys.map enc) env st = .ok (.nx env') st ∧ Inv (p ++ ys) env'
  | [], p, env, _, h0, _ => ⟨env, for_nil, by rw [List.append_nil]; exact h0⟩
  | y :: ys, p, env, hN, h0, h => by
    obtain ⟨env1, q1, i1⟩ := h p y env List.mem_cons_self (by rw [List.length_cons] at hN; omega) h0
    obtain ⟨env2, q2, i2⟩ := for_LN N ys (p ++ [y]) env1 (by rw [List.length_append, List.length_singleton]; rw [List.length_cons] at hN; omega) i1 fun p' x env m => h p' x env (List.mem_cons_of_mem _ m)
    exact ⟨env2, for_nx rfl q1 q2, by rw [List.append_assoc] at i2; exact i2⟩
theorem for_L {α : Type} {v : Nat} {f : Env → M Fl} {st : Store} {enc : α → D} {Inv : List α → Env → Prop} (ys : List α) (env : Env) (h0 : Inv [] env)
    (h : ∀ p x env, x ∈ ys → p.length < ys.length → Inv p env → ∃ env', f (env.set v (some (enc x))) st = .ok (.nx env') st ∧ Inv (p ++ [x]) env') : ∃ env', forM [v] false f (ys.map enc) env st = .ok (.nx env') st ∧ Inv ys env' :=
  for_LN ys.length ys [] env (by simp) h0 h
/-! ### rows of indexes -/
def natD (i : Nat) : D := .int (i : Int)
def rowN (s : List Nat) : D := .tup (s.map rgE)
theorem rowN_row (s : List Nat) : rowN s = rowD (s.map fun (i : Nat) => (i : Int)) := by unfold rowN rowD; rw [List.map_map]; rfl
theorem pl_rowN (s : List Nat) : Pl (rowN s) := by rw [rowN_row]; exact pl_row _
theorem e_vRowN {call : Nat → List D → M D} {env : Env} {st : Store} {i : Nat} {s : List Nat} (h : env[i]? = some (some (rowN s))) : ev call (.var i) env st = .ok (rowN s) st := e_vP (pl_rowN s) h
/-- indexes held by a tuple or by a frozen list -/
inductive Ixs (s : List Nat) : D → Prop
  | tup : Ixs s (rowN s)
  | lst : Ixs s (.lst .fro (s.map rgE))
theorem bwL_rgs (s : List Nat) : bwL (s.map rgE) = s.map rgE := bw_rgs s
theorem Ixs.pl {s : List Nat} {x : D} (h : Ixs s x) : Pl x := by
  cases h
  · exact pl_rowN s
  · exact pl_fro _
theorem Ixs.items {call : Nat → List D → M D} {env : Env} {st : Store} {s : List Nat} {x : D} {v : Nat} (h : Ixs s x) (hv : env[v]? = some (some x)) : evI call (.seq (.var v)) env st = .ok (s.map rgE) st := by
  refine i_seq (e_vP h.pl hv) ?_
  cases h
  · show some (bwL _) = _; rw [bwL_rgs]
  · show some (bwL _) = _; rw [bwL_rgs]
/-- a part of a table -/
def prt (t : List (List Int)) (rs cs : List Nat) : List (List Int) := rs.map fun i => cs.map fun j => at2 t i j
def pick (t : List (List Int)) (rs cs : List Nat) : Mx := fun a b => at2 t (rs.getD a 0) (cs.getD b 0)
def mnV (t : List (List Int)) (rs cs : List Nat) : Int := dtF rs.length (pick t rs cs)
theorem map_getD {α β : Type} (l : List α) (d : α) (f : α → β) : l.map f = (List.range l.length).map fun i => f (l.getD i d) := by
  apply List.ext_getElem?
  intro i
  rw [List.getElem?_map]
  by_cases h : i < l.length
  · rw [map_range_at h, List.getD_eq_getElem?_getD, List.getElem?_eq_getElem h]; rfl
  · rw [List.getElem?_eq_none (by omega), List.getElem?_eq_none (by rw [List.length_map, List.length_range]; omega)]; rfl
theorem prt_mat {t : List (List Int)} {rs cs : List Nat} (h : cs.length = rs.length) : prt t rs cs = mat rs.length rs.length (pick t rs cs) := by
  unfold prt mat
  rw [map_getD rs 0]
  refine List.map_congr_left fun a _ => ?_
  rw [map_getD cs 0, h]; rfl
theorem getD_lt {s : List Nat} {n i : Nat} (h : ∀ j ∈ s, j < n) (hi : i < s.length) : s.getD i 0 < n := by
  rw [List.getD_eq_getElem?_getD, List.getElem?_eq_getElem hi]
  exact h _ (List.getElem_mem hi)
/-- entries of a table are small -/
def Sm2 (t : List (List Int)) (a b B : Nat) : Prop := ∀ i j, i < a → j < b → (at2 t i j).natAbs ≤ B
theorem Sm2.pick {t : List (List Int)} {a b B : Nat} (h : Sm2 t a b B) {rs cs : List Nat} (hr : ∀ i ∈ rs, i < a) (hc : ∀ j ∈ cs, j < b) (hl : cs.length = rs.length) : SmF rs.length B (pick t rs cs) := fun i j hi hj => h _ _ (getD_lt hr hi) (getD_lt hc (by omega))
theorem e_prt {call : Nat → List D → M D} {env : Env} {st : Store} {R C : D} {iv jv rv cv tv : Nat} {t : List (List Int)} {a b : Nat} {rs cs : List Nat} (s : Shp t a b) (hr : ∀ i ∈ rs, i < a) (hc : ∀ j ∈ cs, j < b) (l1 : rs.length ≤ 1000) (l2 : cs.length ≤ 1000)
    (hR : evI call (.seq (.var rv)) env st = .ok (rs.map rgE) st) (hC : ∀ i ∈ rs, evI call (.seq (.var cv)) ((unset env [iv]).set iv (some (rgE i))) st = .ok (cs.map rgE) st)
    (hb : ∀ i ∈ rs, ∀ j ∈ cs, ev call (.ix (.ix (.var tv) (.var iv)) (.var jv)) ((unset ((unset env [iv]).set iv (some (rgE i))) [jv]).set jv (some (rgE j))) st = .ok (.int (at2 t i j)) st) :
    ev call (.comp (.bi .tuple (.cons (.comp (.ix (.ix (.var tv) (.var iv)) (.var jv)) [jv] false (.seq (.var cv)) .nil [jv]) .nil)) [iv] false (.seq (.var rv)) .nil [iv]) env st = .ok (.lst .own ((prt t rs cs).map rowD)) st := by
  have L : LIM = 1000000 := rfl
  have q := c_map (call := call) (body := .bi .tuple (.cons (.comp (.ix (.ix (.var tv) (.var iv)) (.var jv)) [jv] false (.seq (.var cv)) .nil [jv]) .nil)) (v := iv) (vs := [iv]) (g := fun i => rowD (cs.map fun j => at2 t i j)) hR (by omega) fun i hi => t_row (hC i hi) (by omega) fun j hj => hb i hi j hj
  rw [q]
  unfold prt
  rw [List.map_map]; rfl
section
variable {fs : List Fn} {f k p d : Nat} {st : Store} {t : List (List Int)} {a b : Nat} {rs cs : List Nat} {R C : D}
theorem prt_ok (hf : fs[f]? = some partFn) (s : Shp t a b) (hr : ∀ i ∈ rs, i < a) (hc : ∀ j ∈ cs, j < b) (l1 : rs.length ≤ 1000) (l2 : cs.length ≤ 1000) (iR : Ixs rs R) (iC : Ixs cs C) : callK fs (k + 1) f [tabD t, R, C] st = .ok (tabD (prt t rs cs)) st := by
  refine c_run hf (run_pl (pl3 (pl_tab t) iR.pl iC.pl) rfl (s_rt (x_ret (x := tabD (prt t rs cs)) ?_ (pl_tab _).kp)) rfl)
  exact e_bi (es_cons (e_prt (R := R) (C := C) s hr hc l1 l2 (iR.items rfl) (fun i _ => iC.items rfl) fun i hi j hj => e_at2 s (hr i hi) (hc j hj) (e_vTab rfl) (e_vJ rfl) (e_vJ rfl)) es_nil) (tup_rows _)
def minFn (p d : Nat) : Fn := ⟨3, 3,
    (.cons (.ret (.call d (.cons (.call p (.cons (.var 0) (.cons (.var 1) (.cons (.var 2) .nil)))) .nil)))
    .nil)⟩
theorem min_ok (hf : fs[f]? = some (minFn p d)) (hp : fs[p]? = some partFn) (hd : fs[d]? = some detFn) (s : Shp t a b) (sm : Sm2 t a b SB) (hr : ∀ i ∈ rs, i < a) (hc : ∀ j ∈ cs, j < b) (h0 : 0 < rs.length) (h4 : rs.length ≤ 4) (hl : cs.length = rs.length) (iR : Ixs rs R) (iC : Ixs cs C) : callK fs (k + 2) f [tabD t, R, C] st = .ok (.int (mnV t rs cs)) st := by
  refine c_run hf (run_pl (pl3 (pl_tab t) iR.pl iC.pl) rfl (s_rt (x_ret (x := .int (mnV t rs cs)) ?_ rfl)) rfl)
  have h1 := prt_ok (k := k) (st := st) hp s hr hc (by omega) (by omega) iR iC
  have h2 := det_ok (k := k) (st := st) hd h0 h4 (sm.pick hr hc hl)
  rw [← prt_mat hl] at h2
  exact e_call (es_cons (e_call (es_cons (e_vTab rfl) (es_cons (e_vP iR.pl rfl) (es_cons (e_vP iC.pl rfl) es_nil))) h1) es_nil) h2
def lmFn (d : Nat) : Fn := ⟨3, 5,
    (.cons (.ret (.call d (.cons (.comp (.bi .tuple (.cons (.comp (.ix (.ix (.var 0) (.var 3)) (.var 4)) [4] false (.seq (.var 2)) .nil [4]) .nil)) [3] false (.seq (.var 1)) .nil [3]) .nil)))
    .nil)⟩
theorem lm_ok (hf : fs[f]? = some (lmFn d)) (hd : fs[d]? = some (ldFn d)) (s : Shp t a b) (sm : Sm2 t a b SB) (hr : ∀ i ∈ rs, i < a) (hc : ∀ j ∈ cs, j < b) (h4 : rs.length ≤ 4) (hl : cs.length = rs.length) (iR : Ixs rs R) (iC : Ixs cs C) : callK fs (k + 6) f [tabD t, R, C] st = .ok (.int (mnV t rs cs)) st := by
  refine c_run hf (run_pl (pl3 (pl_tab t) iR.pl iC.pl) rfl (s_rt (x_ret (x := .int (mnV t rs cs)) ?_ rfl)) rfl)
  have smp := sm.pick hr hc hl
  have h2 := ld_ok hd rs.length (k + 5) (pick t rs cs) (lstT (prt t rs cs)) st h4 (by omega) (fun i j hi hj => Nat.lt_of_le_of_lt (smp i j hi hj) (by decide)) (by rw [prt_mat hl]; exact .lst)
  refine e_call (es_cons (e_prt (R := R) (C := C) s hr hc (by omega) (by omega) (iR.items rfl) (fun i _ => iC.items rfl) fun i hi j hj => e_at2 s (hr i hi) (hc j hj) (e_vTab rfl) (e_vJ rfl) (e_vJ rfl)) es_nil) ?_
  rw [callK_frz (by show ((D.lst .own ((prt t rs cs).map rowD)).keep && true) = true; rw [keep_rows]; rfl)]
  show callK fs (k + 5) d [(D.lst .own ((prt t rs cs).map rowD)).frz] st = _
  rw [frz_rows]
  exact h2
end
end PL
namespace PL
open PySem
open L2 (atI ixN)
/-! ### sets of indexes -/
def cmb (n r : Nat) : List (List Nat) := (allC n r).getD []
def cmbD (m : Md) (n r : Nat) : D := .lst m ((cmb n r).map rowN)
theorem bwL_rowN (l : List (List Nat)) : bwL (l.map rowN) = l.map rowN := by
  rw [bwL_map, List.map_map]
  exact List.map_congr_left fun s _ => (pl_rowN s).bw
theorem keepL_rowN (l : List (List Nat)) : keepL (l.map rowN) = true := keepL_of' fun d m => by
  obtain ⟨s, _, rfl⟩ := List.mem_map.mp m; exact (pl_rowN s).kp
theorem noOwnL_rowN (l : List (List Nat)) : noOwnL (l.map rowN) = true := noOwnL_of fun d m => by
  obtain ⟨s, _, rfl⟩ := List.mem_map.mp m; exact pl_rowN s
/-- n and r that are looked at -/
def CmOk (n r : Nat) : Prop := 1 ≤ r ∧ r ≤ n ∧ n ≤ 5
theorem cm_cases {n r : Nat} (h : CmOk n r) : (n, r) ∈ [(1, 1), (2, 1), (2, 2), (3, 1), (3, 2), (3, 3), (4, 1), (4, 2), (4, 3), (4, 4), (5, 1), (5, 2), (5, 3), (5, 4), (5, 5)] := by
  obtain ⟨h1, h2, h3⟩ := h
  have hn : n = 1 ∨ n = 2 ∨ n = 3 ∨ n = 4 ∨ n = 5 := by omega
  have hr : r = 1 ∨ r = 2 ∨ r = 3 ∨ r = 4 ∨ r = 5 := by omega
  rcases hn with rfl | rfl | rfl | rfl | rfl <;> rcases hr with rfl | rfl | rfl | rfl | rfl <;> first | decide | omega
theorem cm_all : ∀ p ∈ [(1, 1), (2, 1), (2, 2), (3, 1), (3, 2), (3, 3), (4, 1), (4, 2), (4, 3), (4, 4), (5, 1), (5, 2), (5, 3), (5, 4), (5, 5)], ((allC p.1 p.2).isSome && (cmb p.1 p.2).all fun s => decide (s.length = p.2) && s.all fun i => decide (i < p.1)) = true := by decide +kernel
theorem cm_len : ∀ p ∈ [(1, 1), (2, 1), (2, 2), (3, 1), (3, 2), (3, 3), (4, 1), (4, 2), (4, 3), (4, 4), (5, 1), (5, 2), (5, 3), (5, 4), (5, 5)], decide ((cmb p.1 p.2).length ≤ 10) = true := by decide +kernel
theorem cmb_ok {n r : Nat} (h : CmOk n r) {s : List Nat} (m : s ∈ cmb n r) : s.length = r ∧ ∀ i ∈ s, i < n := by
  have := cm_all _ (cm_cases h)
  simp only [Bool.and_eq_true, List.all_eq_true, decide_eq_true_eq] at this
  exact this.2 s m
theorem cmb_len {n r : Nat} (h : CmOk n r) : (cmb n r).length ≤ 10 := by simpa using cm_len _ (cm_cases h)
theorem allC_cmb {n r : Nat} (h : CmOk n r) : allC n r = some (cmb n r) := by
  have := cm_all _ (cm_cases h)
  simp only [Bool.and_eq_true] at this
  unfold cmb
  cases h' : allC n r with
  | none => rw [h'] at this; cases this.1
  | some l => rfl
def idxFn : Fn := ⟨2, 2, (.cons (.ret (.comb (.listR (.r1 (.var 0))) (.bi .int (.cons (.var 1) .nil)))) .nil)⟩
theorem rg0 (n : Nat) : rgD 0 (n : Int) = (List.range n).map rgE := rg_n n
section
variable {fs : List Fn} {f k p d m : Nat} {st : Store} {t : List (List Int)} {a b n r : Nat}
theorem idx_ok (hf : fs[f]? = some idxFn) (h : CmOk n r) : callK fs (k + 1) f [.int (n : Int), .int (r : Int)] st = .ok (cmbD .own n r) st := by
  obtain ⟨h1, h2, h3⟩ := id h
  refine c_run hf (run_rt rfl rfl (s_rt (x_ret (x := cmbD .own n r) (e_comb (x := .lst .own (rgD 0 (n : Int))) (y := .int (r : Int)) (e_listR (i_r1 (e_vI rfl) (by simp only [rgOk, Bool.and_eq_true, decide_eq_true_eq]; omega))) (e_bi (es_cons (e_vI rfl) es_nil) bi_int) ?_) (keepL_rowN _))) rfl)
  have hl : (rgD 0 (n : Int)).length = n := by rw [rg0, List.length_map, List.length_range]
  unfold combD
  simp only [hl]
  rw [if_pos (by simp; omega), Int.toNat_natCast, allC_cmb h]
  show some (D.lst .own ((cmb n r).map (pickD (bwL (rgD 0 (n : Int)))))) = _
  unfold cmbD
  congr 2
  refine List.map_congr_left fun s hs => ?_
  unfold pickD rowN
  rw [rg0, bw_rgs]
  congr 1
  refine List.map_congr_left fun i hi => ?_
  have := (cmb_ok h hs).2 i hi
  rw [List.getD_eq_getElem?_getD, map_range_at this]; rfl
/-! a call's list is walked -/
theorem f_cmb {call : Nat → List D → M D} {env : Env} {e : E} {st : Store} (h : ev call e env st = .ok (cmbD .own n r) st) : evF call (.seq e) env st = .ok ((cmb n r).map rowN) st := by
  refine f_seq h (keepL_rowN _) ?_
  show some (bwL (frzL _)) = _
  rw [frzL_id (noOwnL_rowN _) (keepL_rowN _), bwL_rowN]
theorem i_cmb {call : Nat → List D → M D} {env : Env} {e : E} {st : Store} {m : Md} (h : ev call e env st = .ok (cmbD m n r) st) : evI call (.seq e) env st = .ok ((cmb n r).map rowN) st := by
  refine i_seq h ?_
  show some (bwL _) = _
  rw [bwL_rowN]
/-! ### all minors -/
def mnD (t : List (List Int)) (s c : List Nat) : D := .tup [rowN s, rowN c, .int (mnV t s c)]
theorem pl_mnD (t : List (List Int)) (s c : List Nat) : Pl (mnD t s c) := pl_tup fun d m => by
  simp only [List.mem_cons, List.not_mem_nil, or_false] at m
  rcases m with rfl | rfl | rfl
  · exact pl_rowN s
  · exact pl_rowN c
  · exact pl_int _
def mnR (t : List (List Int)) (b r : Nat) (s : List Nat) : List D := (cmb b r).map fun c => mnD t s c
def mnS (t : List (List Int)) (a b r : Nat) : List D := (cmb a r).flatMap (mnR t b r)
def mnA (t : List (List Int)) (a b m : Nat) : List D := (List.range' 1 m).flatMap (mnS t a b)
theorem mnR_len {s : List Nat} (h : CmOk b r) : (mnR t b r s).length ≤ 10 := by unfold mnR; rw [List.length_map]; exact cmb_len h
theorem fm_len {α β : Type} {l : List α} {g : α → List β} {B : Nat} (h : ∀ x ∈ l, (g x).length ≤ B) : (l.flatMap g).length ≤ l.length * B := by
  induction l with
  | nil => simp
  | cons x l ih =>
    rw [List.flatMap_cons, List.length_append, List.length_cons]
    have h1 := h x List.mem_cons_self
    have h2 := ih fun y m => h y (List.mem_cons_of_mem _ m)
    rw [Nat.succ_mul]; omega
theorem mnS_len (ha : CmOk a r) (hb : CmOk b r) : (mnS t a b r).length ≤ 100 := by
  unfold mnS
  refine Nat.le_trans (fm_len fun s _ => mnR_len hb) ?_
  have := cmb_len ha; omega
theorem mnA_len {m : Nat} (ha : m ≤ a) (hb : m ≤ b) (h5 : a ≤ 5) (hb5 : b ≤ 5) : (mnA t a b m).length ≤ 500 := by
  unfold mnA
  refine Nat.le_trans (fm_len (B := 100) fun r hr => ?_) ?_
  · rw [List.mem_range'_1] at hr
    exact mnS_len ⟨by omega, by omega, h5⟩ ⟨by omega, by omega, hb5⟩
  · rw [List.length_range']; omega
def amMin : E := .bi .min2 (.cons (.bi .len (.cons (.var 0) .nil)) (.cons (.bi .len (.cons (.ix (.var 0) (.int 0)) .nil)) .nil))
def amC (mf : Nat) : Sts := .cons (.append 1 (.tup (.cons (.var 3) (.cons (.var 4) (.cons (.call mf (.cons (.var 0) (.cons (.var 3) (.cons (.var 4) .nil)))) .nil))))) .nil
def amS (xf mf : Nat) : Sts := .cons (.for_ [4] false (.seq (.call xf (.cons (.bi .len (.cons (.ix (.var 0) (.int 0)) .nil)) (.cons (.var 2) .nil)))) (amC mf)) .nil
def amR (xf mf : Nat) : Sts := .cons (.for_ [3] false (.seq (.call xf (.cons (.bi .len (.cons (.var 0) .nil)) (.cons (.var 2) .nil)))) (amS xf mf)) .nil
def amFn (xf mf : Nat) : Fn := ⟨1, 5,
    (.cons (.set 1 (.lst .nil))
    (.cons (.for_ [2] false (.r2 (.int 1) (.bin .add amMin (.int 1))) (amR xf mf))
    (.cons (.retV 1)
    .nil)))⟩
def amE (t : List (List Int)) (acc : List D) (z2 z3 z4 : Option D) : Env := [some (tabD t), some (.lst .own acc), z2, z3, z4]
theorem am_len {call : Nat → List D → M D} (s : Shp t a b) {z1 z2 z3 z4 : Option D} : ev call (.bi .len (.cons (.var 0) .nil)) [some (tabD t), z1, z2, z3, z4] st = .ok (.int (a : Int)) st := e_bi (es_cons (e_vTab rfl) es_nil) (by rw [len_tab, s.1])
theorem am_len0 {call : Nat → List D → M D} (s : Shp t a b) (ha : 0 < a) {z1 z2 z3 z4 : Option D} : ev call (.bi .len (.cons (.ix (.var 0) (.int 0)) .nil)) [some (tabD t), z1, z2, z3, z4] st = .ok (.int (b : Int)) st := by
  obtain ⟨r0, h0, hl0⟩ := s.row ha
  exact e_bi (es_cons (e_ixT (i := 0) (e_vTab rfl) e_int h0) es_nil) (by rw [len_row, hl0])
theorem bi_min2 {i j : Nat} : biD .min2 [.int (i : Int), .int (j : Int)] = some (.int ((min i j : Nat) : Int)) := by
  show some (D.int (if (j : Int) < i then (j : Int) else i)) = _
  congr 2
  split <;> omega
theorem am_min {call : Nat → List D → M D} (s : Shp t a b) (ha : 0 < a) {z1 z2 z3 z4 : Option D} : ev call amMin [some (tabD t), z1, z2, z3, z4] st = .ok (.int ((min a b : Nat) : Int)) st := e_bi (es_cons (am_len s) (es_cons (am_len0 s ha) es_nil)) bi_min2
/-- what minors are computed by -/
structure MinF (fs : List Fn) (mf xf p d : Nat) : Prop where
  m : fs[mf]? = some (minFn p d)
  p : fs[p]? = some partFn
  d : fs[d]? = some detFn
  x : fs[xf]? = some idxFn
structure Tb (t : List (List Int)) (a b : Nat) : Prop where
  s : Shp t a b
  sm : Sm2 t a b SB
  a0 : 0 < a
  b0 : 0 < b
  a5 : a ≤ 5
  b5 : b ≤ 5
  m4 : min a b ≤ 4
theorem mn_ok {mf xf : Nat} (F : MinF fs mf xf p d) (T : Tb t a b) {s c : List Nat} (hr : 1 ≤ r) (ha : r ≤ a) (hb : r ≤ b) (ms : s ∈ cmb a r) (mc : c ∈ cmb b r) : callK fs (k + 2) mf [tabD t, rowN s, rowN c] st = .ok (.int (mnV t s c)) st := by
  obtain ⟨l1, e1⟩ := cmb_ok ⟨hr, ha, T.a5⟩ ms
  obtain ⟨l2, e2⟩ := cmb_ok ⟨hr, hb, T.b5⟩ mc
  have := T.m4
  exact min_ok F.m F.p F.d T.s T.sm e1 e2 (by omega) (by omega) (by omega) .tup .tup
theorem am_ok {mf xf : Nat} (hf : fs[f]? = some (amFn xf mf)) (F : MinF fs mf xf p d) (T : Tb t a b) : callK fs (k + 3) f [tabD t] st = .ok (.lst .own (mnA t a b (min a b))) st := by
  refine c_run hf (run_pl (pl1 (pl_tab t)) rfl ?_ rfl)
  have inner : ∀ (r : Nat) (s : List Nat) (acc : List D) (z4 : Option D), 1 ≤ r → r ≤ a → r ≤ b → s ∈ cmb a r → acc.length ≤ 1000 →
      ∃ z4', execs (callK fs (k + 2)) (amS xf mf) (amE t acc (some (rgE r)) (some (rowN s)) z4) st = .ok (.nx (amE t (acc ++ mnR t b r s) (some (rgE r)) (some (rowN s)) z4')) st := by
    intro r s acc z4 hr ha hb ms hl
    have cb : CmOk b r := ⟨hr, hb, T.b5⟩
    have it : evF (callK fs (k + 2)) (.seq (.call xf (.cons (.bi .len (.cons (.ix (.var 0) (.int 0)) .nil)) (.cons (.var 2) .nil)))) (amE t acc (some (rgE r)) (some (rowN s)) z4) st = .ok ((cmb b r).map rowN) st :=
      f_cmb (e_call (es_cons (am_len0 T.s T.a0) (es_cons (e_vJ rfl) es_nil)) (idx_ok (k := k + 1) F.x cb))
    obtain ⟨env', q, z, rfl⟩ := for_L (v := 4) (f := execs (callK fs (k + 2)) (amC mf)) (st := st) (enc := rowN) (Inv := fun p env => ∃ z, env = amE t (acc ++ p.map fun c => mnD t s c) (some (rgE r)) (some (rowN s)) z) (cmb b r) _ ⟨z4, by rw [List.map_nil, List.append_nil]⟩ fun p c env m hp ⟨z, e⟩ => by
      subst e
      have hl2 := cmb_len cb
      have mn := mn_ok (k := k) (st := st) F T hr ha hb ms m
      have v := x_append (call := callK fs (k + 2)) (env := amE t (acc ++ p.map fun c => mnD t s c) (some (rgE r)) (some (rowN s)) (some (rowN c))) (st := st) (i := 1) (e := .tup (.cons (.var 3) (.cons (.var 4) (.cons (.call mf (.cons (.var 0) (.cons (.var 3) (.cons (.var 4) .nil)))) .nil)))) (x := mnD t s c) rfl
        (e_tup (es_cons (e_vRowN rfl) (es_cons (e_vRowN rfl) (es_cons (e_call (es_cons (e_vTab rfl) (es_cons (e_vRowN rfl) (es_cons (e_vRowN rfl) es_nil))) mn) es_nil)))) (pl_mnD t s c).kp (by rw [List.length_append, List.length_map]; show _ < 1000000; omega)
      refine ⟨_, s_cons v s_nil, some (rowN c), ?_⟩
      rw [List.map_append, List.append_assoc]; rfl
    exact ⟨z, s_cons (x_for it q) s_nil⟩
  have mid : ∀ (r : Nat) (acc : List D) (z3 z4 : Option D), 1 ≤ r → r ≤ a → r ≤ b → acc.length ≤ 500 →
      ∃ z3' z4', execs (callK fs (k + 2)) (amR xf mf) (amE t acc (some (rgE r)) z3 z4) st = .ok (.nx (amE t (acc ++ mnS t a b r) (some (rgE r)) z3' z4')) st := by
    intro r acc z3 z4 hr ha hb hl
    have ca : CmOk a r := ⟨hr, ha, T.a5⟩
    have cb : CmOk b r := ⟨hr, hb, T.b5⟩
    have it : evF (callK fs (k + 2)) (.seq (.call xf (.cons (.bi .len (.cons (.var 0) .nil)) (.cons (.var 2) .nil)))) (amE t acc (some (rgE r)) z3 z4) st = .ok ((cmb a r).map rowN) st :=
      f_cmb (e_call (es_cons (am_len T.s) (es_cons (e_vJ rfl) es_nil)) (idx_ok (k := k + 1) F.x ca))
    obtain ⟨env', q, z3', z4', rfl⟩ := for_L (v := 3) (f := execs (callK fs (k + 2)) (amS xf mf)) (st := st) (enc := rowN) (Inv := fun p env => ∃ z3 z4, env = amE t (acc ++ p.flatMap (mnR t b r)) (some (rgE r)) z3 z4) (cmb a r) _ ⟨z3, z4, by rw [List.flatMap_nil, List.append_nil]⟩ fun p s env m hp ⟨z3, z4, e⟩ => by
      subst e
      have hl2 := cmb_len ca
      have hf : (p.flatMap (mnR t b r)).length ≤ 100 := by
        refine Nat.le_trans (fm_len fun s _ => mnR_len cb) ?_
        omega
      obtain ⟨z4', h⟩ := inner r s (acc ++ p.flatMap (mnR t b r)) z4 hr ha hb m (by rw [List.length_append]; omega)
      refine ⟨_, h, some (rowN s), z4', ?_⟩
      rw [List.flatMap_append, List.append_assoc, List.flatMap_cons, List.flatMap_nil, List.append_nil]
    exact ⟨z3', z4', s_cons (x_for it q) s_nil⟩
  have a5 := T.a5
  have b5 := T.b5
  have it : evF (callK fs (k + 2)) (.r2 (.int 1) (.bin .add amMin (.int 1))) (amE t [] none none none) st = .ok ((List.range' 1 (min a b)).map rgE) st := by
    have := f_rn2 (call := callK fs (k + 2)) (env := amE t [] none none none) (st := st) (a := .int 1) (b := .bin .add amMin (.int 1)) (k := 1) (n := min a b + 1) e_int (e_bin (am_min T.s T.a0) e_int bin_add) (by omega) (by omega)
    rw [show min a b + 1 - 1 = min a b by omega] at this
    exact this
  obtain ⟨env', q, z2, z3, z4, rfl⟩ := for_N (v := 2) (f := execs (callK fs (k + 2)) (amR xf mf)) (st := st) (Inv := fun r env => ∃ z2 z3 z4, env = amE t (mnA t a b (r - 1)) z2 z3 z4) (min a b) 1 (amE t [] none none none) ⟨none, none, none, rfl⟩ fun r env h1 h2 ⟨z2, z3, z4, e⟩ => by
    subst e
    obtain ⟨z3', z4', h⟩ := mid r (mnA t a b (r - 1)) z3 z4 h1 (by omega) (by omega) (mnA_len (by omega) (by omega) a5 b5)
    refine ⟨_, h, some (rgE r), z3', z4', ?_⟩
    have e : r + 1 - 1 = (r - 1) + 1 := by omega
    rw [e]
    unfold mnA
    rw [List.range'_concat, List.flatMap_append, List.flatMap_cons, List.flatMap_nil, List.append_nil, show 1 + 1 * (r - 1) = r by omega]
  rw [show 1 + min a b - 1 = min a b by omega] at q
  exact s_cons (env' := amE t [] none none none) (x_set (x := .lst .own []) (e_lst es_nil) rfl) (s_cons (x_for it q) (s_rt (x_retV rfl)))
end
end PL
namespace PL
open PySem
open L2 (atI ixN)
/-! ### loops that return at the first that fits -/
theorem for_any {α : Type} {v : Nat} {f : Env → M Fl} {st : Store} {enc : α → D} {P : α → Bool} {Inv : Env → Prop} {d : D} : ∀ (ys : List α) (env : Env), Inv env →
    (∀ x ∈ ys, ∀ env, Inv env → if P x = true then f (env.set v (some (enc x))) st = .ok (.rt d) st else ∃ env', f (env.set v (some (enc x))) st = .ok (.nx env') st ∧ Inv env') →
    if ys.any P = true then forM [v] false f (ys.map enc) env st = .ok (.rt d) st else ∃ env', forM [v] false f (ys.map enc) env st = .ok (.nx env') st ∧ Inv env'
  | [], env, h0, _ => by
    rw [if_neg (by simp)]
    exact ⟨env, for_nil, h0⟩
  | y :: ys, env, h0, h => by
    have h1 := h y List.mem_cons_self env h0
    by_cases hp : P y = true
    · rw [if_pos hp] at h1
      rw [if_pos (by simp [hp])]
      exact for_rt rfl h1
    · rw [if_neg hp] at h1
      obtain ⟨env1, q1, i1⟩ := h1
      have h2 := for_any ys env1 i1 fun x m => h x (List.mem_cons_of_mem _ m)
      by_cases ha : ys.any P = true
      · rw [if_pos ha] at h2
        rw [if_pos (by rw [List.any_cons, ha]; simp)]
        exact for_nx rfl q1 h2
      · rw [if_neg ha] at h2
        obtain ⟨env2, q2, i2⟩ := h2
        rw [if_neg (by rw [List.any_cons]; simp [hp]; simpa using ha)]
        exact ⟨env2, for_nx rfl q1 q2, i2⟩
theorem boolsOf_bl : ∀ l : List Bool, boolsOf (l.map D.bl) = some l
  | [] => rfl
  | x :: l => by show (boolsOf (l.map D.bl)).map (x :: ·) = _; rw [boolsOf_bl l]; rfl
theorem any_map {α : Type} {m : Md} {xs : List α} {g : α → Bool} : biD .any [.lst m (xs.map fun x => D.bl (g x))] = some (.bl (xs.any g)) := by
  show (boolsOf _).map _ = _
  have e : (xs.map fun x => D.bl (g x)) = (xs.map g).map D.bl := by rw [List.map_map]; rfl
  rw [e, boolsOf_bl]
  show some (D.bl ((xs.map g).any id)) = _
  rw [List.any_map]; rfl
theorem all_map {α : Type} {m : Md} {xs : List α} {g : α → Bool} : biD .all [.lst m (xs.map fun x => D.bl (g x))] = some (.bl (xs.all g)) := by
  show (boolsOf _).map _ = _
  have e : (xs.map fun x => D.bl (g x)) = (xs.map g).map D.bl := by rw [List.map_map]; rfl
  rw [e, boolsOf_bl]
  show some (D.bl ((xs.map g).all id)) = _
  rw [List.all_map]; rfl
/-! ### rank -/
def nzC (t : List (List Int)) (b r : Nat) (s : List Nat) : Bool := (cmb b r).any fun c => mnV t s c != 0
def nzR (t : List (List Int)) (a b r : Nat) : Bool := (cmb a r).any (nzC t b r)
def bestN (t : List (List Int)) (a b : Nat) : Nat → Nat
  | 0 => 0
  | m + 1 => if nzR t a b (m + 1) then m + 1 else bestN t a b m
def dn : Nat → List Nat
  | 0 => []
  | m + 1 => (m + 1) :: dn m
def rkI (xf mf : Nat) : Sts := .cons (.ite (.bi .any (.cons (.comp (.cmp .ne (.call mf (.cons (.var 0) (.cons (.var 2) (.cons (.var 3) .nil)))) (.int 0)) [3] false (.seq (.call xf (.cons (.bi .len (.cons (.ix (.var 0) (.int 0)) .nil)) (.cons (.var 1) .nil)))) .nil [3]) .nil)) (.cons (.retV 1) .nil) .nil) .nil
def rkO (xf mf : Nat) : Sts := .cons (.for_ [2] false (.seq (.call xf (.cons (.bi .len (.cons (.var 0) .nil)) (.cons (.var 1) .nil)))) (rkI xf mf)) .nil
def rkFn (xf mf : Nat) : Fn := ⟨1, 4,
    (.cons (.for_ [1] false (.r3 amMin (.int 0) (.neg (.int 1))) (rkO xf mf))
    (.cons (.ret (.int 0))
    .nil))⟩
theorem dn_rs : ∀ m ∈ [0, 1, 2, 3, 4, 5], (rsOk (m : Nat) 0 (-1) = true ∧ rsD (m : Nat) 0 (-1) = (dn m).map rgE) := by
  intro m h
  simp only [List.mem_cons, List.not_mem_nil, or_false] at h
  rcases h with rfl | rfl | rfl | rfl | rfl | rfl <;> exact ⟨by rfl, by rfl⟩
theorem i_dn {call : Nat → List D → M D} {env : Env} {st : Store} {e : E} {m : Nat} (hm : m ≤ 5) (h : ev call e env st = .ok (.int (m : Int)) st) : evI call (.r3 e (.int 0) (.neg (.int 1))) env st = .ok ((dn m).map rgE) st := by
  obtain ⟨h1, h2⟩ := dn_rs m (by simp; omega)
  simp only [evI]
  refine M.bind_of h (M.bind_of e_int (M.bind_of (e_neg e_int) ?_))
  dsimp only
  rw [if_pos h1, h2]
section
variable {fs : List Fn} {f k p d m : Nat} {st : Store} {t : List (List Int)} {a b n r : Nat} {xf mf : Nat}
theorem rk_len {call : Nat → List D → M D} (s : Shp t a b) {z1 z2 z3 : Option D} : ev call (.bi .len (.cons (.var 0) .nil)) [some (tabD t), z1, z2, z3] st = .ok (.int (a : Int)) st := e_bi (es_cons (e_vTab rfl) es_nil) (by rw [len_tab, s.1])
theorem rk_len0 {call : Nat → List D → M D} (s : Shp t a b) (ha : 0 < a) {z1 z2 z3 : Option D} : ev call (.bi .len (.cons (.ix (.var 0) (.int 0)) .nil)) [some (tabD t), z1, z2, z3] st = .ok (.int (b : Int)) st := by
  obtain ⟨r0, h0, hl0⟩ := s.row ha
  exact e_bi (es_cons (e_ixT (i := 0) (e_vTab rfl) e_int h0) es_nil) (by rw [len_row, hl0])
theorem rank_ok (hf : fs[f]? = some (rkFn xf mf)) (F : MinF fs mf xf p d) (T : Tb t a b) : callK fs (k + 3) f [tabD t] st = .ok (.int (bestN t a b (min a b) : Nat)) st := by
  refine c_run hf (run_pl (pl1 (pl_tab t)) rfl ?_ rfl)
  have inner : ∀ (r : Nat) (z2 z3 : Option D), 1 ≤ r → r ≤ a → r ≤ b →
      if nzR t a b r = true then execs (callK fs (k + 2)) (rkO xf mf) [some (tabD t), some (rgE r), z2, z3] st = .ok (.rt (rgE r)) st
      else ∃ z2' z3', execs (callK fs (k + 2)) (rkO xf mf) [some (tabD t), some (rgE r), z2, z3] st = .ok (.nx [some (tabD t), some (rgE r), z2', z3']) st := by
    intro r z2 z3 hr ha hb
    have ca : CmOk a r := ⟨hr, ha, T.a5⟩
    have cb : CmOk b r := ⟨hr, hb, T.b5⟩
    have it : evF (callK fs (k + 2)) (.seq (.call xf (.cons (.bi .len (.cons (.var 0) .nil)) (.cons (.var 1) .nil)))) [some (tabD t), some (rgE r), z2, z3] st = .ok ((cmb a r).map rowN) st :=
      f_cmb (e_call (es_cons (rk_len T.s) (es_cons (e_vJ rfl) es_nil)) (idx_ok (k := k + 1) F.x ca))
    have q := for_any (v := 2) (f := execs (callK fs (k + 2)) (rkI xf mf)) (st := st) (enc := rowN) (P := nzC t b r) (Inv := fun env => ∃ z2 z3, env = [some (tabD t), some (rgE r), z2, z3]) (d := rgE r) (cmb a r) [some (tabD t), some (rgE r), z2, z3] ⟨z2, z3, rfl⟩ fun s ms env ⟨z2, z3, e⟩ => by
      subst e
      have it2 : evI (callK fs (k + 2)) (.seq (.call xf (.cons (.bi .len (.cons (.ix (.var 0) (.int 0)) .nil)) (.cons (.var 1) .nil)))) [some (tabD t), some (rgE r), some (rowN s), z3] st = .ok ((cmb b r).map rowN) st :=
        i_cmb (m := .own) (e_call (es_cons (rk_len0 T.s T.a0) (es_cons (e_vJ rfl) es_nil)) (idx_ok (k := k + 1) F.x cb))
      have hl2 := cmb_len cb
      have c := c_map (call := callK fs (k + 2)) (env := [some (tabD t), some (rgE r), some (rowN s), z3]) (st := st) (body := .cmp .ne (.call mf (.cons (.var 0) (.cons (.var 2) (.cons (.var 3) .nil)))) (.int 0)) (v := 3) (vs := [3]) (g := fun c => D.bl (mnV t s c != 0)) it2 (by show _ ≤ 1000000; omega) fun c mc =>
        e_cmp (e_call (es_cons (e_vTab rfl) (es_cons (e_vRowN rfl) (es_cons (e_vRowN rfl) es_nil))) (mn_ok (k := k) F T hr ha hb ms mc)) e_int cmp_neI
      have tst := e_tst (e_bi (es_cons c es_nil) any_map) (k := nzC t b r s) rfl
      by_cases hp : nzC t b r s = true
      · rw [if_pos hp]
        rw [hp] at tst
        exact s_rt (x_iteT tst (s_rt (x_retV rfl)))
      · rw [if_neg hp]
        rw [Bool.eq_false_iff.mpr hp] at tst
        exact ⟨_, s_cons (x_iteF tst s_nil) s_nil, some (rowN s), z3, rfl⟩
    change (if nzR t a b r = true then _ else _) at q
    by_cases hp : nzR t a b r = true
    · rw [if_pos hp]
      rw [if_pos hp] at q
      exact s_rt (x_for it q)
    · rw [if_neg hp]
      rw [if_neg hp] at q
      obtain ⟨env', q, z2', z3', rfl⟩ := q
      exact ⟨z2', z3', s_cons (x_for it q) s_nil⟩
  have outer : ∀ (m : Nat) (z1 z2 z3 : Option D), m ≤ a → m ≤ b →
      (∃ z1' z2' z3', bestN t a b m = 0 ∧ forM [1] false (execs (callK fs (k + 2)) (rkO xf mf)) ((dn m).map rgE) [some (tabD t), z1, z2, z3] st = .ok (.nx [some (tabD t), z1', z2', z3']) st) ∨
      forM [1] false (execs (callK fs (k + 2)) (rkO xf mf)) ((dn m).map rgE) [some (tabD t), z1, z2, z3] st = .ok (.rt (.int (bestN t a b m : Nat))) st := by
    intro m
    induction m with
    | zero => exact fun z1 z2 z3 _ _ => .inl ⟨z1, z2, z3, rfl, for_nil⟩
    | succ m ih =>
      intro z1 z2 z3 ha hb
      have q := inner (m + 1) z2 z3 (by omega) ha hb
      by_cases hp : nzR t a b (m + 1) = true
      · rw [if_pos hp] at q
        refine .inr ?_
        have e : bestN t a b (m + 1) = m + 1 := by unfold bestN; rw [if_pos hp]
        rw [e]
        exact for_rt rfl q
      · rw [if_neg hp] at q
        obtain ⟨z2', z3', q⟩ := q
        have e : bestN t a b (m + 1) = bestN t a b m := by conv => lhs; unfold bestN
                                                           rw [if_neg hp]
        rw [e]
        rcases ih (some (rgE (m + 1))) z2' z3' (by omega) (by omega) with ⟨w1, w2, w3, h1, h2⟩ | h2
        · exact .inl ⟨w1, w2, w3, h1, for_nx rfl q h2⟩
        · exact .inr (for_nx rfl q h2)
  have mm : ev (callK fs (k + 2)) amMin [some (tabD t), none, none, none] st = .ok (.int ((min a b : Nat) : Int)) st := e_bi (es_cons (rk_len T.s) (es_cons (rk_len0 T.s T.a0) es_nil)) bi_min2
  have it : evF (callK fs (k + 2)) (.r3 amMin (.int 0) (.neg (.int 1))) [some (tabD t), none, none, none] st = .ok ((dn (min a b)).map rgE) st := i_dn (by have := T.m4; omega) mm
  rcases outer (min a b) none none none (by omega) (by omega) with ⟨z1, z2, z3, h1, h2⟩ | h2
  · rw [h1]
    exact s_cons (x_for it h2) (s_rt (x_ret e_int rfl))
  · exact s_rt (x_for it h2)
/-! ### compound -/
def cpV (t : List (List Int)) (a b r : Nat) : List (List Int) := (cmb a r).map fun s => (cmb b r).map fun c => mnV t s c
def cpFn (xf mf : Nat) : Fn := ⟨2, 5,
    (.cons (.set 2 (.call xf (.cons (.bi .len (.cons (.ix (.var 0) (.int 0)) .nil)) (.cons (.var 1) .nil))))
    (.cons (.ret (.bi .tuple (.cons (.comp (.bi .tuple (.cons (.comp (.call mf (.cons (.var 0) (.cons (.var 3) (.cons (.var 4) .nil)))) [4] false (.seq (.var 2)) .nil [4]) .nil)) [3] false (.seq (.call xf (.cons (.bi .len (.cons (.var 0) .nil)) (.cons (.var 1) .nil)))) .nil [3]) .nil)))
    .nil))⟩
theorem comp_ok (hf : fs[f]? = some (cpFn xf mf)) (F : MinF fs mf xf p d) (T : Tb t a b) (hr : 1 ≤ r) (ha : r ≤ a) (hb : r ≤ b) : callK fs (k + 3) f [tabD t, .int (r : Int)] st = .ok (tabD (cpV t a b r)) st := by
  have L : LIM = 1000000 := rfl
  have ca : CmOk a r := ⟨hr, ha, T.a5⟩
  have cb : CmOk b r := ⟨hr, hb, T.b5⟩
  have la := cmb_len ca
  have lb := cmb_len cb
  obtain ⟨r0, h0, hl0⟩ := T.s.row T.a0
  have h1 : ev (callK fs (k + 2)) (.call xf (.cons (.bi .len (.cons (.ix (.var 0) (.int 0)) .nil)) (.cons (.var 1) .nil))) [some (tabD t), some (rgE r), none, none, none] st = .ok (cmbD .own b r) st :=
    e_call (es_cons (e_bi (es_cons (e_ixT (i := 0) (e_vTab rfl) e_int h0) es_nil) (by rw [len_row, hl0])) (es_cons (e_vJ rfl) es_nil)) (idx_ok (k := k + 1) F.x cb)
  refine c_run hf (run_pl (pl2 (pl_tab t) (pl_int _)) rfl (s_cons (env' := [some (tabD t), some (rgE r), some (cmbD .own b r), none, none]) (x_set h1 (keepL_rowN _)) (s_rt (x_ret (x := tabD (cpV t a b r)) ?_ (pl_tab _).kp))) rfl)
  have h2 : ev (callK fs (k + 2)) (.call xf (.cons (.bi .len (.cons (.var 0) .nil)) (.cons (.var 1) .nil))) [some (tabD t), some (rgE r), some (cmbD .own b r), none, none] st = .ok (cmbD .own a r) st :=
    e_call (es_cons (e_bi (es_cons (e_vTab rfl) es_nil) (by rw [len_tab, T.s.1])) (es_cons (e_vJ rfl) es_nil)) (idx_ok (k := k + 1) F.x ca)
  unfold cpV
  refine t_rows (i_cmb h2) (by omega) fun s ms => t_row (enc := rowN) (i_seq (x := .lst .bor ((cmb b r).map rowN)) (e_var rfl ?_) ?_) (by omega) fun c mc => ?_
  · show D.lst .bor (bwL _) = _; rw [bwL_rowN]
  · show some (bwL _) = _; rw [bwL_rowN]
  · exact e_call (es_cons (e_vTab rfl) (es_cons (e_vRowN rfl) (es_cons (e_vRowN rfl) es_nil))) (mn_ok (k := k) F T hr ha hb ms mc)
end
end PL
namespace PL
open PySem
open L2 (atI ixN)
theorem inD_nat {k : Nat} {s : List Nat} : inD (.int (k : Int)) (rowN s) = some (s.contains k) := by
  have hd : (rowN s).dat = true := by rw [rowN_row]; exact dat_row _
  have hz : (rowN s).py.depth ≤ 64 := by rw [rowN_row, pz_row]; decide
  have hd' : (D.tup (s.map rgE)).dat = true := hd
  have hz' : (D.tup (s.map rgE)).py.depth ≤ 64 := hz
  show (if (D.int (k : Int)).dat && (D.tup (s.map rgE)).dat && decide ((D.int (k : Int)).py.depth ≤ 64) && decide ((D.tup (s.map rgE)).py.depth ≤ 64) then some ((pyL (s.map rgE)).any fun z => PyData.eqv z (D.int (k : Int)).py) else none) = _
  rw [if_pos (by rw [hd', decide_eq_true hz']; rfl)]
  congr 1
  clear hd hz hd' hz'
  induction s with
  | nil => rfl
  | cons a s ih =>
    show (PyData.eqv (.int (a : Int)) (.int (k : Int)) || (pyL (s.map rgE)).any _) = _
    rw [ih, List.contains_cons]
    congr 1
    show decide ((a : Int) = (k : Int)) = (k == a)
    by_cases h : a = k
    · subst h; simp
    · rw [decide_eq_false (by omega)]
      symm; simpa using fun z => h z.symm
def othFn : Fn := ⟨2, 3,
    (.cons (.ret (.bi .tuple (.cons (.comp (.var 2) [2] false (.r1 (.var 0)) (.cons (.cmp .notin (.var 2) (.var 1)) .nil) [2]) .nil)))
    .nil)⟩
def oths (n : Nat) (s : List Nat) : List Nat := (List.range n).filter fun k => !s.contains k
def cfFn (mf of : Nat) : Fn := ⟨1, 7,
    (.cons (.set 1 (.bi .len (.cons (.var 0) .nil)))
    (.cons (.set 2 (.lst .nil))
    (.cons (.for_ [3] false (.r1 (.var 1)) (.cons (.set 4 (.lst .nil))
    (.cons (.for_ [5] false (.r1 (.var 1)) (.cons (.set 6 (.ite (.cmp .eq (.bin .mod (.bi .int (.cons (.bin .add (.var 3) (.var 5)) .nil)) (.int 2)) (.int 0)) (.int 1) (.neg (.int 1))))
    (.cons (.append 4 (.bin .mul (.var 6) (.call mf (.cons (.var 0) (.cons (.call of (.cons (.var 1) (.cons (.tup (.cons (.var 5) .nil)) .nil))) (.cons (.call of (.cons (.var 1) (.cons (.tup (.cons (.var 3) .nil)) .nil))) .nil))))))
    .nil)))
    (.cons (.append 2 (.bi .tuple (.cons (.var 4) .nil)))
    .nil))))
    (.cons (.ret (.bi .tuple (.cons (.var 2) .nil)))
    .nil))))⟩
def cofV (t : List (List Int)) (n : Nat) : Mx := fun i j => sgn (i + j) * mnV t (oths n [j]) (oths n [i])
section
variable {fs : List Fn} {f k p d m : Nat} {st : Store} {t : List (List Int)} {a b n r : Nat} {xf mf of : Nat}
theorem oth_ok (hf : fs[f]? = some othFn) {s : List Nat} (hn : n ≤ 1000) : callK fs (k + 1) f [.int (n : Int), rowN s] st = .ok (rowN (oths n s)) st := by
  refine c_run hf (run_pl (pl2 (pl_int _) (pl_rowN s)) rfl (s_rt (x_ret (x := rowN (oths n s)) ?_ (pl_rowN _).kp)) rfl)
  have it : evI (callK fs k) (.r1 (.var 0)) [some (.int (n : Int)), some (rowN s), none] st = .ok ((List.range n).map rgE) st := i_rn (e_vI rfl) (by omega)
  have q := e_comp (call := callK fs k) (es := .cons (.cmp .notin (.var 2) (.var 1)) .nil) (elt := .var 2) (tg := [2]) (own := [2]) (tup := false) it (comp_filter (g := rgE) (p := fun k => !s.contains k) (st := st) fun j hj => ?_) ?_
  · refine e_bi (es_cons q es_nil) ?_
    show some (D.tup (bwL _)) = _
    rw [bw_rgs]; rfl
  · have tt : ev (callK fs k) (.cmp .notin (.var 2) (.var 1)) [some (.int (n : Int)), some (rowN s), some (rgE j)] st = .ok (.bl (!s.contains j)) st := e_cmp (e_vJ rfl) (e_vRowN rfl) (by
      show (inD _ _).map (!·) = _
      rw [inD_nat]; rfl)
    have bd : bindT [2] false (rgE j) (unset [some (.int (n : Int)), some (rowN s), none] [2]) = some [some (.int (n : Int)), some (rowN s), some (rgE j)] := rfl
    show turnF [2] false [2] _ _ _ _ _ = _
    cases hp : (!s.contains j) with
    | true => rw [hp] at tt; exact turn_t bd (ifs_one (e_tst tt rfl)) (e_vJ rfl)
    | false => rw [hp] at tt; exact turn_f bd (ifs_one (e_tst tt rfl))
  · rw [List.length_map]
    refine Nat.le_trans (List.length_filter_le _ _) ?_
    rw [List.length_range]; show n ≤ 1000000; omega
theorem det0_ok (hf : fs[f]? = some detFn) : callK fs (k + 1) f [tabD []] st = .ok (.int 1) st := by
  refine c_run hf (run_pl (pl1 (pl_tab _)) rfl ?_ rfl)
  refine s_cons (env' := [some (tabD []), some (.lst .own []), none, none, none, none, none, none, none]) (x_set (x := .lst .own []) (e_comp (xs := []) (ys := []) (i_tab (t := []) (e_vTab rfl)) rfl (by decide)) rfl) ?_
  refine s_cons (env' := [some (tabD []), some (.lst .own []), some (.int 1), some (.int 1), none, none, none, none, none]) (x_setT (ds := [.int 1, .int 1]) (e_tup (es_cons e_int (es_cons e_int es_nil))) rfl rfl) ?_
  have len : ev (callK fs k) dLen [some (tabD []), some (.lst .own []), some (.int 1), some (.int 1), none, none, none, none, none] st = .ok (.int 0) st := e_bi (es_cons (e_var (x := .lst .bor []) rfl rfl) es_nil) rfl
  refine s_cons (x_for (xs := []) (show evI (callK fs k) _ _ _ = _ from i_r1 (n := -1) (e_bin len e_int rfl) rfl) for_nil) (s_rt (x_ret (x := .int 1) ?_ rfl))
  exact e_iteF (e_tst (e_cmp len e_int cmp_gtI) rfl) e_int
theorem min0_ok (hf : fs[f]? = some (minFn p d)) (hp : fs[p]? = some partFn) (hd : fs[d]? = some detFn) (s : Shp t a b) : callK fs (k + 2) f [tabD t, rowN [], rowN []] st = .ok (.int (mnV t [] [])) st := by
  refine c_run hf (run_pl (pl3 (pl_tab t) (pl_rowN _) (pl_rowN _)) rfl (s_rt (x_ret (x := .int 1) ?_ rfl)) rfl)
  have h1 := prt_ok (k := k) (st := st) hp s (rs := []) (cs := []) (fun _ m => nomatch m) (fun _ m => nomatch m) (by decide) (by decide) .tup .tup
  exact e_call (es_cons (e_call (es_cons (e_vTab rfl) (es_cons (e_vRowN rfl) (es_cons (e_vRowN rfl) es_nil))) h1) es_nil) (det0_ok hd)
theorem oths_len : ∀ p ∈ [(1, 0), (2, 0), (2, 1), (3, 0), (3, 1), (3, 2), (4, 0), (4, 1), (4, 2), (4, 3)], decide ((oths p.1 [p.2]).length = p.1 - 1) = true := by decide +kernel
theorem oths_1 {n j : Nat} (hn : n ≤ 4) (hj : j < n) : (oths n [j]).length = n - 1 ∧ ∀ i ∈ oths n [j], i < n := by
  refine ⟨?_, fun i m => ?_⟩
  · have : (n, j) ∈ [(1, 0), (2, 0), (2, 1), (3, 0), (3, 1), (3, 2), (4, 0), (4, 1), (4, 2), (4, 3)] := by
      have h1 : n = 1 ∨ n = 2 ∨ n = 3 ∨ n = 4 := by omega
      have h2 : j = 0 ∨ j = 1 ∨ j = 2 ∨ j = 3 := by omega
      rcases h1 with rfl | rfl | rfl | rfl <;> rcases h2 with rfl | rfl | rfl | rfl <;> first | decide | omega
    simpa using oths_len _ this
  · unfold oths at m
    exact List.mem_range.mp (List.mem_filter.mp m).1
theorem e_sgn2 {call : Nat → List D → M D} {env : Env} {i j : Nat} {A : E} (h : ev call A env st = .ok (.int ((i + j : Nat) : Int)) st) : ev call (.ite (.cmp .eq (.bin .mod (.bi .int (.cons A .nil)) (.int 2)) (.int 0)) (.int 1) (.neg (.int 1))) env st = .ok (.int (sgn (i + j))) st := by
  have t : ev call (.cmp .eq (.bin .mod (.bi .int (.cons A .nil)) (.int 2)) (.int 0)) env st = .ok (.bl (decide ((((i + j) % 2 : Nat) : Int) = 0))) st := by
    refine e_cmp (e_bin (e_bi (es_cons h es_nil) bi_int) e_int (bin_mod (by decide))) e_int ?_
    rw [cmp_eqI, show (2 : Int) = ((2 : Nat) : Int) from rfl, fmod_nat]
  unfold sgn
  by_cases hz : (i + j) % 2 = 0
  · rw [if_pos hz]
    rw [decide_eq_true (by omega)] at t
    exact e_iteT (e_tst t rfl) e_int
  · rw [if_neg hz]
    rw [decide_eq_false (by omega)] at t
    exact e_iteF (e_tst t rfl) (e_neg e_int)
theorem cof_ok (hf : fs[f]? = some (cfFn mf of)) (F : MinF fs mf xf p d) (ho : fs[of]? = some othFn) (T : Tb t n n) : callK fs (k + 3) f [tabD t] st = .ok (tabD (mat n n (cofV t n))) st := by
  have n4 : n ≤ 4 := by have := T.m4; omega
  have n0 := T.a0
  refine c_run hf (run_pl (pl1 (pl_tab t)) rfl ?_ rfl)
  have mn : ∀ i j, i < n → j < n → callK fs (k + 2) mf [tabD t, rowN (oths n [j]), rowN (oths n [i])] st = .ok (.int (mnV t (oths n [j]) (oths n [i]))) st := fun i j hi hj => by
    obtain ⟨l1, e1⟩ := oths_1 n4 hj
    obtain ⟨l2, e2⟩ := oths_1 n4 hi
    by_cases h1 : n = 1
    · subst h1
      obtain rfl : i = 0 := by omega
      obtain rfl : j = 0 := by omega
      exact min0_ok F.m F.p F.d T.s
    · exact min_ok F.m F.p F.d T.s T.sm e1 e2 (by omega) (by omega) (by omega) .tup .tup
  have inner : ∀ (i : Nat) (acc : List D) (z5 z6 : Option D), i < n → ∃ z5' z6',
      exec (callK fs (k + 2)) (.for_ [5] false (.r1 (.var 1)) (.cons (.set 6 (.ite (.cmp .eq (.bin .mod (.bi .int (.cons (.bin .add (.var 3) (.var 5)) .nil)) (.int 2)) (.int 0)) (.int 1) (.neg (.int 1))))
        (.cons (.append 4 (.bin .mul (.var 6) (.call mf (.cons (.var 0) (.cons (.call of (.cons (.var 1) (.cons (.tup (.cons (.var 5) .nil)) .nil))) (.cons (.call of (.cons (.var 1) (.cons (.tup (.cons (.var 3) .nil)) .nil))) .nil)))))) .nil)))
        [some (tabD t), some (.int (n : Int)), some (.lst .own acc), some (rgE i), some (.lst .own []), z5, z6] st = .ok (.nx [some (tabD t), some (.int (n : Int)), some (.lst .own acc), some (rgE i), some (.lst .own (((List.range n).map fun j => cofV t n i j).map D.int)), z5', z6']) st := by
    intro i acc z5 z6 hi
    obtain ⟨env', q, z5', z6', rfl⟩ := for_N (v := 5) (f := execs (callK fs (k + 2)) (.cons (.set 6 (.ite (.cmp .eq (.bin .mod (.bi .int (.cons (.bin .add (.var 3) (.var 5)) .nil)) (.int 2)) (.int 0)) (.int 1) (.neg (.int 1))))
        (.cons (.append 4 (.bin .mul (.var 6) (.call mf (.cons (.var 0) (.cons (.call of (.cons (.var 1) (.cons (.tup (.cons (.var 5) .nil)) .nil))) (.cons (.call of (.cons (.var 1) (.cons (.tup (.cons (.var 3) .nil)) .nil))) .nil)))))) .nil))) (st := st)
      (Inv := fun j env => ∃ z5 z6, env = [some (tabD t), some (.int (n : Int)), some (.lst .own acc), some (rgE i), some (.lst .own (((List.range j).map fun j => cofV t n i j).map D.int)), z5, z6]) n 0 [some (tabD t), some (.int (n : Int)), some (.lst .own acc), some (rgE i), some (.lst .own []), z5, z6] ⟨z5, z6, rfl⟩ fun j env _ hj ⟨z5, z6, e⟩ => by
      subst e
      have hj' : j < n := by omega
      have o1 : ∀ (x : Nat) (z6 : Option D) (A : E) (acc' : List D), ev (callK fs (k + 2)) A [some (tabD t), some (.int (n : Int)), some (.lst .own acc), some (rgE i), some (.lst .own acc'), some (rgE j), z6] st = .ok (.int (x : Int)) st → ev (callK fs (k + 2)) (.call of (.cons (.var 1) (.cons (.tup (.cons A .nil)) .nil))) [some (tabD t), some (.int (n : Int)), some (.lst .own acc), some (rgE i), some (.lst .own acc'), some (rgE j), z6] st = .ok (rowN (oths n [x])) st := fun x z6 A acc' h =>
        e_call (es_cons (e_vI rfl) (es_cons (e_tup (es_cons h es_nil)) es_nil)) (oth_ok (k := k + 1) ho (s := [x]) (by omega))
      have s1 := e_sgn2 (call := callK fs (k + 2)) (st := st) (env := [some (tabD t), some (.int (n : Int)), some (.lst .own acc), some (rgE i), some (.lst .own (((List.range j).map fun j => cofV t n i j).map D.int)), some (rgE j), z6]) (i := i) (j := j) (A := .bin .add (.var 3) (.var 5)) (by
        have := e_bin (call := callK fs (k + 2)) (st := st) (env := [some (tabD t), some (.int (n : Int)), some (.lst .own acc), some (rgE i), some (.lst .own (((List.range j).map fun j => cofV t n i j).map D.int)), some (rgE j), z6]) (a := .var 3) (b := .var 5) (op := .add) (e_vJ (j := i) rfl) (e_vJ (j := j) rfl) bin_add
        rw [show ((i + j : Nat) : Int) = (i : Int) + (j : Int) by omega]; exact this)
      have sb : (sgn (i + j)).natAbs < 2 ^ 64 := by unfold sgn; split <;> decide
      have v := x_append (call := callK fs (k + 2)) (env := [some (tabD t), some (.int (n : Int)), some (.lst .own acc), some (rgE i), some (.lst .own (((List.range j).map fun j => cofV t n i j).map D.int)), some (rgE j), some (.int (sgn (i + j)))]) (st := st) (i := 4) (x := .int (cofV t n i j)) rfl
        (e_bin (e_vI (i := 6) rfl) (e_call (es_cons (e_vTab (i := 0) rfl) (es_cons (o1 j _ (.var 5) _ (e_vJ rfl)) (es_cons (o1 i _ (.var 3) _ (e_vJ rfl)) es_nil))) (mn i j hi hj')) (bin_mul (mulOk_l sb))) rfl (by rw [List.length_map, List.length_map, List.length_range]; show j < 1000000; omega)
      refine ⟨_, s_cons (x_set s1 rfl) (s_cons v s_nil), some (rgE j), some (.int (sgn (i + j))), ?_⟩
      rw [List.range_succ, List.map_append, List.map_append]; rfl
    rw [Nat.zero_add] at q
    exact ⟨z5', z6', x_for (g_rn1 (n := n) (e_vI rfl) (by omega)) q⟩
  have len : ev (callK fs (k + 2)) (.bi .len (.cons (.var 0) .nil)) ([some (tabD t)].append (List.replicate 6 none)) st = .ok (.int (n : Int)) st := e_bi (es_cons (e_vTab rfl) es_nil) (by rw [len_tab, T.s.1])
  obtain ⟨env', q, z3, z4, z5, z6, rfl⟩ := for_N (v := 3) (f := execs (callK fs (k + 2)) (.cons (.set 4 (.lst .nil))
    (.cons (.for_ [5] false (.r1 (.var 1)) (.cons (.set 6 (.ite (.cmp .eq (.bin .mod (.bi .int (.cons (.bin .add (.var 3) (.var 5)) .nil)) (.int 2)) (.int 0)) (.int 1) (.neg (.int 1))))
    (.cons (.append 4 (.bin .mul (.var 6) (.call mf (.cons (.var 0) (.cons (.call of (.cons (.var 1) (.cons (.tup (.cons (.var 5) .nil)) .nil))) (.cons (.call of (.cons (.var 1) (.cons (.tup (.cons (.var 3) .nil)) .nil))) .nil))))))
    .nil)))
    (.cons (.append 2 (.bi .tuple (.cons (.var 4) .nil)))
    .nil)))) (st := st)
    (Inv := fun i env => ∃ z3 z4 z5 z6, env = [some (tabD t), some (.int (n : Int)), some (.lst .own (((List.range i).map fun i => (List.range n).map fun j => cofV t n i j).map rowD)), z3, z4, z5, z6]) n 0 [some (tabD t), some (.int (n : Int)), some (.lst .own []), none, none, none, none] ⟨none, none, none, none, rfl⟩ fun i env _ hi ⟨z3, z4, z5, z6, e⟩ => by
    subst e
    obtain ⟨z5', z6', h⟩ := inner i (((List.range i).map fun i => (List.range n).map fun j => cofV t n i j).map rowD) z5 z6 (by omega)
    have v := x_append (call := callK fs (k + 2)) (env := [some (tabD t), some (.int (n : Int)), some (.lst .own (((List.range i).map fun i => (List.range n).map fun j => cofV t n i j).map rowD)), some (rgE i), some (.lst .own (((List.range n).map fun j => cofV t n i j).map D.int)), z5', z6']) (st := st) (i := 2) (e := .bi .tuple (.cons (.var 4) .nil)) (x := rowD ((List.range n).map fun j => cofV t n i j)) rfl
      (e_bi (es_cons (e_var (x := .lst .bor (((List.range n).map fun j => cofV t n i j).map D.int)) rfl (by show D.lst .bor (bwL _) = _; rw [bwL_ints])) es_nil) (tup_ints _)) (pl_row _).kp (by rw [List.length_map, List.length_map, List.length_range]; show i < 1000000; omega)
    refine ⟨_, s_cons (x_set (x := .lst .own []) (e_lst es_nil) rfl) (s_cons h (s_cons v s_nil)), some (rgE i), some (.lst .own (((List.range n).map fun j => cofV t n i j).map D.int)), z5', z6', ?_⟩
    rw [List.range_succ, List.map_append, List.map_append]; rfl
  rw [Nat.zero_add] at q
  refine s_cons (env' := [some (tabD t), some (.int (n : Int)), none, none, none, none, none]) (x_set len rfl) (s_cons (env' := [some (tabD t), some (.int (n : Int)), some (.lst .own []), none, none, none, none]) (x_set (x := .lst .own []) (e_lst es_nil) rfl) (s_cons (x_for (g_rn1 (n := n) (e_vI rfl) (by omega)) q) (s_rt (x_ret (x := tabD (mat n n (cofV t n))) ?_ (pl_tab _).kp))))
  refine e_bi (es_cons (e_var (x := .lst .bor ((mat n n (cofV t n)).map rowD)) rfl ?_) es_nil) (tup_rows _)
  show D.lst .bor (bwL _) = _
  rw [bwL_rows]; rfl
end
end PL
namespace PL
open PySem
open L2 (atI ixN)
theorem for_bad {α : Type} {v : Nat} {f : Env → M Fl} {st : Store} {enc : α → D} {P : α → Bool} {Inv : List α → Env → Prop} {d : D} (N : Nat) : ∀ (ys p : List α) (env : Env), p.length + ys.length = N → Inv p env →
    (∀ p' x env, x ∈ ys → p'.length < N → Inv p' env → if P x = true then f (env.set v (some (enc x))) st = .ok (.rt d) st else ∃ env', f (env.set v (some (enc x))) st = .ok (.nx env') st ∧ Inv (p' ++ [x]) env') →
    if ys.any P = true then forM [v] false f (ys.map enc) env st = .ok (.rt d) st else ∃ env', forM [v] false f (ys.map enc) env st = .ok (.nx env') st ∧ Inv (p ++ ys) env'
  | [], p, env, _, h0, _ => by
    rw [if_neg (by simp)]
    exact ⟨env, for_nil, by rw [List.append_nil]; exact h0⟩
  | y :: ys, p, env, hN, h0, h => by
    rw [List.length_cons] at hN
    have h1 := h p y env List.mem_cons_self (by omega) h0
    by_cases hp : P y = true
    · rw [if_pos hp] at h1
      rw [if_pos (by simp [hp])]
      exact for_rt rfl h1
    · rw [if_neg hp] at h1
      obtain ⟨env1, q1, i1⟩ := h1
      have h2 := for_bad N ys (p ++ [y]) env1 (by rw [List.length_append, List.length_singleton]; omega) i1 fun p' x env m => h p' x env (List.mem_cons_of_mem _ m)
      by_cases ha : ys.any P = true
      · rw [if_pos ha] at h2
        rw [if_pos (by rw [List.any_cons, ha]; simp)]
        exact for_nx rfl q1 h2
      · rw [if_neg ha] at h2
        obtain ⟨env2, q2, i2⟩ := h2
        rw [if_neg (by rw [List.any_cons]; simp [hp]; simpa using ha)]
        exact ⟨env2, for_nx rfl q1 q2, by rw [List.append_assoc] at i2; exact i2⟩
theorem for_badL {α : Type} {v : Nat} {f : Env → M Fl} {st : Store} {enc : α → D} {P : α → Bool} {Inv : List α → Env → Prop} {d : D} (ys : List α) (env : Env) (h0 : Inv [] env)
    (h : ∀ p x env, x ∈ ys → p.length < ys.length → Inv p env → if P x = true then f (env.set v (some (enc x))) st = .ok (.rt d) st else ∃ env', f (env.set v (some (enc x))) st = .ok (.nx env') st ∧ Inv (p ++ [x]) env') :
    if ys.any P = true then forM [v] false f (ys.map enc) env st = .ok (.rt d) st else ∃ env', forM [v] false f (ys.map enc) env st = .ok (.nx env') st ∧ Inv ys env' := for_bad ys.length ys [] env (by simp) h0 h
/-! ### condensed -/
def condF (H P : Mx) : Mx := fun i j => (H i j * H (i + 1) (j + 1) - H i (j + 1) * H (i + 1) j).fdiv (P (i + 1) (j + 1))
def badJ (m : Nat) (P : Mx) (i : Nat) : Bool := (List.range m).any fun j => P (i + 1) (j + 1) == 0
def badI (m : Nat) (P : Mx) : Bool := (List.range m).any (badJ m P)
def cnd : Nat → Mx → Mx → Option (List (List (List Int)))
  | 0, _, _ => some []
  | 1, _, _ => some []
  | m + 2, P, H => if badI (m + 1) P then none else (cnd (m + 1) H (condF H P)).map (mat (m + 1) (m + 1) (condF H P) :: ·)
def CndOk : Nat → Mx → Mx → Prop
  | 0, _, _ => True
  | 1, _, _ => True
  | m + 2, P, H => (∀ i j, i < m + 2 → j < m + 2 → (H i j).natAbs < 2 ^ 64) ∧ (∀ i j, i < m + 3 → j < m + 3 → (P i j).natAbs < 2 ^ 64) ∧ (badI (m + 1) P = false → CndOk (m + 1) H (condF H P))
def cnV : E := .bin .sub (.bin .mul (.ix (.ix (.var 2) (.var 6)) (.var 8)) (.ix (.ix (.var 2) (.bin .add (.var 6) (.int 1))) (.bin .add (.var 8) (.int 1)))) (.bin .mul (.ix (.ix (.var 2) (.var 6)) (.bin .add (.var 8) (.int 1))) (.ix (.ix (.var 2) (.bin .add (.var 6) (.int 1))) (.var 8)))
def cnP : E := .ix (.ix (.var 3) (.bin .add (.var 6) (.int 1))) (.bin .add (.var 8) (.int 1))
def cnIn : Sts := .cons (.set 9 cnV) (.cons (.ite (.cmp .eq cnP (.int 0)) (.cons (.ret .non) .nil) .nil) (.cons (.append 7 (.bin .fdiv (.var 9) cnP)) .nil))
def cnRow : Sts := .cons (.set 7 (.lst .nil)) (.cons (.for_ [8] false (.r1 (.var 4)) cnIn) (.cons (.append 5 (.bi .tuple (.cons (.var 7) .nil))) .nil))
def cnBody : Sts := .cons (.par [2, 3] (.cons (.ix (.var 1) (.neg (.int 1))) (.cons (.ix (.var 1) (.neg (.int 2))) .nil)))
    (.cons (.set 4 (.bin .sub (.bi .len (.cons (.var 2) .nil)) (.int 1)))
    (.cons (.set 5 (.lst .nil))
    (.cons (.for_ [6] false (.r1 (.var 4)) cnRow)
    (.cons (.append 1 (.bi .tuple (.cons (.var 5) .nil)))
    .nil))))
def cnC : E := .cmp .gt (.bi .len (.cons (.ix (.var 1) (.neg (.int 1))) .nil)) (.int 1)
def cnFn : Fn := ⟨1, 10,
    (.cons (.set 1 (.lst (.cons (.bi .tuple (.cons (.bin .mul (.lst (.cons (.bin .mul (.tup (.cons (.int 1) .nil)) (.bin .add (.bi .len (.cons (.var 0) .nil)) (.int 1))) .nil)) (.bin .add (.bi .len (.cons (.var 0) .nil)) (.int 1))) .nil)) (.cons (.var 0) .nil))))
    (.cons (.whl 100000 cnC cnBody)
    (.cons (.ret (.sl (.var 1) (.some (.int 1)) .none))
    .nil)))⟩
def tbs (l : List (List (List Int))) : List D := l.map tabD
theorem bwL_tbs (l : List (List (List Int))) : bwL (tbs l) = tbs l := by
  unfold tbs
  rw [bwL_map, List.map_map]
  exact List.map_congr_left fun s _ => (pl_tab s).bw
theorem keepL_tbs (l : List (List (List Int))) : keepL (tbs l) = true := keepL_of' fun d m => by
  obtain ⟨s, _, rfl⟩ := List.mem_map.mp m; exact (pl_tab s).kp
def cnE (T : D) (rows : List (List (List Int))) (m : Nat) (H P : Mx) (acc : List (List Int)) (z6 z7 z8 z9 : Option D) : Env := [some T, some (.lst .own (tbs rows)), some (tabD (mat (m + 1) (m + 1) H)), some (tabD (mat (m + 2) (m + 2) P)), some (.int (m : Int)), some (.lst .own (acc.map rowD)), z6, z7, z8, z9]
section
variable {call : Nat → List D → M D} {st : Store} {T : D} {rows : List (List (List Int))} {m i j : Nat} {H P : Mx} {acc : List (List Int)} {z6 z7 z8 z9 : Option D}
theorem cn_in {r : List Int} (hi : i < m) (hj : j < m) (hH : ∀ i j, i < m + 1 → j < m + 1 → (H i j).natAbs < 2 ^ 64) (hP : ∀ i j, i < m + 2 → j < m + 2 → (P i j).natAbs < 2 ^ 64) (hr : r.length < 1000) :
    if (P (i + 1) (j + 1) == 0) = true then execs call cnIn (cnE T rows m H P acc (some (rgE i)) (some (.lst .own (r.map D.int))) (some (rgE j)) z9) st = .ok (.rt .non) st
    else execs call cnIn (cnE T rows m H P acc (some (rgE i)) (some (.lst .own (r.map D.int))) (some (rgE j)) z9) st = .ok (.nx (cnE T rows m H P acc (some (rgE i)) (some (.lst .own ((r ++ [condF H P i j]).map D.int))) (some (rgE j)) (some (.int (H i j * H (i + 1) (j + 1) - H i (j + 1) * H (i + 1) j))))) st := by
  have i1 : ∀ z9, ev call (.bin .add (.var 6) (.int 1)) (cnE T rows m H P acc (some (rgE i)) (some (.lst .own (r.map D.int))) (some (rgE j)) z9) st = .ok (.int ((i + 1 : Nat) : Int)) st := fun z9 => e_bin (e_vJ rfl) e_int bin_add
  have j1 : ∀ z9, ev call (.bin .add (.var 8) (.int 1)) (cnE T rows m H P acc (some (rgE i)) (some (.lst .own (r.map D.int))) (some (rgE j)) z9) st = .ok (.int ((j + 1 : Nat) : Int)) st := fun z9 => e_bin (e_vJ rfl) e_int bin_add
  have aH : ∀ (a b : Nat) (A B : E), a < m + 1 → b < m + 1 → ev call A (cnE T rows m H P acc (some (rgE i)) (some (.lst .own (r.map D.int))) (some (rgE j)) z9) st = .ok (.int (a : Int)) st → ev call B (cnE T rows m H P acc (some (rgE i)) (some (.lst .own (r.map D.int))) (some (rgE j)) z9) st = .ok (.int (b : Int)) st →
      ev call (.ix (.ix (.var 2) A) B) (cnE T rows m H P acc (some (rgE i)) (some (.lst .own (r.map D.int))) (some (rgE j)) z9) st = .ok (.int (H a b)) st := fun a b A B ha hb hA hB => by
    have sh := shp_mat (m + 1) (m + 1) H
    exact e_ixR (e_ixT (e_vTab rfl) hA (mat_at ha)) hB (map_range_at hb)
  have v : ev call cnV (cnE T rows m H P acc (some (rgE i)) (some (.lst .own (r.map D.int))) (some (rgE j)) z9) st = .ok (.int (H i j * H (i + 1) (j + 1) - H i (j + 1) * H (i + 1) j)) st :=
    e_bin (e_bin (aH i j _ _ (by omega) (by omega) (e_vJ rfl) (e_vJ rfl)) (aH (i + 1) (j + 1) _ _ (by omega) (by omega) (i1 _) (j1 _)) (bin_mul (mulOk_l (hH i j (by omega) (by omega))))) (e_bin (aH i (j + 1) _ _ (by omega) (by omega) (e_vJ rfl) (j1 _)) (aH (i + 1) j _ _ (by omega) (by omega) (i1 _) (e_vJ rfl)) (bin_mul (mulOk_l (hH i (j + 1) (by omega) (by omega))))) bin_sub
  have p : ∀ z9, ev call cnP (cnE T rows m H P acc (some (rgE i)) (some (.lst .own (r.map D.int))) (some (rgE j)) z9) st = .ok (.int (P (i + 1) (j + 1))) st := fun z9 => e_ixR (e_ixT (e_vTab rfl) (i1 z9) (mat_at (by omega))) (j1 z9) (map_range_at (by omega))
  have t := e_cmp (o := .eq) (p (some (.int (H i j * H (i + 1) (j + 1) - H i (j + 1) * H (i + 1) j)))) e_int (cmp_eqI (b := 0))
  by_cases hz : P (i + 1) (j + 1) = 0
  · rw [if_pos (by simpa using hz)]
    rw [decide_eq_true hz] at t
    exact s_cons (x_set v rfl) (s_rt (x_iteT (e_tst t rfl) (s_rt (x_ret e_non rfl))))
  · rw [if_neg (by simpa using hz)]
    rw [decide_eq_false hz] at t
    refine s_cons (x_set v rfl) (s_cons (x_iteF (e_tst t rfl) s_nil) (s_cons (x_append (x := .int (condF H P i j)) rfl (e_bin (e_vI (i := 9) rfl) (p _) (bin_fdiv (divOk_of hz (hP _ _ (by omega) (by omega))))) rfl (by rw [List.length_map]; show _ < 1000000; omega)) ?_))
    rw [List.map_append]; rfl
theorem cn_row (hm : m < 900) (hi : i < m) (hH : ∀ i j, i < m + 1 → j < m + 1 → (H i j).natAbs < 2 ^ 64) (hP : ∀ i j, i < m + 2 → j < m + 2 → (P i j).natAbs < 2 ^ 64) (ha : acc.length < 1000) :
    if badJ m P i = true then execs call cnRow (cnE T rows m H P acc (some (rgE i)) z7 z8 z9) st = .ok (.rt .non) st
    else ∃ z7' z8' z9', execs call cnRow (cnE T rows m H P acc (some (rgE i)) z7 z8 z9) st = .ok (.nx (cnE T rows m H P (acc ++ [(List.range m).map (condF H P i)]) (some (rgE i)) z7' z8' z9')) st := by
  have it : evF call (.r1 (.var 4)) (cnE T rows m H P acc (some (rgE i)) (some (.lst .own [])) z8 z9) st = .ok ((List.range m).map rgE) st := by
    have := g_rn1 (call := call) (env := cnE T rows m H P acc (some (rgE i)) (some (.lst .own [])) z8 z9) (st := st) (a := .var 4) (n := m) (e_vI rfl) (by omega)
    rw [← List.range_eq_range'] at this; exact this
  have q := for_badL (v := 8) (f := execs call cnIn) (st := st) (enc := rgE) (P := fun j => P (i + 1) (j + 1) == 0) (d := .non) (Inv := fun p env => ∃ z8 z9, env = cnE T rows m H P acc (some (rgE i)) (some (.lst .own ((p.map (condF H P i)).map D.int))) z8 z9) (List.range m) (cnE T rows m H P acc (some (rgE i)) (some (.lst .own [])) z8 z9) ⟨z8, z9, rfl⟩ fun p j env mj hl ⟨z8, z9, e⟩ => by
    subst e
    have hj := List.mem_range.mp mj
    rw [List.length_range] at hl
    have s := cn_in (call := call) (st := st) (T := T) (rows := rows) (acc := acc) (z9 := z9) (r := p.map (condF H P i)) hi hj hH hP (by rw [List.length_map]; omega)
    by_cases hz : (P (i + 1) (j + 1) == 0) = true
    · rw [if_pos hz] at s ⊢
      exact s
    · rw [if_neg hz] at s ⊢
      exact ⟨_, s, some (rgE j), some (.int (H i j * H (i + 1) (j + 1) - H i (j + 1) * H (i + 1) j)), by simp only [List.map_append, List.map_cons, List.map_nil]⟩
  change (if badJ m P i = true then _ else _) at q
  have s0 : exec call (.set 7 (.lst .nil)) (cnE T rows m H P acc (some (rgE i)) z7 z8 z9) st = .ok (.nx (cnE T rows m H P acc (some (rgE i)) (some (.lst .own [])) z8 z9)) st := x_set (x := .lst .own []) (e_lst es_nil) rfl
  by_cases hb : badJ m P i = true
  · rw [if_pos hb] at q ⊢
    exact s_cons s0 (s_rt (x_for it q))
  · rw [if_neg hb] at q ⊢
    obtain ⟨env', q, z8', z9', rfl⟩ := q
    refine ⟨some (.lst .own (((List.range m).map (condF H P i)).map D.int)), z8', z9', s_cons s0 (s_cons (x_for it q) (s_cons (x_append (x := rowD ((List.range m).map (condF H P i))) rfl (e_bi (es_cons (e_var (i := 7) (x := .lst .bor (((List.range m).map (condF H P i)).map D.int)) rfl (by show D.lst .bor (bwL _) = _; rw [bwL_ints])) es_nil) (tup_ints _)) (pl_row _).kp (by rw [List.length_map]; show _ < 1000000; omega)) ?_))⟩
    have e : (acc ++ [(List.range m).map (condF H P i)]).map rowD = acc.map rowD ++ [rowD ((List.range m).map (condF H P i))] := by rw [List.map_append]; rfl
    unfold cnE
    rw [e]; rfl
theorem ix_last {α : Type} {l : List α} {n : Nat} (h : l.length = n + 1) : atI l (-1) = l[n]? := by
  unfold atI ixN
  rw [if_neg (by decide), h, if_pos (by omega)]
  show l[((-1 : Int) + ((n + 1 : Nat) : Int)).toNat]? = _
  congr 1; omega
theorem ix_last2 {α : Type} {l : List α} {n : Nat} (h : l.length = n + 2) : atI l (-2) = l[n]? := by
  unfold atI ixN
  rw [if_neg (by decide), h, if_pos (by omega)]
  show l[((-2 : Int) + ((n + 2 : Nat) : Int)).toNat]? = _
  congr 1; omega
/-- one turn of the while -/
theorem cn_body {rows : List (List (List Int))} {z2 z3 z4 z5 z6 z7 z8 z9 : Option D} (hm : m < 900) (hH : ∀ i j, i < m + 1 → j < m + 1 → (H i j).natAbs < 2 ^ 64) (hP : ∀ i j, i < m + 2 → j < m + 2 → (P i j).natAbs < 2 ^ 64) (hl : rows.length < 1000) :
    if badI m P = true then execs call cnBody [some T, some (.lst .own (tbs (rows ++ [mat (m + 2) (m + 2) P, mat (m + 1) (m + 1) H]))), z2, z3, z4, z5, z6, z7, z8, z9] st = .ok (.rt .non) st
    else ∃ z2' z3' z4' z5' z6' z7' z8' z9', execs call cnBody [some T, some (.lst .own (tbs (rows ++ [mat (m + 2) (m + 2) P, mat (m + 1) (m + 1) H]))), z2, z3, z4, z5, z6, z7, z8, z9] st = .ok (.nx [some T, some (.lst .own (tbs (rows ++ [mat (m + 2) (m + 2) P, mat (m + 1) (m + 1) H, mat m m (condF H P)]))), z2', z3', z4', z5', z6', z7', z8', z9']) st := by
  have hlen : (tbs (rows ++ [mat (m + 2) (m + 2) P, mat (m + 1) (m + 1) H])).length = rows.length + 2 := by unfold tbs; rw [List.length_map, List.length_append]; rfl
  have vr : ∀ z2 z3, ev call (.var 1) [some T, some (.lst .own (tbs (rows ++ [mat (m + 2) (m + 2) P, mat (m + 1) (m + 1) H]))), z2, z3, z4, z5, z6, z7, z8, z9] st = .ok (.lst .bor (tbs (rows ++ [mat (m + 2) (m + 2) P, mat (m + 1) (m + 1) H]))) st := fun z2 z3 => e_var rfl (by show D.lst .bor (bwL _) = _; rw [bwL_tbs])
  have a1 : atI (tbs (rows ++ [mat (m + 2) (m + 2) P, mat (m + 1) (m + 1) H])) (-1) = some (tabD (mat (m + 1) (m + 1) H)) := by
    rw [ix_last hlen]
    unfold tbs
    rw [List.getElem?_map, List.getElem?_append_right (by omega), show rows.length + 1 - rows.length = 1 by omega]; rfl
  have a2 : atI (tbs (rows ++ [mat (m + 2) (m + 2) P, mat (m + 1) (m + 1) H])) (-2) = some (tabD (mat (m + 2) (m + 2) P)) := by
    rw [ix_last2 hlen]
    unfold tbs
    rw [List.getElem?_map, List.getElem?_append_right (by omega), Nat.sub_self]; rfl
  have p1 : exec call (.par [2, 3] (.cons (.ix (.var 1) (.neg (.int 1))) (.cons (.ix (.var 1) (.neg (.int 2))) .nil))) [some T, some (.lst .own (tbs (rows ++ [mat (m + 2) (m + 2) P, mat (m + 1) (m + 1) H]))), z2, z3, z4, z5, z6, z7, z8, z9] st =
      .ok (.nx [some T, some (.lst .own (tbs (rows ++ [mat (m + 2) (m + 2) P, mat (m + 1) (m + 1) H]))), some (tabD (mat (m + 1) (m + 1) H)), some (tabD (mat (m + 2) (m + 2) P)), z4, z5, z6, z7, z8, z9]) st :=
    x_par (ds := [tabD (mat (m + 1) (m + 1) H), tabD (mat (m + 2) (m + 2) P)]) (es_cons (e_ix (vr _ _) (e_neg e_int) (ix_lst a1)) (es_cons (e_ix (vr _ _) (e_neg e_int) (ix_lst a2)) es_nil)) (keepL_tbs [mat (m + 1) (m + 1) H, mat (m + 2) (m + 2) P]) rfl
  have l2 : ev call (.bin .sub (.bi .len (.cons (.var 2) .nil)) (.int 1)) [some T, some (.lst .own (tbs (rows ++ [mat (m + 2) (m + 2) P, mat (m + 1) (m + 1) H]))), some (tabD (mat (m + 1) (m + 1) H)), some (tabD (mat (m + 2) (m + 2) P)), z4, z5, z6, z7, z8, z9] st = .ok (.int (m : Int)) st := by
    have := e_bin (call := call) (st := st) (env := [some T, some (.lst .own (tbs (rows ++ [mat (m + 2) (m + 2) P, mat (m + 1) (m + 1) H]))), some (tabD (mat (m + 1) (m + 1) H)), some (tabD (mat (m + 2) (m + 2) P)), z4, z5, z6, z7, z8, z9]) (a := .bi .len (.cons (.var 2) .nil)) (b := .int 1) (e_bi (es_cons (e_vTab rfl) es_nil) (len_tab _)) e_int bin_sub
    rw [(shp_mat _ _ _).1, show (((m + 1 : Nat) : Int) - 1) = (m : Int) by omega] at this
    exact this
  have it : evF call (.r1 (.var 4)) (cnE T (rows ++ [mat (m + 2) (m + 2) P, mat (m + 1) (m + 1) H]) m H P [] z6 z7 z8 z9) st = .ok ((List.range m).map rgE) st := by
    have := g_rn1 (call := call) (env := cnE T (rows ++ [mat (m + 2) (m + 2) P, mat (m + 1) (m + 1) H]) m H P [] z6 z7 z8 z9) (st := st) (a := .var 4) (n := m) (e_vI rfl) (by omega)
    rw [← List.range_eq_range'] at this; exact this
  have q := for_badL (v := 6) (f := execs call cnRow) (st := st) (enc := rgE) (P := badJ m P) (d := .non) (Inv := fun p env => ∃ z6 z7 z8 z9, env = cnE T (rows ++ [mat (m + 2) (m + 2) P, mat (m + 1) (m + 1) H]) m H P (p.map fun i => (List.range m).map (condF H P i)) z6 z7 z8 z9) (List.range m) (cnE T (rows ++ [mat (m + 2) (m + 2) P, mat (m + 1) (m + 1) H]) m H P [] z6 z7 z8 z9) ⟨z6, z7, z8, z9, rfl⟩ fun p i env mi hl ⟨z6, z7, z8, z9, e⟩ => by
    subst e
    have hi := List.mem_range.mp mi
    rw [List.length_range] at hl
    have s := cn_row (call := call) (st := st) (T := T) (rows := rows ++ [mat (m + 2) (m + 2) P, mat (m + 1) (m + 1) H]) (acc := p.map fun i => (List.range m).map (condF H P i)) (z7 := z7) (z8 := z8) (z9 := z9) hm hi hH hP (by rw [List.length_map]; omega)
    by_cases hz : badJ m P i = true
    · rw [if_pos hz] at s ⊢
      exact s
    · rw [if_neg hz] at s ⊢
      obtain ⟨z7', z8', z9', s⟩ := s
      exact ⟨_, s, some (rgE i), z7', z8', z9', by simp only [List.map_append, List.map_cons, List.map_nil]⟩
  change (if badI m P = true then _ else _) at q
  by_cases hb : badI m P = true
  · rw [if_pos hb] at q ⊢
    exact s_cons p1 (s_cons (x_set l2 rfl) (s_cons (x_set (x := .lst .own []) (e_lst es_nil) rfl) (s_rt (x_for it q))))
  · rw [if_neg hb] at q ⊢
    obtain ⟨env', q, z6', z7', z8', z9', rfl⟩ := q
    refine ⟨some (tabD (mat (m + 1) (m + 1) H)), some (tabD (mat (m + 2) (m + 2) P)), some (.int (m : Int)), some (.lst .own ((mat m m (condF H P)).map rowD)), z6', z7', z8', z9', s_cons p1 (s_cons (x_set l2 rfl) (s_cons (x_set (x := .lst .own []) (e_lst es_nil) rfl) (s_cons (x_for it q) (s_cons (x_append (x := tabD (mat m m (condF H P))) rfl (e_bi (es_cons (e_var (i := 5) (x := .lst .bor ((mat m m (condF H P)).map rowD)) rfl (by show D.lst .bor (bwL ((mat m m (condF H P)).map rowD)) = _; rw [bwL_rows])) es_nil) (tup_rows _)) (pl_tab _).kp (by rw [hlen]; show _ < 1000000; omega)) ?_))))⟩
    have e : tbs (rows ++ [mat (m + 2) (m + 2) P, mat (m + 1) (m + 1) H, mat m m (condF H P)]) = tbs (rows ++ [mat (m + 2) (m + 2) P, mat (m + 1) (m + 1) H]) ++ [tabD (mat m m (condF H P))] := by
      unfold tbs
      rw [List.map_append, List.map_append, List.append_assoc]; rfl
    rw [e]; rfl
theorem cn_test {rows : List (List (List Int))} {L : List (List Int)} {z2 z3 z4 z5 z6 z7 z8 z9 : Option D} (hm : L.length = m) : tstD (ev call cnC) [some T, some (.lst .own (tbs (rows ++ [L]))), z2, z3, z4, z5, z6, z7, z8, z9] st = .ok (decide (1 < m)) st := by
  have hlen : (tbs (rows ++ [L])).length = rows.length + 1 := by unfold tbs; rw [List.length_map, List.length_append]; rfl
  have a1 : atI (tbs (rows ++ [L])) (-1) = some (tabD L) := by
    rw [ix_last hlen]
    unfold tbs
    rw [List.getElem?_map, List.getElem?_append_right (by omega), Nat.sub_self]; rfl
  have h := e_cmp (call := call) (o := .gt) (st := st) (env := [some T, some (.lst .own (tbs (rows ++ [L]))), z2, z3, z4, z5, z6, z7, z8, z9]) (a := .bi .len (.cons (.ix (.var 1) (.neg (.int 1))) .nil)) (b := .int 1) (e_bi (es_cons (e_ix (x := .lst .bor (tbs (rows ++ [L]))) (e_var rfl (by show D.lst .bor (bwL _) = _; rw [bwL_tbs])) (e_neg e_int) (ix_lst a1)) es_nil) (len_tab _)) e_int cmp_gtI
  rw [hm] at h
  have e : decide ((1 : Int) < (m : Int)) = decide (1 < m) := decide_eq_decide.mpr (by omega)
  rw [e] at h
  exact e_tst h rfl
theorem cn_while : ∀ (m : Nat) (P H : Mx) (rows : List (List (List Int))) (z2 z3 z4 z5 z6 z7 z8 z9 : Option D) (k : Nat), m < 100 → rows.length + m < 900 → m < k → CndOk (m + 1) P H →
    match cnd (m + 1) P H with
    | none => whileM (tstD (ev call cnC)) (execs call cnBody) k [some T, some (.lst .own (tbs (rows ++ [mat (m + 2) (m + 2) P, mat (m + 1) (m + 1) H]))), z2, z3, z4, z5, z6, z7, z8, z9] st = .ok (.rt .non) st
    | some l => ∃ z2' z3' z4' z5' z6' z7' z8' z9', whileM (tstD (ev call cnC)) (execs call cnBody) k [some T, some (.lst .own (tbs (rows ++ [mat (m + 2) (m + 2) P, mat (m + 1) (m + 1) H]))), z2, z3, z4, z5, z6, z7, z8, z9] st = .ok (.nx [some T, some (.lst .own (tbs (rows ++ [mat (m + 2) (m + 2) P, mat (m + 1) (m + 1) H] ++ l))), z2', z3', z4', z5', z6', z7', z8', z9']) st := by
  intro m
  induction m with
  | zero =>
    intro P H rows z2 z3 z4 z5 z6 z7 z8 z9 k _ _ hk _
    obtain ⟨k, rfl⟩ : ∃ k', k = k' + 1 := ⟨k - 1, by omega⟩
    refine ⟨z2, z3, z4, z5, z6, z7, z8, z9, ?_⟩
    have t := cn_test (call := call) (st := st) (T := T) (rows := rows ++ [mat 2 2 P]) (L := mat 1 1 H) (m := 1) (z2 := z2) (z3 := z3) (z4 := z4) (z5 := z5) (z6 := z6) (z7 := z7) (z8 := z8) (z9 := z9) (shp_mat 1 1 H).1
    rw [List.append_assoc] at t
    rw [List.append_nil]
    exact while_f t
  | succ m ih =>
    intro P H rows z2 z3 z4 z5 z6 z7 z8 z9 k hm hr hk hC
    obtain ⟨k, rfl⟩ : ∃ k', k = k' + 1 := ⟨k - 1, by omega⟩
    have t := cn_test (call := call) (st := st) (T := T) (rows := rows ++ [mat (m + 3) (m + 3) P]) (L := mat (m + 2) (m + 2) H) (m := m + 2) (z2 := z2) (z3 := z3) (z4 := z4) (z5 := z5) (z6 := z6) (z7 := z7) (z8 := z8) (z9 := z9) (shp_mat _ _ H).1
    rw [List.append_assoc, decide_eq_true (by omega)] at t
    obtain ⟨c1, c2, c3⟩ := hC
    have b := cn_body (call := call) (st := st) (T := T) (m := m + 1) (H := H) (P := P) (rows := rows) (z2 := z2) (z3 := z3) (z4 := z4) (z5 := z5) (z6 := z6) (z7 := z7) (z8 := z8) (z9 := z9) (by omega) c1 c2 (by omega)
    unfold cnd
    by_cases hb : badI (m + 1) P = true
    · rw [if_pos hb] at b ⊢
      dsimp only
      unfold whileM
      exact M.bind_of t (M.bind_of b rfl)
    · rw [if_neg hb] at b ⊢
      obtain ⟨y2, y3, y4, y5, y6, y7, y8, y9, b⟩ := b
      have hi := ih H (condF H P) (rows ++ [mat (m + 3) (m + 3) P]) y2 y3 y4 y5 y6 y7 y8 y9 k (by omega) (by rw [List.length_append]; show rows.length + 1 + m < 900; omega) (by omega) (c3 (by simpa using hb))
      rw [List.append_assoc] at hi
      cases hc : cnd (m + 1) H (condF H P) with
      | none =>
        rw [hc] at hi
        exact while_t t b hi
      | some l =>
        rw [hc] at hi
        obtain ⟨x2, x3, x4, x5, x6, x7, x8, x9, hi⟩ := hi
        refine ⟨x2, x3, x4, x5, x6, x7, x8, x9, ?_⟩
        have := while_t t b hi
        have e : rows ++ [mat (m + 3) (m + 3) P, mat (m + 2) (m + 2) H] ++ mat (m + 1) (m + 1) (condF H P) :: l = rows ++ ([mat (m + 3) (m + 3) P] ++ [mat (m + 2) (m + 2) H, mat (m + 1) (m + 1) (condF H P)]) ++ l := by simp
        rw [e]
        exact this
end
end PL
namespace PL
open PySem
open L2 (atI ixN)
def oneF : Mx := fun _ _ => 1
/-- minors of neighbours -/
def blk (s : Nat) (F : Mx) : Mx := fun i j => dtF s fun a b => F (i + a) (j + b)
def zBs (n : Nat) (F : Mx) (s : Nat) : Bool := (List.range' 1 (n - 1 - s)).any fun i => (List.range' 1 (n - 1 - s)).any fun j => blk s F i j == 0
def zB (n : Nat) (F : Mx) : Bool := (List.range' 1 (n - 2)).any (zBs n F)
def blks (n : Nat) (F : Mx) : List (List (List Int)) := (List.range' 1 n).map fun s => mat (n + 1 - s) (n + 1 - s) (blk s F)
theorem bad_one (m : Nat) : badI m oneF = false := by
  unfold badI badJ oneF
  simp
theorem any_shift (m : Nat) (p : Nat → Bool) : ((List.range m).any fun j => p (j + 1)) = (List.range' 1 m).any p := by
  rw [List.range'_eq_map_range, List.any_map]
  congr 1
  funext j
  show p (j + 1) = p (1 + j)
  rw [Nat.add_comm]
theorem badI_eq (m : Nat) (P : Mx) : badI m P = (List.range' 1 m).any fun i => (List.range' 1 m).any fun j => P i j == 0 := by
  unfold badI badJ
  rw [← any_shift]
  congr 1
  funext i
  exact any_shift m fun j => P (i + 1) j == 0
theorem cond_one {F : Mx} : condF F oneF = blk 2 F := by
  funext i j
  unfold condF oneF blk
  rw [fdiv_one]
  simp only [dtF, Nat.add_zero]
theorem cond_two {F : Mx} {i j : Nat} (h : F (i + 1) (j + 1) ≠ 0) : condF (blk 2 F) F i j = blk 3 F i j := by
  unfold condF
  refine fdiv_ex h ?_
  unfold blk
  simp only [dtF, d3, Nat.add_zero, Nat.add_assoc]
  grind
theorem cond_three {F : Mx} {i j : Nat} (h : blk 2 F (i + 1) (j + 1) ≠ 0) : condF (blk 3 F) (blk 2 F) i j = blk 4 F i j := by
  unfold condF
  refine fdiv_ex h ?_
  unfold blk
  simp only [dtF, d3, d4, Nat.add_zero, Nat.add_assoc]
  grind
theorem bad_at {m : Nat} {P : Mx} (h : badI m P = false) {i j : Nat} (hi : i < m) (hj : j < m) : P (i + 1) (j + 1) ≠ 0 := by
  unfold badI badJ at h
  rw [List.any_eq_false] at h
  have h1 := h i (List.mem_range.mpr hi)
  have h2 : ((List.range m).any fun j => P (i + 1) (j + 1) == 0) = false := by simpa using h1
  rw [List.any_eq_false] at h2
  simpa using h2 j (List.mem_range.mpr hj)
theorem cnd_congr : ∀ (m : Nat) {P H G : Mx}, (∀ i j, i < m → j < m → H i j = G i j) → cnd m P H = cnd m P G
  | 0, P, H, G, h => rfl
  | 1, P, H, G, h => rfl
  | m + 2, P, H, G, h => by
    have e : ∀ i j, i < m + 1 → j < m + 1 → condF H P i j = condF G P i j := fun i j hi hj => by
      unfold condF
      rw [h i j (by omega) (by omega), h (i + 1) (j + 1) (by omega) (by omega), h i (j + 1) (by omega) (by omega), h (i + 1) j (by omega) (by omega)]
    unfold cnd
    rw [mat_congr fun i hi j hj => e i j hi hj, cnd_congr' (m + 1) (fun i j hi hj => h i j (by omega) (by omega)) e]
where
  cnd_congr' : ∀ (m : Nat) {P P' H G : Mx}, (∀ i j, i < m + 1 → j < m + 1 → P i j = P' i j) → (∀ i j, i < m → j < m → H i j = G i j) → cnd m P H = cnd m P' G
  | 0, P, P', H, G, hp, h => rfl
  | 1, P, P', H, G, hp, h => rfl
  | m + 2, P, P', H, G, hp, h => by
    have eb : badI (m + 1) P = badI (m + 1) P' := by
      rw [badI_eq, badI_eq]
      rw [Bool.eq_iff_iff, List.any_eq_true, List.any_eq_true]
      constructor
      · rintro ⟨i, mi, q⟩
        refine ⟨i, mi, ?_⟩
        rw [List.any_eq_true] at q ⊢
        obtain ⟨j, mj, q⟩ := q
        rw [List.mem_range'_1] at mi mj
        exact ⟨j, List.mem_range'_1.mpr mj, by rw [← hp i j (by omega) (by omega)]; exact q⟩
      · rintro ⟨i, mi, q⟩
        refine ⟨i, mi, ?_⟩
        rw [List.any_eq_true] at q ⊢
        obtain ⟨j, mj, q⟩ := q
        rw [List.mem_range'_1] at mi mj
        exact ⟨j, List.mem_range'_1.mpr mj, by rw [hp i j (by omega) (by omega)]; exact q⟩
    have e : ∀ i j, i < m + 1 → j < m + 1 → condF H P i j = condF G P' i j := fun i j hi hj => by
      unfold condF
      rw [h i j (by omega) (by omega), h (i + 1) (j + 1) (by omega) (by omega), h i (j + 1) (by omega) (by omega), h (i + 1) j (by omega) (by omega), hp (i + 1) (j + 1) (by omega) (by omega)]
    unfold cnd
    rw [eb, mat_congr fun i hi j hj => e i j hi hj, cnd_congr' (m + 1) (fun i j hi hj => h i j (by omega) (by omega)) e]
end PL
namespace PL
open PySem
open L2 (atI ixN)
theorem blk1 {F : Mx} : blk 1 F = F := by
  funext i j; rfl
theorem cnd2 {P H : Mx} : cnd 2 P H = if badI 1 P then none else some [mat 1 1 (condF H P)] := by
  unfold cnd
  split
  · rfl
  · rfl
theorem cnd_val {n : Nat} {F : Mx} (h0 : 1 ≤ n) (h4 : n ≤ 4) : cnd n oneF F = if zB n F then none else some ((blks n F).drop 1) := by
  rcases (show n = 1 ∨ n = 2 ∨ n = 3 ∨ n = 4 by omega) with rfl | rfl | rfl | rfl
  · rfl
  · rw [cnd2, bad_one, cond_one]; rfl
  · have z : zB 3 F = badI 1 F := by
      rw [badI_eq]
      show ((zBs 3 F 1) || false) = _
      rw [Bool.or_false]
      unfold zBs
      rw [blk1]
    rw [z]
    unfold cnd
    rw [bad_one, cond_one, cnd2]
    cases hb : badI 1 F with
    | true => rfl
    | false =>
      have e : mat 1 1 (condF (blk 2 F) F) = mat 1 1 (blk 3 F) := mat_congr fun i hi j hj => cond_two (bad_at hb hi hj)
      rw [e]; rfl
  · have z : zB 4 F = (badI 2 F || badI 1 (blk 2 F)) := by
      rw [badI_eq, badI_eq]
      show ((zBs 4 F 1) || ((zBs 4 F 2) || false)) = _
      rw [Bool.or_false]
      unfold zBs
      rw [blk1]
    rw [z]
    unfold cnd
    rw [bad_one, cond_one]
    unfold cnd
    cases hb : badI 2 F with
    | true => rfl
    | false =>
      have e : ∀ i j, i < 2 → j < 2 → condF (blk 2 F) F i j = blk 3 F i j := fun i j hi hj => cond_two (bad_at hb hi hj)
      rw [mat_congr fun i hi j hj => e i j hi hj, cnd_congr 2 e, cnd2]
      cases hc : badI 1 (blk 2 F) with
      | true => rfl
      | false =>
        have e2 : mat 1 1 (condF (blk 3 F) (blk 2 F)) = mat 1 1 (blk 4 F) := mat_congr fun i hi j hj => cond_three (bad_at hc hi hj)
        rw [e2]; rfl
theorem blk2_sm {n : Nat} {F : Mx} (h : SmF n SB F) : ∀ i j, i < n - 1 → j < n - 1 → (blk 2 F i j).natAbs < 2 ^ 64 := fun i j hi hj => by
  unfold blk
  simp only [dtF, Nat.add_zero]
  exact lt64' (na_sub (na_mul (h _ _ (by omega) (by omega)) (h _ _ (by omega) (by omega))) (na_mul (h _ _ (by omega) (by omega)) (h _ _ (by omega) (by omega)))) (by decide)
theorem blk3_sm {n : Nat} {F : Mx} (h : SmF n SB F) : ∀ i j, i < n - 2 → j < n - 2 → (blk 3 F i j).natAbs < 2 ^ 64 := fun i j hi hj => by
  unfold blk
  simp only [dtF, Nat.add_zero]
  exact lt64' (d3_sm (h _ _ (by omega) (by omega)) (h _ _ (by omega) (by omega)) (h _ _ (by omega) (by omega)) (h _ _ (by omega) (by omega)) (h _ _ (by omega) (by omega)) (h _ _ (by omega) (by omega)) (h _ _ (by omega) (by omega)) (h _ _ (by omega) (by omega)) (h _ _ (by omega) (by omega))) (by decide)
theorem one_sm {n : Nat} : ∀ i j, i < n → j < n → (oneF i j).natAbs < 2 ^ 64 := fun i j _ _ => by show (1 : Int).natAbs < _; decide
theorem cnd_ok {n : Nat} {F : Mx} (h0 : 1 ≤ n) (h4 : n ≤ 4) (h : SmF n SB F) : CndOk n oneF F := by
  have hF : ∀ i j, i < n → j < n → (F i j).natAbs < 2 ^ 64 := fun i j hi hj => lt64' (h i j hi hj) (by decide)
  have h2 := blk2_sm h
  have h3 := blk3_sm h
  rcases (show n = 1 ∨ n = 2 ∨ n = 3 ∨ n = 4 by omega) with rfl | rfl | rfl | rfl
  · trivial
  · exact ⟨hF, one_sm, fun _ => trivial⟩
  · refine ⟨hF, one_sm, fun _ => ?_⟩
    rw [cond_one]
    exact ⟨h2, hF, fun _ => trivial⟩
  · refine ⟨hF, one_sm, fun _ => ?_⟩
    rw [cond_one]
    refine ⟨h2, hF, fun hb => ⟨fun i j hi hj => ?_, h2, fun _ => trivial⟩⟩
    rw [cond_two (bad_at hb hi hj)]
    exact h3 i j (by omega) (by omega)
theorem cn_init {call : Nat → List D → M D} {st : Store} {n : Nat} {t : List (List Int)} {env : Env} (h0 : 1 ≤ n) (h4 : n ≤ 4) (hl : t.length = n) (hv : env[0]? = some (some (tabD t))) :
    ev call (.lst (.cons (.bi .tuple (.cons (.bin .mul (.lst (.cons (.bin .mul (.tup (.cons (.int 1) .nil)) (.bin .add (.bi .len (.cons (.var 0) .nil)) (.int 1))) .nil)) (.bin .add (.bi .len (.cons (.var 0) .nil)) (.int 1))) .nil)) (.cons (.var 0) .nil))) env st = .ok (.lst .own (tbs [mat (n + 1) (n + 1) oneF, t])) st := by
  have l : ev call (.bin .add (.bi .len (.cons (.var 0) .nil)) (.int 1)) env st = .ok (.int ((n + 1 : Nat) : Int)) st := by
    refine e_bin (e_bi (es_cons (e_vTab hv) es_nil) (len_tab t)) e_int ?_
    rw [hl]; rfl
  have m1 : binD .mul (.tup [.int 1]) (.int ((n + 1 : Nat) : Int)) = some (rowD ((List.range (n + 1)).map fun _ => 1)) := by
    rcases (show n = 1 ∨ n = 2 ∨ n = 3 ∨ n = 4 by omega) with rfl | rfl | rfl | rfl <;> rfl
  have m2 : binD .mul (.lst .own [rowD ((List.range (n + 1)).map fun _ => 1)]) (.int ((n + 1 : Nat) : Int)) = some (.lst .own ((mat (n + 1) (n + 1) oneF).map rowD)) := by
    rcases (show n = 1 ∨ n = 2 ∨ n = 3 ∨ n = 4 by omega) with rfl | rfl | rfl | rfl <;> rfl
  exact e_lst (es_cons (e_bi (es_cons (e_bin (e_lst (es_cons (e_bin (e_tup (es_cons e_int es_nil)) l m1) es_nil)) l m2) es_nil) (tup_rows _)) (es_cons (e_vTab hv) es_nil))
section
variable {fs : List Fn} {f k : Nat} {st : Store}
/-- THE RULE of condensed -/
theorem cond_ok (hf : fs[f]? = some cnFn) {n : Nat} {F : Mx} (h0 : 1 ≤ n) (h4 : n ≤ 4) (h : SmF n SB F) : callK fs (k + 1) f [tabD (mat n n F)] st = .ok (if zB n F then .non else .lst .own (tbs (blks n F))) st := by
  obtain ⟨m, rfl⟩ : ∃ m, n = m + 1 := ⟨n - 1, by omega⟩
  refine c_run hf (run_pl (pl1 (pl_tab _)) rfl ?_ rfl)
  have i0 := cn_init (call := callK fs k) (st := st) (env := [some (tabD (mat (m + 1) (m + 1) F))] ++ List.replicate 9 none) h0 h4 (shp_mat (m + 1) (m + 1) F).1 rfl
  have w := cn_while (call := callK fs k) (st := st) (T := tabD (mat (m + 1) (m + 1) F)) m oneF F [] none none none none none none none none 100000 (by omega) (by simp; omega) (by omega) (cnd_ok h0 h4 h)
  rw [cnd_val h0 h4] at w
  refine s_cons (env' := [some (tabD (mat (m + 1) (m + 1) F)), some (.lst .own (tbs [mat (m + 2) (m + 2) oneF, mat (m + 1) (m + 1) F])), none, none, none, none, none, none, none, none]) (x_set i0 (keepL_tbs _)) ?_
  cases hz : zB (m + 1) F with
  | true =>
    rw [hz] at w
    exact s_rt (show exec (callK fs k) (.whl 100000 cnC cnBody) _ _ = _ from w)
  | false =>
    rw [hz] at w
    obtain ⟨z2, z3, z4, z5, z6, z7, z8, z9, w⟩ := w
    refine s_cons (show exec (callK fs k) (.whl 100000 cnC cnBody) _ _ = _ from w) (s_rt (x_ret (x := .lst .own (tbs (blks (m + 1) F))) ?_ (keepL_tbs _)))
    have q := e_slFromL (call := callK fs k) (st := st) (env := [some (tabD (mat (m + 1) (m + 1) F)), some (.lst .own (tbs ([] ++ [mat (m + 2) (m + 2) oneF, mat (m + 1) (m + 1) F] ++ (blks (m + 1) F).drop 1))), z2, z3, z4, z5, z6, z7, z8, z9]) (a := .var 1) (b := .int 1) (j := 1) (m := .bor) (ds := tbs ([] ++ [mat (m + 2) (m + 2) oneF, mat (m + 1) (m + 1) F] ++ (blks (m + 1) F).drop 1)) (e_var rfl (by show D.lst .bor (bwL _) = _; rw [bwL_tbs])) e_int
    rw [bwL_tbs] at q
    have e : (tbs ([] ++ [mat (m + 2) (m + 2) oneF, mat (m + 1) (m + 1) F] ++ (blks (m + 1) F).drop 1)).drop 1 = tbs (blks (m + 1) F) := by
      show tabD (mat (m + 1) (m + 1) F) :: tbs ((blks (m + 1) F).drop 1) = _
      unfold blks
      rw [List.range'_succ, List.map_cons, List.drop_one, List.tail_cons]
      show _ = tabD (mat (m + 1 + 1 - 1) (m + 1 + 1 - 1) (blk 1 F)) :: _
      rw [blk1]; rfl
    rw [e] at q
    exact q
end
end PL
namespace PL
open PySem
open L2 (atI ixN)
/-! ### characteristic numbers -/
def idF : Mx := fun i j => if i = j then 1 else 0
def mulF (n : Nat) (F G : Mx) : Mx := fun i j => sumN n fun k => F i k * G k j
def trF (n : Nat) (F : Mx) : Int := sumN n fun i => F i i
mutual
def chH (n : Nat) (T : Mx) : Nat → Mx
  | 0 => idF
  | k + 1 => fun i j => mulF n T (chH n T k) i j + (0 - (trF n (mulF n T (chH n T k))).fdiv ((k + 1 : Nat) : Int)) * idF i j
end
def chC (n : Nat) (T : Mx) (k : Nat) : Int := 0 - (trF n (mulF n T (chH n T k))).fdiv ((k + 1 : Nat) : Int)
def e1 (T : Mx) : Nat → Int
  | 1 => T 0 0
  | 2 => T 0 0 + T 1 1
  | 3 => T 0 0 + T 1 1 + T 2 2
  | _ => T 0 0 + T 1 1 + T 2 2 + T 3 3
def m2 (T : Mx) (i j : Nat) : Int := T i i * T j j - T i j * T j i
def m3 (T : Mx) (i j k : Nat) : Int := d3 (T i i) (T i j) (T i k) (T j i) (T j j) (T j k) (T k i) (T k j) (T k k)
def e2 (T : Mx) : Nat → Int
  | 2 => m2 T 0 1
  | 3 => m2 T 0 1 + m2 T 0 2 + m2 T 1 2
  | _ => m2 T 0 1 + m2 T 0 2 + m2 T 1 2 + m2 T 0 3 + m2 T 1 3 + m2 T 2 3
def e3 (T : Mx) : Nat → Int
  | 3 => m3 T 0 1 2
  | _ => m3 T 0 1 2 + m3 T 0 1 3 + m3 T 0 2 3 + m3 T 1 2 3
theorem sum1 (F : Nat → Int) : sumN 1 F = F 0 := by simp [sumN, List.range_succ]
theorem sum2 (F : Nat → Int) : sumN 2 F = F 0 + F 1 := by simp [sumN, List.range_succ]
theorem sum3 (F : Nat → Int) : sumN 3 F = F 0 + F 1 + F 2 := by rw [sumN_succ, sum2]
theorem sum4 (F : Nat → Int) : sumN 4 F = F 0 + F 1 + F 2 + F 3 := by rw [sumN_succ, sum3]
theorem chC_of {n k : Nat} {T : Mx} {c : Int} (h : trF n (mulF n T (chH n T k)) = ((k + 1 : Nat) : Int) * c) : chC n T k = 0 - c := by
  unfold chC
  rw [h, Int.mul_fdiv_cancel_left _ (by omega)]
theorem chH_succ (n : Nat) (T : Mx) (k : Nat) : chH n T (k + 1) = fun i j => mulF n T (chH n T k) i j + chC n T k * idF i j := rfl
/-! one, two rows -/
theorem ch_1 {n : Nat} {T : Mx} (hn : n = 1 ∨ n = 2 ∨ n = 3 ∨ n = 4) : chC n T 0 = 0 - e1 T n := by
  refine chC_of ?_
  rcases hn with rfl | rfl | rfl | rfl <;> simp [trF, mulF, chH, idF, sum1, sum2, sum3, sum4, e1]
theorem ch_2 {n : Nat} {T : Mx} (hn : n = 2 ∨ n = 3 ∨ n = 4) : chC n T 1 = e2 T n := by
  have h1 := ch_1 (T := T) (n := n) (by omega)
  have : trF n (mulF n T (chH n T 1)) = ((1 + 1 : Nat) : Int) * (0 - e2 T n) := by
    rw [chH_succ, h1]
    rcases hn with rfl | rfl | rfl <;> simp [trF, mulF, chH, idF, sum2, sum3, sum4, e1, e2, m2] <;> grind
  rw [chC_of this]; omega
theorem ch_3 {n : Nat} {T : Mx} (hn : n = 3 ∨ n = 4) : chC n T 2 = 0 - e3 T n := by
  have h1 := ch_1 (T := T) (n := n) (by omega)
  have h2 := ch_2 (T := T) (n := n) (by omega)
  refine chC_of ?_
  rw [chH_succ, h2, chH_succ, h1]
  rcases hn with rfl | rfl <;> simp [trF, mulF, chH, idF, sum3, sum4, e1, e2, e3, m2, m3, d3] <;> grind
set_option maxHeartbeats 4000000 in
theorem ch_4 {T : Mx} : chC 4 T 3 = dtF 4 T := by
  have h1 := ch_1 (T := T) (n := 4) (by omega)
  have h2 := ch_2 (T := T) (n := 4) (by omega)
  have h3 := ch_3 (T := T) (n := 4) (by omega)
  have : trF 4 (mulF 4 T (chH 4 T 3)) = ((3 + 1 : Nat) : Int) * (0 - dtF 4 T) := by
    rw [chH_succ, h3, chH_succ, h2, chH_succ, h1]
    simp [trF, mulF, chH, idF, sum4, e1, e2, e3, m2, m3, d3, dtF, d4]
    grind
  rw [chC_of this]; omega
end PL
namespace PL
open PySem
open L2 (atI ixN)
theorem at2_mat {a b i j : Nat} {F : Nat → Nat → Int} (hi : i < a) (hj : j < b) : at2 (mat a b F) i j = F i j := by
  unfold at2 mat
  rw [List.getD_eq_getElem?_getD, List.getD_eq_getElem?_getD, List.getElem?_map, List.getElem?_range hi]
  show (((List.range b).map fun j => F i j)[j]?).getD 0 = _
  rw [List.getElem?_map, List.getElem?_range hj]; rfl
theorem mulT_mat {t : List (List Int)} {n : Nat} {H : Mx} : mulT t (mat n n H) n n n = mat n n (mulF n (at2 t) H) := by
  unfold mulT
  refine mat_congr fun i hi j hj => ?_
  unfold mulF
  exact sumN_congr fun k hk => by rw [at2_mat hk hj]
theorem Sm2.sml {t : List (List Int)} {a b : Nat} (s : Shp t a b) (h : Sm2 t a b SB) : Sml t := fun r hr x hx => by
  obtain ⟨i, hi, rfl⟩ := List.mem_iff_getElem.mp hr
  obtain ⟨j, hj, rfl⟩ := List.mem_iff_getElem.mp hx
  have := h i j (by rw [s.1] at hi; exact hi) (by rw [s.2 _ hr] at hj; exact hj)
  have e : at2 t i j = t[i][j] := by
    unfold at2
    rw [getD_of (List.getElem?_eq_getElem hi), getD_of (List.getElem?_eq_getElem hj)]
  rw [e] at this
  exact Nat.lt_of_le_of_lt this (by decide)
/-! bounds of the numbers -/
theorem m2_sm {n : Nat} {T : Mx} (h : SmF n SB T) {i j : Nat} (hi : i < n) (hj : j < n) : (m2 T i j).natAbs ≤ 2 ^ 25 := Nat.le_trans (na_sub (na_mul (h _ _ hi hi) (h _ _ hj hj)) (na_mul (h _ _ hi hj) (h _ _ hj hi))) (by decide)
theorem m3_sm {n : Nat} {T : Mx} (h : SmF n SB T) {i j k : Nat} (hi : i < n) (hj : j < n) (hk : k < n) : (m3 T i j k).natAbs ≤ 2 ^ 40 := Nat.le_trans (d3_sm (h _ _ hi hi) (h _ _ hi hj) (h _ _ hi hk) (h _ _ hj hi) (h _ _ hj hj) (h _ _ hj hk) (h _ _ hk hi) (h _ _ hk hj) (h _ _ hk hk)) (by decide)
theorem d4_sm {T : Mx} (h : SmF 4 SB T) : (dtF 4 T).natAbs < 2 ^ 64 := by
  have q : ∀ a b c d e f g h' i : Int, a.natAbs ≤ SB → b.natAbs ≤ SB → c.natAbs ≤ SB → d.natAbs ≤ SB → e.natAbs ≤ SB → f.natAbs ≤ SB → g.natAbs ≤ SB → h'.natAbs ≤ SB → i.natAbs ≤ SB → (d3 a b c d e f g h' i).natAbs ≤ 2 ^ 40 := fun a b c d e f g h' i p1 p2 p3 p4 p5 p6 p7 p8 p9 => Nat.le_trans (d3_sm p1 p2 p3 p4 p5 p6 p7 p8 p9) (by decide)
  simp only [dtF, d4]
  have b : ∀ i j, i < 4 → j < 4 → (T i j).natAbs ≤ SB := h
  refine lt64' (na_sub (na_add (na_sub (na_mul (b 0 0 (by decide) (by decide)) (q _ _ _ _ _ _ _ _ _ ?_ ?_ ?_ ?_ ?_ ?_ ?_ ?_ ?_)) (na_mul (b 0 1 (by decide) (by decide)) (q _ _ _ _ _ _ _ _ _ ?_ ?_ ?_ ?_ ?_ ?_ ?_ ?_ ?_))) (na_mul (b 0 2 (by decide) (by decide)) (q _ _ _ _ _ _ _ _ _ ?_ ?_ ?_ ?_ ?_ ?_ ?_ ?_ ?_))) (na_mul (b 0 3 (by decide) (by decide)) (q _ _ _ _ _ _ _ _ _ ?_ ?_ ?_ ?_ ?_ ?_ ?_ ?_ ?_))) (by decide) <;> exact b _ _ (by decide) (by decide)
theorem chC_sm {n : Nat} {T : Mx} (h0 : 1 ≤ n) (h4 : n ≤ 4) (h : SmF n SB T) {k : Nat} (hk : k < n) : (chC n T k).natAbs < 2 ^ 64 := by
  rcases (show k = 0 ∨ k = 1 ∨ k = 2 ∨ k = 3 by omega) with rfl | rfl | rfl | rfl
  · rw [ch_1 (by omega)]
    rcases (show n = 1 ∨ n = 2 ∨ n = 3 ∨ n = 4 by omega) with rfl | rfl | rfl | rfl <;> simp only [e1] <;>
    · have a := h 0 0 (by decide) (by decide)
      try have b := h 1 1 (by decide) (by decide)
      try have c := h 2 2 (by decide) (by decide)
      try have d := h 3 3 (by decide) (by decide)
      simp only [SB] at *
      omega
  · rw [ch_2 (by omega)]
    rcases (show n = 2 ∨ n = 3 ∨ n = 4 by omega) with rfl | rfl | rfl <;> simp only [e2]
    · exact lt64' (m2_sm h (by decide) (by decide)) (by decide)
    · exact lt64' (na_add (na_add (m2_sm h (by decide) (by decide)) (m2_sm h (by decide) (by decide))) (m2_sm h (by decide) (by decide))) (by decide)
    · exact lt64' (na_add (na_add (na_add (na_add (na_add (m2_sm h (by decide) (by decide)) (m2_sm h (by decide) (by decide))) (m2_sm h (by decide) (by decide))) (m2_sm h (by decide) (by decide))) (m2_sm h (by decide) (by decide))) (m2_sm h (by decide) (by decide))) (by decide)
  · rw [ch_3 (by omega)]
    rcases (show n = 3 ∨ n = 4 by omega) with rfl | rfl <;> simp only [e3]
    · have := m3_sm h (i := 0) (j := 1) (k := 2) (by decide) (by decide) (by decide); omega
    · have q1 := m3_sm h (i := 0) (j := 1) (k := 2) (by decide) (by decide) (by decide)
      have q2 := m3_sm h (i := 0) (j := 1) (k := 3) (by decide) (by decide) (by decide)
      have q3 := m3_sm h (i := 0) (j := 2) (k := 3) (by decide) (by decide) (by decide)
      have q4 := m3_sm h (i := 1) (j := 2) (k := 3) (by decide) (by decide) (by decide)
      omega
  · obtain rfl : n = 4 := by omega
    rw [ch_4]
    exact d4_sm h
/-- Horner's rule -/
def horL (x : Int) (l : List Int) : Int := l.foldl (fun h c => h * x + c) 0
def chL (n : Nat) (T : Mx) : List Int := 1 :: (List.range n).map (chC n T)
theorem hor_val {n : Nat} {T : Mx} (h0 : 1 ≤ n) (h4 : n ≤ 4) (x : Int) : horL x (chL n T) = dtF n fun i j => x * idF i j - T i j := by
  rcases (show n = 1 ∨ n = 2 ∨ n = 3 ∨ n = 4 by omega) with rfl | rfl | rfl | rfl
  · simp only [horL, chL, List.range_succ, List.range_zero, List.nil_append, List.map_cons, List.map_nil, List.foldl, ch_1 (n := 1) (T := T) (by omega)]
    simp [dtF, idF, e1]; grind
  · simp only [horL, chL, List.range_succ, List.range_zero, List.nil_append, List.cons_append, List.map_cons, List.map_nil, List.foldl, ch_1 (n := 2) (T := T) (by omega), ch_2 (n := 2) (T := T) (by omega)]
    simp [dtF, idF, e1, e2, m2]; grind
  · simp only [horL, chL, List.range_succ, List.range_zero, List.nil_append, List.cons_append, List.map_cons, List.map_nil, List.foldl, ch_1 (n := 3) (T := T) (by omega), ch_2 (n := 3) (T := T) (by omega), ch_3 (n := 3) (T := T) (by omega)]
    simp [dtF, idF, e1, e2, e3, m2, m3, d3]; grind
  · simp only [horL, chL, List.range_succ, List.range_zero, List.nil_append, List.cons_append, List.map_cons, List.map_nil, List.foldl, ch_1 (n := 4) (T := T) (by omega), ch_2 (n := 4) (T := T) (by omega), ch_3 (n := 4) (T := T) (by omega), ch_4]
    simp [dtF, idF, e1, e2, e3, m2, m3, d3, d4]; grind
end PL
namespace PL
open PySem
open L2 (atI ixN)
def chFn (uf pf trf sf plf : Nat) : Fn := ⟨1, 6,
    (.cons (.set 1 (.bi .len (.cons (.var 0) .nil)))
    (.cons (.par [2, 3] (.cons (.lst (.cons (.int 1) .nil)) (.cons (.call uf (.cons (.var 1) .nil)) .nil)))
    (.cons (.for_ [4] false (.r2 (.int 1) (.bin .add (.var 1) (.int 1))) (.cons (.set 3 (.call pf (.cons (.var 0) (.cons (.var 3) .nil))))
    (.cons (.set 5 (.bin .sub (.int 0) (.bin .fdiv (.call trf (.cons (.var 3) .nil)) (.var 4))))
    (.cons (.append 2 (.var 5))
    (.cons (.set 3 (.call plf (.cons (.var 3) (.cons (.call sf (.cons (.call uf (.cons (.var 1) .nil)) (.cons (.var 5) .nil))) .nil))))
    .nil)))))
    (.cons (.ret (.tupRev (.var 2)))
    .nil))))⟩
def lcFn (cf df : Nat) : Fn := ⟨1, 8,
    (.cons (.set 1 (.bi .len (.cons (.var 0) .nil)))
    (.cons (.set 2 (.call cf (.cons (.var 0) .nil)))
    (.cons (.ite (.or (.cons (.cmp .ne (.bi .len (.cons (.var 2) .nil)) (.bin .add (.var 1) (.int 1))) (.cons (.cmp .ne (.ix (.var 2) (.neg (.int 1))) (.int 1)) .nil))) (.cons (.ret (.bl false))
    .nil) .nil)
    (.cons (.for_ [3] false (.r1 (.bin .add (.var 1) (.int 1))) (.cons (.set 4 (.int 0))
    (.cons (.for_ [5] false (.rev (.var 2)) (.cons (.set 4 (.bin .add (.bin .mul (.var 4) (.var 3)) (.var 5)))
    .nil))
    (.cons (.ite (.cmp .ne (.var 4) (.call df (.cons (.comp (.bi .tuple (.cons (.comp (.bin .sub (.bin .mul (.var 3) (.bi .int (.cons (.cmp .eq (.var 6) (.var 7)) .nil))) (.ix (.ix (.var 0) (.var 6)) (.var 7))) [7] false (.r1 (.var 1)) .nil [7]) .nil)) [6] false (.r1 (.var 1)) .nil [6]) .nil))) (.cons (.ret (.bl false))
    .nil) .nil)
    .nil))))
    (.cons (.ret (.bl true))
    .nil)))))⟩
theorem e_tupRev {call : Nat → List D → M D} {env : Env} {st st1 : Store} {a : E} {x z : D} (h : ev call a env st = .ok x st1) (hr : revD x = some z) : ev call (.tupRev a) env st = .ok z st1 := by
  simp only [ev]; exact M.bind_of h (opt_of hr)
theorem map_scale {n : Nat} {c : Int} {F : Mx} : ((mat n n F).map fun r => r.map fun x => c * x) = mat n n fun i j => c * F i j := by
  unfold mat
  rw [List.map_map]
  refine List.map_congr_left fun i _ => ?_
  show ((List.range n).map fun j => F i j).map _ = _
  rw [List.map_map]; rfl
theorem Shp.nil_of {t : List (List Int)} {n : Nat} (s : Shp t n n) : t = mat n n (at2 t) := mat_of s
section
variable {fs : List Fn} {f k n : Nat} {st : Store} {t : List (List Int)} {uf pf tf trf sf plf cf df : Nat}
structure ChF (fs : List Fn) (uf pf tf trf sf plf : Nat) : Prop where
  u : fs[uf]? = some unitFn
  p : fs[pf]? = some (prodFn tf)
  t : fs[tf]? = some transFn
  tr : fs[trf]? = some traceFn
  s : fs[sf]? = some scaledFn
  pl : fs[plf]? = some plusTFn
theorem ch_row (F : ChF fs uf pf tf trf sf plf) (hf : fs[f]? = some (chFn uf pf trf sf plf)) (T : Tb t n n) : callK fs (k + 3) f [tabD t] st = .ok (rowD (chL n (at2 t)).reverse) st := by
  have n4 : n ≤ 4 := by have := T.m4; omega
  have n0 := T.a0
  have sml := T.sm.sml T.s
  refine c_run hf (run_pl (pl1 (pl_tab t)) rfl ?_ rfl)
  have len : ev (callK fs (k + 2)) (.bi .len (.cons (.var 0) .nil)) ([some (tabD t)].append (List.replicate 5 none)) st = .ok (.int (n : Int)) st := e_bi (es_cons (e_vTab rfl) es_nil) (by rw [len_tab, T.s.1])
  have un : ∀ z2 z3 z4 z5, ev (callK fs (k + 2)) (.call uf (.cons (.var 1) .nil)) [some (tabD t), some (.int (n : Int)), z2, z3, z4, z5] st = .ok (tabD (mat n n idF)) st := fun z2 z3 z4 z5 => e_call (es_cons (e_vI rfl) es_nil) (unit_ok (k := k + 1) F.u (by omega))
  have it : evF (callK fs (k + 2)) (.r2 (.int 1) (.bin .add (.var 1) (.int 1))) [some (tabD t), some (.int (n : Int)), some (.lst .own [.int 1]), some (tabD (mat n n idF)), none, none] st = .ok ((List.range' 1 n).map rgE) st := by
    have := g_rn2 (call := callK fs (k + 2)) (env := [some (tabD t), some (.int (n : Int)), some (.lst .own [.int 1]), some (tabD (mat n n idF)), none, none]) (st := st) (a := .int 1) (b := .bin .add (.var 1) (.int 1)) (k := 1) (n := n + 1) e_int (e_bin (e_vI (i := 1) rfl) e_int bin_add) (by omega) (by omega)
    rw [show n + 1 - 1 = n by omega] at this
    exact this
  obtain ⟨env', q, z4, z5, rfl⟩ := for_N (v := 4) (f := execs (callK fs (k + 2)) (.cons (.set 3 (.call pf (.cons (.var 0) (.cons (.var 3) .nil))))
    (.cons (.set 5 (.bin .sub (.int 0) (.bin .fdiv (.call trf (.cons (.var 3) .nil)) (.var 4))))
    (.cons (.append 2 (.var 5))
    (.cons (.set 3 (.call plf (.cons (.var 3) (.cons (.call sf (.cons (.call uf (.cons (.var 1) .nil)) (.cons (.var 5) .nil))) .nil))))
    .nil))))) (st := st) (Inv := fun j env => ∃ z4 z5, env = [some (tabD t), some (.int (n : Int)), some (.lst .own ((1 :: (List.range (j - 1)).map (chC n (at2 t))).map D.int)), some (tabD (mat n n (chH n (at2 t) (j - 1)))), z4, z5]) n 1 [some (tabD t), some (.int (n : Int)), some (.lst .own [.int 1]), some (tabD (mat n n idF)), none, none] ⟨none, none, rfl⟩ fun j env h1 h2 ⟨z4, z5, e⟩ => by
      subst e
      obtain ⟨j, rfl⟩ : ∃ j', j = j' + 1 := ⟨j - 1, by omega⟩
      rw [Nat.add_sub_cancel, Nat.add_sub_cancel]
      have hj : j < n := by omega
      have hp := prod_ok (k := k) (st := st) F.p F.t T.s (shp_mat n n (chH n (at2 t) j)) n0 (by omega) (by omega) (by omega) sml
      rw [mulT_mat] at hp
      have sg := shp_mat n n (mulF n (at2 t) (chH n (at2 t) j))
      have htr := trace_ok (k := k + 1) (st := st) F.tr sg (by omega)
      have etr : sumN n (fun i => at2 (mat n n (mulF n (at2 t) (chH n (at2 t) j))) i i) = trF n (mulF n (at2 t) (chH n (at2 t) j)) := sumN_congr fun i hi => at2_mat hi hi
      rw [etr] at htr
      have hc := chC_sm (n := n) (T := at2 t) n0 n4 T.sm hj
      have hsc := scaled_ok (k := k + 1) (st := st) F.s (shp_mat n n idF) (by omega) (by omega) hc
      rw [map_scale] at hsc
      have hpl := plusT_ok (k := k + 1) (st := st) F.pl sg (shp_mat n n fun i j' => chC n (at2 t) j * idF i j') (by omega) (by omega)
      have epl : (mat n n fun i j' => at2 (mat n n (mulF n (at2 t) (chH n (at2 t) j))) i j' + at2 (mat n n fun i j' => chC n (at2 t) j * idF i j') i j') = mat n n (chH n (at2 t) (j + 1)) := mat_congr fun i hi j' hj' => by rw [at2_mat hi hj', at2_mat hi hj', chH_succ]
      rw [epl] at hpl
      have v5 : ev (callK fs (k + 2)) (.bin .sub (.int 0) (.bin .fdiv (.call trf (.cons (.var 3) .nil)) (.var 4))) [some (tabD t), some (.int (n : Int)), some (.lst .own ((1 :: (List.range j).map (chC n (at2 t))).map D.int)), some (tabD (mat n n (mulF n (at2 t) (chH n (at2 t) j)))), some (rgE (j + 1)), z5] st = .ok (.int (chC n (at2 t) j)) st :=
        e_bin e_int (e_bin (e_call (es_cons (e_vTab rfl) es_nil) htr) (e_vJ rfl) (bin_fdiv (divOk_of (by omega) (by omega)))) bin_sub
      refine ⟨_, s_cons (x_set (e_call (es_cons (e_vTab rfl) (es_cons (e_vTab rfl) es_nil)) hp) (pl_tab _).kp) (s_cons (x_set v5 rfl) (s_cons (x_append (x := .int (chC n (at2 t) j)) rfl (e_vI (i := 5) rfl) rfl (by rw [List.length_map, List.length_cons, List.length_map, List.length_range]; show _ < 1000000; omega)) (s_cons (x_set (e_call (es_cons (e_vTab (i := 3) rfl) (es_cons (e_call (es_cons (un _ _ _ _) (es_cons (e_vI (i := 5) rfl) es_nil)) hsc) es_nil)) hpl) (pl_tab _).kp) s_nil))), some (rgE (j + 1)), some (.int (chC n (at2 t) j)), ?_⟩
      have e : (1 :: (List.range (j + 1)).map (chC n (at2 t))).map D.int = (1 :: (List.range j).map (chC n (at2 t))).map D.int ++ [.int (chC n (at2 t) j)] := by
        rw [List.range_succ, List.map_append]; simp
      rw [e]; rfl
  rw [show 1 + n - 1 = n by omega] at q
  refine s_cons (env' := [some (tabD t), some (.int (n : Int)), none, none, none, none]) (x_set len rfl) ?_
  refine s_cons (env' := [some (tabD t), some (.int (n : Int)), some (.lst .own [.int 1]), some (tabD (mat n n idF)), none, none]) (x_par (ds := [.lst .own [.int 1], tabD (mat n n idF)]) (es_cons (e_lst (es_cons e_int es_nil)) (es_cons (un _ _ _ _) es_nil)) (keepL_of' fun d m => by
    simp only [List.mem_cons, List.not_mem_nil, or_false] at m
    rcases m with rfl | rfl
    · rfl
    · exact (pl_tab _).kp) rfl) ?_
  refine s_cons (x_for it q) (s_rt (x_ret (x := rowD (chL n (at2 t)).reverse) ?_ (pl_row _).kp))
  have q2 : ∀ {env : Env}, env[2]? = some (some (.lst .own ((chL n (at2 t)).map D.int))) → ev (callK fs (k + 2)) (.tupRev (.var 2)) env st = .ok (rowD (chL n (at2 t)).reverse) st := fun {env} h => by
    refine e_tupRev (e_var h rfl) ?_
    show some (D.tup (bwL (bwL _)).reverse) = _
    rw [bwL_ints, bwL_ints]
    unfold rowD
    rw [List.map_reverse]
  exact q2 rfl
theorem f_rev {call : Nat → List D → M D} {env : Env} {st : Store} {v : Nat} {r : List Int} (h : env[v]? = some (some (rowD r))) : evF call (.rev (.var v)) env st = .ok (r.reverse.map D.int) st := by
  simp only [evF, itRF]
  refine M.bind_of (e_vRow h) ?_
  simp only [(pl_row r).kp, if_true]
  refine opt_of ?_
  rw [(pl_row r).frz, items_row]
  show some (r.map D.int).reverse = _
  rw [List.map_reverse]
theorem horL_snoc (x : Int) (l : List Int) (c : Int) : horL x (l ++ [c]) = horL x l * x + c := by
  unfold horL
  rw [List.foldl_append]; rfl
/-- the law's own test of the characteristic numbers -/
theorem lc_ok (hc : callK fs (k + 6) cf [tabD t] st = .ok (rowD (chL n (at2 t)).reverse) st) (hf : fs[f]? = some (lcFn cf df)) (hd : fs[df]? = some (ldFn df)) (T : Tb t n n) : callK fs (k + 7) f [tabD t] st = .ok (.bl true) st := by
  have n4 : n ≤ 4 := by have := T.m4; omega
  have n0 := T.a0
  refine c_run hf (run_pl (pl1 (pl_tab t)) rfl ?_ rfl)
  have len : ev (callK fs (k + 6)) (.bi .len (.cons (.var 0) .nil)) ([some (tabD t)].append (List.replicate 7 none)) st = .ok (.int (n : Int)) st := e_bi (es_cons (e_vTab rfl) es_nil) (by rw [len_tab, T.s.1])
  have cl : (chL n (at2 t)).reverse.length = n + 1 := by rw [List.length_reverse]; unfold chL; rw [List.length_cons, List.length_map, List.length_range]
  have t1 : ev (callK fs (k + 6)) (.cmp .ne (.bi .len (.cons (.var 2) .nil)) (.bin .add (.var 1) (.int 1))) [some (tabD t), some (.int (n : Int)), some (rowD (chL n (at2 t)).reverse), none, none, none, none, none] st = .ok (.bl false) st := by
    have := e_cmp (o := .ne) (call := callK fs (k + 6)) (env := [some (tabD t), some (.int (n : Int)), some (rowD (chL n (at2 t)).reverse), none, none, none, none, none]) (st := st) (a := .bi .len (.cons (.var 2) .nil)) (b := .bin .add (.var 1) (.int 1)) (e_bi (es_cons (e_vRow rfl) es_nil) (len_row _)) (e_bin (e_vI rfl) e_int bin_add) cmp_neI
    rw [cl, decide_eq_true (by omega)] at this
    exact this
  have t2 : ev (callK fs (k + 6)) (.cmp .ne (.ix (.var 2) (.neg (.int 1))) (.int 1)) [some (tabD t), some (.int (n : Int)), some (rowD (chL n (at2 t)).reverse), none, none, none, none, none] st = .ok (.bl false) st := by
    refine e_cmp (x := .int 1) (e_ix (e_vRow rfl) (e_neg e_int) (ix_tup ?_)) e_int cmp_neI
    rw [ix_last (n := n) (by rw [List.length_map, cl])]
    rw [List.getElem?_map, List.getElem?_reverse (by rw [← List.length_reverse, cl]; omega)]
    have : (chL n (at2 t)).length = n + 1 := by rw [← List.length_reverse, cl]
    rw [this, show n + 1 - 1 - n = 0 by omega]; rfl
  have body : ∀ (x : Nat) (z4 z5 z6 z7 : Option D), x ≤ n → ∃ z4' z5' z6' z7', execs (callK fs (k + 6)) (.cons (.set 4 (.int 0))
    (.cons (.for_ [5] false (.rev (.var 2)) (.cons (.set 4 (.bin .add (.bin .mul (.var 4) (.var 3)) (.var 5)))
    .nil))
    (.cons (.ite (.cmp .ne (.var 4) (.call df (.cons (.comp (.bi .tuple (.cons (.comp (.bin .sub (.bin .mul (.var 3) (.bi .int (.cons (.cmp .eq (.var 6) (.var 7)) .nil))) (.ix (.ix (.var 0) (.var 6)) (.var 7))) [7] false (.r1 (.var 1)) .nil [7]) .nil)) [6] false (.r1 (.var 1)) .nil [6]) .nil))) (.cons (.ret (.bl false))
    .nil) .nil)
    .nil))) [some (tabD t), some (.int (n : Int)), some (rowD (chL n (at2 t)).reverse), some (rgE x), z4, z5, z6, z7] st = .ok (.nx [some (tabD t), some (.int (n : Int)), some (rowD (chL n (at2 t)).reverse), some (rgE x), z4', z5', z6', z7']) st := by
    intro x z4 z5 z6 z7 hx
    have it : evF (callK fs (k + 6)) (.rev (.var 2)) [some (tabD t), some (.int (n : Int)), some (rowD (chL n (at2 t)).reverse), some (rgE x), some (.int 0), z5, z6, z7] st = .ok ((chL n (at2 t)).map D.int) st := by
      have := f_rev (call := callK fs (k + 6)) (env := [some (tabD t), some (.int (n : Int)), some (rowD (chL n (at2 t)).reverse), some (rgE x), some (.int 0), z5, z6, z7]) (st := st) (v := 2) rfl
      rw [List.reverse_reverse] at this
      exact this
    obtain ⟨env', q, z5', rfl⟩ := for_L (v := 5) (f := execs (callK fs (k + 6)) (.cons (.set 4 (.bin .add (.bin .mul (.var 4) (.var 3)) (.var 5))) .nil)) (st := st) (enc := D.int) (Inv := fun p env => ∃ z5, env = [some (tabD t), some (.int (n : Int)), some (rowD (chL n (at2 t)).reverse), some (rgE x), some (.int (horL x p)), z5, z6, z7]) (chL n (at2 t)) [some (tabD t), some (.int (n : Int)), some (rowD (chL n (at2 t)).reverse), some (rgE x), some (.int 0), z5, z6, z7] ⟨z5, rfl⟩ fun p c env _ _ ⟨z5, e⟩ => by
      subst e
      refine ⟨_, s_cons (x_set (x := .int (horL x p * x + c)) (e_bin (e_bin (e_vI rfl) (e_vJ rfl) (bin_mul (mulOk_r (by omega)))) (e_vI rfl) bin_add) rfl) s_nil, some (.int c), ?_⟩
      rw [horL_snoc]; rfl
    rw [hor_val n0 n4] at q
    have hm : ev (callK fs (k + 6)) (.comp (.bi .tuple (.cons (.comp (.bin .sub (.bin .mul (.var 3) (.bi .int (.cons (.cmp .eq (.var 6) (.var 7)) .nil))) (.ix (.ix (.var 0) (.var 6)) (.var 7))) [7] false (.r1 (.var 1)) .nil [7]) .nil)) [6] false (.r1 (.var 1)) .nil [6]) [some (tabD t), some (.int (n : Int)), some (rowD (chL n (at2 t)).reverse), some (rgE x), some (.int (dtF n fun i j => (x : Int) * idF i j - at2 t i j)), z5', z6, z7] st = .ok (.lst .own ((mat n n fun i j => (x : Int) * idF i j - at2 t i j).map rowD)) st := by
      have q := c_map (call := callK fs (k + 6)) (st := st) (env := [some (tabD t), some (.int (n : Int)), some (rowD (chL n (at2 t)).reverse), some (rgE x), some (.int (dtF n fun i j => (x : Int) * idF i j - at2 t i j)), z5', z6, z7]) (body := .bi .tuple (.cons (.comp (.bin .sub (.bin .mul (.var 3) (.bi .int (.cons (.cmp .eq (.var 6) (.var 7)) .nil))) (.ix (.ix (.var 0) (.var 6)) (.var 7))) [7] false (.r1 (.var 1)) .nil [7]) .nil)) (v := 6) (vs := [6]) (xs := List.range n) (enc := rgE) (it := .r1 (.var 1))
        (g := fun i => rowD ((List.range n).map fun j => (x : Int) * idF i j - at2 t i j)) (i_rn (e_vI rfl) (by omega)) (by rw [List.length_range]; show n ≤ 1000000; omega) fun i hi => t_row (i_rn (e_vI rfl) (by omega)) (by rw [List.length_range]; show n ≤ 1000000; omega) fun j hj => ?_
      · rw [q]
        unfold mat
        rw [List.map_map]; rfl
      · refine e_bin (e_bin (y := .int (idF i j)) (e_vJ rfl) (e_bi (es_cons (e_cmp (e_vJ rfl) (e_vJ rfl) cmp_eqI) es_nil) ?_) (bin_mul (mulOk_l (by omega)))) (e_at2 T.s (List.mem_range.mp hi) (List.mem_range.mp hj) (e_vTab rfl) (e_vJ rfl) (e_vJ rfl)) bin_sub
        rw [int_bool]
        unfold idF
        by_cases h : i = j
        · rw [if_pos h, decide_eq_true (by omega)]; rfl
        · rw [if_neg h, decide_eq_false (by omega)]; rfl
    have hl := ld_ok hd n (k + 6) (fun i j => (x : Int) * idF i j - at2 t i j) (lstT (mat n n fun i j => (x : Int) * idF i j - at2 t i j)) st n4 (by omega) (fun i j hi hj => by
      have b := T.sm i j hi hj
      have : ((x : Int) * idF i j).natAbs ≤ 4 := by
        unfold idF
        split <;> omega
      simp only [SB] at b
      omega) .lst
    have hq : ev (callK fs (k + 6)) (.call df (.cons (.comp (.bi .tuple (.cons (.comp (.bin .sub (.bin .mul (.var 3) (.bi .int (.cons (.cmp .eq (.var 6) (.var 7)) .nil))) (.ix (.ix (.var 0) (.var 6)) (.var 7))) [7] false (.r1 (.var 1)) .nil [7]) .nil)) [6] false (.r1 (.var 1)) .nil [6]) .nil)) [some (tabD t), some (.int (n : Int)), some (rowD (chL n (at2 t)).reverse), some (rgE x), some (.int (dtF n fun i j => (x : Int) * idF i j - at2 t i j)), z5', z6, z7] st = .ok (.int (dtF n fun i j => (x : Int) * idF i j - at2 t i j)) st := by
      refine e_call (es_cons hm es_nil) ?_
      rw [callK_frz (by show ((D.lst .own ((mat n n fun i j => (x : Int) * idF i j - at2 t i j).map rowD)).keep && true) = true; rw [keep_rows]; rfl)]
      show callK fs (k + 6) df [(D.lst .own ((mat n n fun i j => (x : Int) * idF i j - at2 t i j).map rowD)).frz] st = _
      rw [frz_rows]
      exact hl
    have tst := e_cmp (o := .ne) (e_vI (i := 4) (n := dtF n fun i j => (x : Int) * idF i j - at2 t i j) rfl) hq cmp_neI
    rw [decide_eq_true rfl] at tst
    exact ⟨_, z5', z6, z7, s_cons (x_set (x := .int 0) e_int rfl) (s_cons (x_for it q) (s_cons (x_iteF (e_tst tst rfl) s_nil) s_nil))⟩
  obtain ⟨env', q, z3, z4, z5, z6, z7, rfl⟩ := for_N (v := 3) (f := execs (callK fs (k + 6)) (.cons (.set 4 (.int 0))
    (.cons (.for_ [5] false (.rev (.var 2)) (.cons (.set 4 (.bin .add (.bin .mul (.var 4) (.var 3)) (.var 5)))
    .nil))
    (.cons (.ite (.cmp .ne (.var 4) (.call df (.cons (.comp (.bi .tuple (.cons (.comp (.bin .sub (.bin .mul (.var 3) (.bi .int (.cons (.cmp .eq (.var 6) (.var 7)) .nil))) (.ix (.ix (.var 0) (.var 6)) (.var 7))) [7] false (.r1 (.var 1)) .nil [7]) .nil)) [6] false (.r1 (.var 1)) .nil [6]) .nil))) (.cons (.ret (.bl false))
    .nil) .nil)
    .nil)))) (st := st) (Inv := fun _ env => ∃ z3 z4 z5 z6 z7, env = [some (tabD t), some (.int (n : Int)), some (rowD (chL n (at2 t)).reverse), z3, z4, z5, z6, z7]) (n + 1) 0 [some (tabD t), some (.int (n : Int)), some (rowD (chL n (at2 t)).reverse), none, none, none, none, none] ⟨none, none, none, none, none, rfl⟩ fun x env _ hx ⟨z3, z4, z5, z6, z7, e⟩ => by
      subst e
      obtain ⟨z4', z5', z6', z7', h⟩ := body x z4 z5 z6 z7 (by omega)
      exact ⟨_, h, some (rgE x), z4', z5', z6', z7', rfl⟩
  have it : evF (callK fs (k + 6)) (.r1 (.bin .add (.var 1) (.int 1))) [some (tabD t), some (.int (n : Int)), some (rowD (chL n (at2 t)).reverse), none, none, none, none, none] st = .ok ((List.range' 0 (n + 1)).map rgE) st := g_rn1 (n := n + 1) (e_bin (e_vI (i := 1) rfl) e_int bin_add) (by omega)
  refine s_cons (env' := [some (tabD t), some (.int (n : Int)), none, none, none, none, none, none]) (x_set len rfl) (s_cons (env' := [some (tabD t), some (.int (n : Int)), some (rowD (chL n (at2 t)).reverse), none, none, none, none, none]) (x_set (e_call (es_cons (e_vTab rfl) es_nil) hc) (pl_row _).kp) (s_cons (x_iteF (e_tst (e_or (or_f t1 (or_f t2 or_nil))) rfl) s_nil) (s_cons (x_for it q) (s_rt (x_ret e_bl rfl)))))
end
end PL
/-! what the later laws share: the first of all, True in the end -/
namespace PL
open PySem PySem.Spec PyProof.Rows
open L2 (atI ixN)
theorem i_r3 {call : Nat → List D → M D} {env : Env} {st st1 st2 st3 : Store} {a b c : E} {i j l : Int} (h : ev call a env st = .ok (.int i) st1) (h2 : ev call b env st1 = .ok (.int j) st2) (h3 : ev call c env st2 = .ok (.int l) st3) (hn : rsOk i j l = true) :
    evI call (.r3 a b c) env st = .ok (rsD i j l) st3 := by
  have e : ∀ z : Store, (if rsOk i j l then (M.pure (rsD i j l) : M (List D)) else M.fail) z = .ok (rsD i j l) z := fun z => by rw [hn]; rfl
  exact M.bind_of (st1 := st1) h (M.bind_of (st1 := st2) h2 (M.bind_of (st1 := st3) h3 (e st3)))
/-- a loop that returns the first thing found -/
theorem for_find {α : Type} {v : Nat} {f : Env → M Fl} {st : Store} {enc : α → D} {P : α → Option D} {Inv : Env → Prop} : ∀ (ys : List α) (env : Env), Inv env →
    (∀ x ∈ ys, ∀ env, Inv env → (∀ d, P x = some d → f (env.set v (some (enc x))) st = .ok (.rt d) st) ∧ (P x = none → ∃ env', f (env.set v (some (enc x))) st = .ok (.nx env') st ∧ Inv env')) →
    (∀ d, ys.findSome? P = some d → forM [v] false f (ys.map enc) env st = .ok (.rt d) st) ∧ (ys.findSome? P = none → ∃ env', forM [v] false f (ys.map enc) env st = .ok (.nx env') st ∧ Inv env')
  | [], env, h0, _ => ⟨fun d h => by simp at h, fun _ => ⟨env, for_nil, h0⟩⟩
  | y :: ys, env, h0, h => by
    obtain ⟨h1, h2⟩ := h y List.mem_cons_self env h0
    cases hp : P y with
    | some d0 =>
      refine ⟨fun d hd => ?_, fun hd => ?_⟩
      · rw [List.findSome?_cons, hp] at hd
        cases hd
        exact for_rt rfl (h1 _ hp)
      · rw [List.findSome?_cons, hp] at hd
        cases hd
    | none =>
      obtain ⟨env1, q1, i1⟩ := h2 hp
      obtain ⟨g1, g2⟩ := for_find ys env1 i1 fun x m => h x (List.mem_cons_of_mem _ m)
      rw [List.findSome?_cons, hp]
      exact ⟨fun d hd => for_nx rfl q1 (g1 d hd), fun hd => by
        obtain ⟨env2, q2, i2⟩ := g2 hd
        exact ⟨env2, for_nx rfl q1 q2, i2⟩⟩
def Trg (call : Nat → List D → M D) (ss : Sts) (env : Env) (st : Store) : Prop := ∃ st1, execs call ss env st = .ok (.rt (.bl true)) st1
section
variable {call : Nat → List D → M D} {ss a : Sts} {env env' : Env} {st st1 : Store} {e t : E} {i : Nat} {x d : D} {s : St}
theorem trg_set (h : ev call e env st = .ok x st1) (hk : x.keep = true) (r : Trg call ss (env.set i (some x)) st1) : Trg call (.cons (.set i e) ss) env st := by
  obtain ⟨s, q⟩ := r; exact ⟨s, s_cons (x_set h hk) q⟩
theorem trg_setT {is : List Nat} {ds : List D} (h : ev call e env st = .ok (.tup ds) st1) (hk : keepL ds = true) (hl : ds.length = is.length) (r : Trg call ss (setN env is ds) st1) : Trg call (.cons (.setT is e) ss) env st := by
  obtain ⟨s, q⟩ := r; exact ⟨s, s_cons (x_setT h hk hl) q⟩
theorem trg_if (h : ev call t env st = .ok (.bl false) st) (r : Trg call ss env st) : Trg call (.cons (.ite t a .nil) ss) env st := by
  obtain ⟨s, q⟩ := r; exact ⟨s, s_cons (x_iteF (e_tst h rfl) rfl) q⟩
theorem trg_nx (h : exec call s env st = .ok (.nx env') st1) (r : Trg call ss env' st1) : Trg call (.cons s ss) env st := by
  obtain ⟨s, q⟩ := r; exact ⟨s, s_cons h q⟩
theorem trg_frz (h : env[i]? = some (some d)) (r : Trg call ss (env.set i (some d.frz)) st) : Trg call (.frz i ss) env st := by
  obtain ⟨s, q⟩ := r; exact ⟨s, s_frz h q⟩
theorem trg_share {ds : List D} (h : env[i]? = some (some (.lst .own ds))) (r : Trg call ss (env.set i (some (.sref st.length))) (st ++ [frzL ds])) : Trg call (.share i ss) env st := by
  obtain ⟨s, q⟩ := r; exact ⟨s, s_share h q⟩
theorem trg_ret (h : ev call e env st = .ok (.bl true) st1) : Trg call (.cons (.ret e) ss) env st := ⟨st1, s_rt (x_ret h rfl)⟩
theorem tp_one (h : Tp st) : ∃ ds, st = [ds] := ⟨_, h.choose_spec.1⟩
end
section
variable {fs : List Fn} {k f : Nat} {env : Env} {st : Store}
/-- a draw in an expression -/
theorem e_next {A : E} {L : Int} (hf : fs[f]? = some nextFn) (h : env[1]? = some (some (.sref 0))) (hA : ev (callK fs (k + 1)) A env st = .ok (.int L) st) (hL : 0 < L) (hL2 : L < 2 ^ 63) (hd : Tp st) :
    ∃ (r : Nat) (st' : Store), (r : Int) < L ∧ Tp st' ∧ ev (callK fs (k + 1)) (.call f (.cons (.var 1) (.cons A .nil))) env st = .ok (.int (r : Int)) st' := by
  obtain ⟨r, st', h1, h2, h3, h4⟩ := next_ok (k := k) hf hL hL2 hd
  obtain ⟨r, rfl⟩ := Int.eq_ofNat_of_zero_le h1
  exact ⟨r, st', h2, h3, e_call (es_cons (e_vR h) (es_cons hA es_nil)) h4⟩
end
/-- first rows of 0 and 1 -/
def rows01 : Nat → List (List Int)
  | 0 => [[]]
  | n + 1 => (rows01 n).flatMap fun r => [0 :: r, 1 :: r]
def tabs (m : Nat) : Nat → List (List (List Int))
  | 0 => [[]]
  | n + 1 => (tabs m n).flatMap fun t => (rows01 m).map fun r => r :: t
def T01 (t : List (List Int)) : Prop := ∀ r ∈ t, ∀ x ∈ r, x = 0 ∨ x = 1
theorem mem_rows01 : ∀ {r : List Int}, (∀ x ∈ r, x = 0 ∨ x = 1) → r ∈ rows01 r.length
  | [], _ => by simp [rows01]
  | x :: r, h => by
    have ih := mem_rows01 fun y m => h y (List.mem_cons_of_mem _ m)
    show x :: r ∈ (rows01 r.length).flatMap fun r => [0 :: r, 1 :: r]
    refine List.mem_flatMap.mpr ⟨r, ih, ?_⟩
    rcases h x List.mem_cons_self with e | e <;> simp [e]
theorem mem_tabs {m : Nat} : ∀ {t : List (List Int)}, (∀ r ∈ t, r.length = m) → T01 t → t ∈ tabs m t.length
  | [], _, _ => by simp [tabs]
  | r :: t, h, h2 => by
    have ih := mem_tabs (fun y q => h y (List.mem_cons_of_mem _ q)) fun y q => h2 y (List.mem_cons_of_mem _ q)
    show r :: t ∈ (tabs m t.length).flatMap fun t => (rows01 m).map fun r => r :: t
    refine List.mem_flatMap.mpr ⟨t, ih, List.mem_map.mpr ⟨r, ?_, rfl⟩⟩
    have := mem_rows01 (h2 r List.mem_cons_self)
    rw [h r List.mem_cons_self] at this
    exact this
def ins {α : Type} (x : α) : List α → List (List α)
  | [] => [[x]]
  | y :: l => (x :: y :: l) :: (ins x l).map (y :: ·)
/-- all orders of a list -/
def prms {α : Type} : List α → List (List α)
  | [] => [[]]
  | x :: l => (prms l).flatMap (ins x)
theorem mem_ins {α : Type} {x : α} : ∀ (l1 l2 : List α), l1 ++ x :: l2 ∈ ins x (l1 ++ l2)
  | [], [] => by simp [ins]
  | [], y :: l2 => by simp [ins]
  | y :: l1, l2 => by
    show y :: (l1 ++ x :: l2) ∈ (x :: y :: (l1 ++ l2)) :: (ins x (l1 ++ l2)).map (y :: ·)
    exact List.mem_cons_of_mem _ (List.mem_map.mpr ⟨_, mem_ins l1 l2, rfl⟩)
theorem mem_prms {α : Type} : ∀ {l l' : List α}, l'.Perm l → l' ∈ prms l
  | [], l', h => by rw [List.perm_nil.mp h]; simp [prms]
  | x :: l, l', h => by
    have hx : x ∈ l' := h.mem_iff.mpr List.mem_cons_self
    obtain ⟨l1, l2, e⟩ := List.append_of_mem hx
    subst e
    have h2 : (l1 ++ l2).Perm l := (List.perm_cons x).mp (List.perm_middle.symm.trans h)
    exact List.mem_flatMap.mpr ⟨_, mem_prms h2, mem_ins l1 l2⟩
/-- what holds at each of a list -/
theorem at_all {α β : Type} {l : List α} {f g : α → β} (h : l.map f = l.map g) {x : α} (m : x ∈ l) : f x = g x := List.map_inj_left.mp h x m
end PL
namespace PL
/-- a walk that returns o, or goes on -/
def FndS (call : Nat → List D → M D) (ss : Sts) (env : Env) (st : Store) (o : Option D) (Inv : Env → Prop) : Prop :=
  (∀ d, o = some d → execs call ss env st = .ok (.rt d) st) ∧ (o = none → ∃ env', execs call ss env st = .ok (.nx env') st ∧ Inv env')
section
variable {call : Nat → List D → M D} {ss body : Sts} {env : Env} {st : Store} {o : Option D}
theorem fnd_for {α : Type} {v : Nat} {it : It} {enc : α → D} {P : α → Option D} {Inv : Env → Prop} {ys : List α} (hi : evF call it env st = .ok (ys.map enc) st) (h0 : Inv env)
    (h : ∀ x ∈ ys, ∀ env, Inv env → FndS call body (env.set v (some (enc x))) st (P x) Inv) : FndS call (.cons (.for_ [v] false it body) .nil) env st (ys.findSome? P) Inv := by
  obtain ⟨g1, g2⟩ := for_find (f := execs call body) (st := st) (v := v) (enc := enc) (P := P) (Inv := Inv) ys env h0 fun x m env i => h x m env i
  exact ⟨fun d hd => s_rt (x_for hi (g1 d hd)), fun hd => by
    obtain ⟨env', q, i⟩ := g2 hd
    exact ⟨env', s_cons (x_for hi q) s_nil, i⟩⟩
theorem FndS.imp {Inv Inv' : Env → Prop} (h : FndS call ss env st o Inv) (hi : ∀ env, Inv env → Inv' env) : FndS call ss env st o Inv' := ⟨h.1, fun z => by
  obtain ⟨env', q, i⟩ := h.2 z
  exact ⟨env', q, hi _ i⟩⟩
/-- if c: return e -/
theorem fnd_if {c e : E} {b : Bool} {d : D} {Inv : Env → Prop} (hc : ev call c env st = .ok (.bl b) st) (he : b = true → ev call e env st = .ok d st) (hk : d.keep = true) (hi : Inv env) :
    FndS call (.cons (.ite c (.cons (.ret e) .nil) .nil) .nil) env st (if b then some d else none) Inv := by
  cases b with
  | true => exact ⟨fun d' hd => by cases hd; exact s_rt (x_iteT (e_tst hc rfl) (s_rt (x_ret (he rfl) hk))), fun hd => (by cases hd)⟩
  | false => exact ⟨fun d' hd => (by cases hd), fun _ => ⟨env, s_cons (x_iteF (e_tst hc rfl) s_nil) s_nil, hi⟩⟩
theorem fnd_set {i : Nat} {e : E} {x : D} {Inv : Env → Prop} (h : ev call e env st = .ok x st) (hk : x.keep = true) (r : FndS call ss (env.set i (some x)) st o Inv) : FndS call (.cons (.set i e) ss) env st o Inv :=
  ⟨fun d hd => s_cons (x_set h hk) (r.1 d hd), fun hd => by
    obtain ⟨env', q, i⟩ := r.2 hd
    exact ⟨env', s_cons (x_set h hk) q, i⟩⟩
/-- the end: what was found, or None -/
theorem fnd_end {s : St} {Inv : Env → Prop} (h : FndS call (.cons s .nil) env st o Inv) : execs call (.cons s (.cons (.ret .non) .nil)) env st = .ok (.rt (o.getD .non)) st := by
  cases o with
  | some d =>
    have q := h.1 d rfl
    show execs call (.cons s (.cons (.ret .non) .nil)) env st = .ok (.rt d) st
    have q2 : M.bind (exec call s env) (fun fl => match fl with | .nx env' => execs call .nil env' | fl => M.pure fl) st = .ok (.rt d) st := q
    show M.bind (exec call s env) (fun fl => match fl with | .nx env' => execs call (.cons (.ret .non) .nil) env' | fl => M.pure fl) st = .ok (.rt d) st
    unfold M.bind at q2 ⊢
    cases hs : exec call s env st with
    | ok fl st1 =>
      rw [hs] at q2
      cases fl <;> first | exact q2 | cases q2
    | exn c p st1 => rw [hs] at q2; cases q2
    | err => rw [hs] at q2; cases q2
  | none =>
    obtain ⟨env', q, _⟩ := h.2 rfl
    show execs call (.cons s (.cons (.ret .non) .nil)) env st = .ok (.rt .non) st
    have q2 : M.bind (exec call s env) (fun fl => match fl with | .nx env' => execs call .nil env' | fl => M.pure fl) st = .ok (.nx env') st := q
    show M.bind (exec call s env) (fun fl => match fl with | .nx env' => execs call (.cons (.ret .non) .nil) env' | fl => M.pure fl) st = .ok (.rt .non) st
    unfold M.bind at q2 ⊢
    cases hs : exec call s env st with
    | ok fl st1 =>
      rw [hs] at q2
      cases fl <;> first | (injection q2 with q3 q4; subst q4; rfl) | cases q2
    | exn c p st1 => rw [hs] at q2; cases q2
    | err => rw [hs] at q2; cases q2
end
end PL
namespace PL
open PySem
theorem inD_row' {k : Int} {r : List Int} : inD (.int k) (rowD r) = some (r.any fun x => x == k) := by
  have hd : (D.tup (r.map D.int)).dat = true := dat_row r
  have hz : (D.tup (r.map D.int)).py.depth ≤ 64 := by show (rowD r).py.depth ≤ 64; rw [pz_row]; decide
  show (if (D.int k).dat && (D.tup (r.map D.int)).dat && decide ((D.int k).py.depth ≤ 64) && decide ((D.tup (r.map D.int)).py.depth ≤ 64) then some ((pyL (r.map D.int)).any fun z => PyData.eqv z (D.int k).py) else none) = _
  rw [if_pos (by rw [hd, decide_eq_true hz]; rfl)]
  congr 1
  clear hd hz
  induction r with
  | nil => rfl
  | cons a r ih =>
    show (PyData.eqv (.int a) (.int k) || (pyL (r.map D.int)).any _) = _
    rw [ih, List.any_cons]; rfl
/-- a loop over tuples that returns the first thing found -/
theorem for_findT {tg : List Nat} {tup : Bool} {f : Env → M Fl} {st : Store} {P : D → Option D} {Inv : Env → Prop} : ∀ (ys : List D) (env : Env), Inv env →
    (∀ x ∈ ys, ∀ env, Inv env → ∃ env1, bindT tg tup x env = some env1 ∧ (∀ d, P x = some d → f env1 st = .ok (.rt d) st) ∧ (P x = none → ∃ env', f env1 st = .ok (.nx env') st ∧ Inv env')) →
    (∀ d, ys.findSome? P = some d → forM tg tup f ys env st = .ok (.rt d) st) ∧ (ys.findSome? P = none → ∃ env', forM tg tup f ys env st = .ok (.nx env') st ∧ Inv env')
  | [], env, h0, _ => ⟨fun d h => by simp at h, fun _ => ⟨env, for_nil, h0⟩⟩
  | y :: ys, env, h0, h => by
    obtain ⟨env0, hb, h1, h2⟩ := h y List.mem_cons_self env h0
    cases hp : P y with
    | some d0 =>
      refine ⟨fun d hd => ?_, fun hd => ?_⟩
      · rw [List.findSome?_cons, hp] at hd
        cases hd
        exact for_rt hb (h1 _ hp)
      · rw [List.findSome?_cons, hp] at hd
        cases hd
    | none =>
      obtain ⟨env1, q1, i1⟩ := h2 hp
      obtain ⟨g1, g2⟩ := for_findT ys env1 i1 fun x m => h x (List.mem_cons_of_mem _ m)
      rw [List.findSome?_cons, hp]
      exact ⟨fun d hd => for_nx hb q1 (g1 d hd), fun hd => by
        obtain ⟨env2, q2, i2⟩ := g2 hd
        exact ⟨env2, for_nx hb q1 q2, i2⟩⟩
end PL
namespace PL
open PySem
/-- a list of drawn things -/
theorem e_dcomp {α : Type} {call : Nat → List D → M D} {env : Env} {st : Store} {body B : E} {v b : Nat} {dec : α → D} {P : α → Prop} {I : Store → Prop} (hB : ev call B env st = .ok (.int (b : Int)) st) (hb : b ≤ 1000)
    (hy : ∀ (i : Nat) st, i < b → I st → ∃ (y : α) (st' : Store), P y ∧ I st' ∧ ev call body ((unset env [v]).set v (some (rgE i))) st = .ok (dec y) st') (h : I st) :
    ∃ (ys : List α) (st' : Store), ys.length = b ∧ (∀ y ∈ ys, P y) ∧ I st' ∧ ev call (.comp body [v] false (.r1 B) .nil [v]) env st = .ok (.lst .own (ys.map dec)) st' := by
  obtain ⟨ys, st', q1, q2, q3, q4⟩ := comp_exM (f := turnF [v] false [v] (evIfs call .nil) (ev call body) env) (enc := rgE) (dec := dec) (I := I) (P := P) (xs := List.range b) (st := st) h fun i hi st hst => by
    obtain ⟨y, st', r1, r2, r3⟩ := hy i st (List.mem_range.mp hi) hst
    exact ⟨y, st', r1, r2, turn_t (st1 := st) rfl ifs_nil r3⟩
  rw [List.length_range] at q1
  refine ⟨ys, st', q1, q2, q3, e_comp (st1 := st) (i_rn hB (by omega)) q4 ?_⟩
  rw [List.length_map]; unfold LIM; omega
end PL
namespace K69
open PySem PySem.Spec PyProof.Rows L2 PL
def topS (i : Nat) : Stmt := PySem.Challenge.pw_posigrid_k69_whole_odd_holes.main.body.getD i (.Pass ⟨0, 0, 0, 0⟩)
-- transposed
def f0 : Fn := ⟨1, 3,
    (.cons (.ret (.bi .tuple (.cons (.comp (.bi .tuple (.cons (.comp (.ix (.var 2) (.var 1)) [2] false (.seq (.var 0)) .nil [2]) .nil)) [1] false (.r1 (.bi .len (.cons (.ix (.var 0) (.int 0)) .nil))) .nil [1]) .nil)))
    .nil)⟩
def N0 : List Str := ["table", "k", "row"]
-- part
def f1 : Fn := ⟨3, 5,
    (.cons (.ret (.bi .tuple (.cons (.comp (.bi .tuple (.cons (.comp (.ix (.ix (.var 0) (.var 3)) (.var 4)) [4] false (.seq (.var 2)) .nil [4]) .nil)) [3] false (.seq (.var 1)) .nil [3]) .nil)))
    .nil)⟩
def N1 : List Str := ["table", "rows", "columns", "i", "j"]
-- determinant
def f2 : Fn := ⟨1, 9,
    (.cons (.set 1 (.comp (.bi .list (.cons (.var 8) .nil)) [8] false (.seq (.var 0)) .nil [8]))
    (.cons (.setT [2, 3] (.tup (.cons (.int 1) (.cons (.int 1) .nil))))
    (.cons (.for_ [4] false (.r1 (.bin .sub (.bi .len (.cons (.var 1) .nil)) (.int 1))) (.cons (.set 6 (.comp (.var 5) [5] false (.r2 (.var 4) (.bi .len (.cons (.var 1) .nil))) (.cons (.cmp .ne (.ix (.ix (.var 1) (.var 5)) (.var 4)) (.int 0)) .nil) [5]))
    (.cons (.ite (.cmp .eq (.bi .len (.cons (.var 6) .nil)) (.int 0)) (.cons (.ret (.int 0))
    .nil) .nil)
    (.cons (.ite (.cmp .ne (.ix (.var 6) (.int 0)) (.var 4)) (.cons (.swap 1 (.var 4) (.ix (.var 6) (.int 0)) (.ix (.var 6) (.int 0)) (.var 4))
    (.cons (.set 2 (.bin .sub (.int 0) (.var 2)))
    .nil)) .nil)
    (.cons (.for_ [7] false (.r2 (.bin .add (.var 4) (.int 1)) (.bi .len (.cons (.var 1) .nil))) (.cons (.for_ [5] false (.r2 (.bin .add (.var 4) (.int 1)) (.bi .len (.cons (.var 1) .nil))) (.cons (.setIx2 1 (.var 7) (.var 5) (.bin .fdiv (.bin .sub (.bin .mul (.ix (.ix (.var 1) (.var 7)) (.var 5)) (.ix (.ix (.var 1) (.var 4)) (.var 4))) (.bin .mul (.ix (.ix (.var 1) (.var 7)) (.var 4)) (.ix (.ix (.var 1) (.var 4)) (.var 5)))) (.var 3)))
    .nil))
    .nil))
    (.cons (.set 3 (.ix (.ix (.var 1) (.var 4)) (.var 4)))
    .nil))))))
    (.cons (.ret (.ite (.cmp .gt (.bi .len (.cons (.var 1) .nil)) (.int 0)) (.bin .mul (.var 2) (.ix (.ix (.var 1) (.neg (.int 1))) (.neg (.int 1)))) (.int 1)))
    .nil))))⟩
def N2 : List Str := ["table", "left", "sign", "before", "k", "j", "swap", "i", "row"]
-- minor
def f3 : Fn := ⟨3, 3,
    (.cons (.ret (.call 2 (.cons (.call 1 (.cons (.var 0) (.cons (.var 1) (.cons (.var 2) .nil)))) .nil)))
    .nil)⟩
def N3 : List Str := ["table", "rows", "columns"]
-- index_sets
def f4 : Fn := ⟨2, 2,
    (.cons (.ret (.comb (.listR (.r1 (.var 0))) (.bi .int (.cons (.var 1) .nil))))
    .nil)⟩
def N4 : List Str := ["many", "size"]
-- all_minors
def f5 : Fn := ⟨1, 5,
    (.cons (.set 1 (.lst .nil))
    (.cons (.for_ [2] false (.r2 (.int 1) (.bin .add (.bi .min2 (.cons (.bi .len (.cons (.var 0) .nil)) (.cons (.bi .len (.cons (.ix (.var 0) (.int 0)) .nil)) .nil))) (.int 1))) (.cons (.for_ [3] false (.seq (.call 4 (.cons (.bi .len (.cons (.var 0) .nil)) (.cons (.var 2) .nil)))) (.cons (.for_ [4] false (.seq (.call 4 (.cons (.bi .len (.cons (.ix (.var 0) (.int 0)) .nil)) (.cons (.var 2) .nil)))) (.cons (.append 1 (.tup (.cons (.var 3) (.cons (.var 4) (.cons (.call 3 (.cons (.var 0) (.cons (.var 3) (.cons (.var 4) .nil)))) .nil)))))
    .nil))
    .nil))
    .nil))
    (.cons (.retV 1)
    .nil)))⟩
def N5 : List Str := ["table", "found", "size", "rows", "columns"]
-- great_minor
def f6 : Fn := ⟨1, 4,
    (.cons (.for_ [1, 2, 3] true (.seq (.call 5 (.cons (.var 0) .nil))) (.cons (.ite (.cmp .notin (.var 3) (.tup (.cons (.neg (.int 1)) (.cons (.int 0) (.cons (.int 1) .nil))))) (.cons (.ret (.tup (.cons (.var 1) (.cons (.var 2) (.cons (.var 3) .nil)))))
    .nil) .nil)
    .nil))
    (.cons (.ret .non)
    .nil))⟩
def N6 : List Str := ["table", "rows", "columns", "value"]
-- has_small_minors
def f7 : Fn := ⟨1, 1,
    (.cons (.ret (.cmp .is (.call 6 (.cons (.var 0) .nil)) .non))
    .nil)⟩
def N7 : List Str := ["table"]
-- odd_hole
def f8 : Fn := ⟨1, 6,
    (.cons (.for_ [1] false (.r3 (.int 3) (.bin .add (.bi .min2 (.cons (.bi .len (.cons (.var 0) .nil)) (.cons (.bi .len (.cons (.ix (.var 0) (.int 0)) .nil)) .nil))) (.int 1)) (.int 2)) (.cons (.for_ [2] false (.seq (.call 4 (.cons (.bi .len (.cons (.var 0) .nil)) (.cons (.var 1) .nil)))) (.cons (.for_ [3] false (.seq (.call 4 (.cons (.bi .len (.cons (.ix (.var 0) (.int 0)) .nil)) (.cons (.var 1) .nil)))) (.cons (.set 4 (.call 1 (.cons (.var 0) (.cons (.var 2) (.cons (.var 3) .nil)))))
    (.cons (.ite (.and (.cons (.bi .all (.cons (.comp (.cmp .eq (.bi .sum (.cons (.var 5) .nil)) (.int 2)) [5] false (.seq (.bin .add (.var 4) (.call 0 (.cons (.var 4) .nil)))) .nil [5]) .nil)) (.cons (.call 9 (.cons (.var 4) .nil)) .nil))) (.cons (.ret (.tup (.cons (.var 2) (.cons (.var 3) .nil))))
    .nil) .nil)
    .nil)))
    .nil))
    .nil))
    (.cons (.ret .non)
    .nil))⟩
def N8 : List Str := ["table", "size", "rows", "columns", "told", "row"]
-- is_one_ring
def f9 : Fn := ⟨1, 5,
    (.cons (.setT [1, 2, 3] (.tup (.cons (.int 0) (.cons (.mth .index (.ix (.var 0) (.int 0)) (.int 1)) (.cons (.int 0) .nil)))))
    (.cons (.whl 100000 (.bl true) (.cons (.set 2 (.ix (.comp (.var 4) [4] false (.r1 (.bi .len (.cons (.var 0) .nil))) (.cons (.and (.cons (.cmp .eq (.ix (.ix (.var 0) (.var 1)) (.var 4)) (.int 1)) (.cons (.cmp .ne (.var 4) (.var 2)) .nil))) .nil) [4]) (.int 0)))
    (.cons (.set 1 (.ix (.comp (.var 4) [4] false (.r1 (.bi .len (.cons (.var 0) .nil))) (.cons (.and (.cons (.cmp .eq (.ix (.ix (.var 0) (.var 4)) (.var 2)) (.int 1)) (.cons (.cmp .ne (.var 4) (.var 1)) .nil))) .nil) [4]) (.int 0)))
    (.cons (.aug 3 .add (.int 1))
    (.cons (.ite (.cmp .eq (.var 1) (.int 0)) (.cons (.ret (.cmp .eq (.var 3) (.bi .len (.cons (.var 0) .nil))))
    .nil) .nil)
    .nil)))))
    .nil))⟩
def N9 : List Str := ["table", "row", "column", "many", "k"]
-- is_balanced_table
def f10 : Fn := ⟨1, 1,
    (.cons (.ret (.cmp .is (.call 8 (.cons (.var 0) .nil)) .non))
    .nil)⟩
def N10 : List Str := ["table"]
-- ring_pattern
def f11 : Fn := ⟨1, 3,
    (.cons (.ret (.bi .tuple (.cons (.comp (.bi .tuple (.cons (.comp (.bi .int (.cons (.cmp .isin (.var 2) (.tup (.cons (.var 1) (.cons (.bin .mod (.bin .add (.var 1) (.int 1)) (.var 0)) .nil)))) .nil)) [2] false (.r1 (.var 0)) .nil [2]) .nil)) [1] false (.r1 (.var 0)) .nil [1]) .nil)))
    .nil)⟩
def N11 : List Str := ["many", "k", "j"]
-- span_table
def f12 : Fn := ⟨2, 5,
    (.cons (.ret (.bi .tuple (.cons (.comp (.bi .tuple (.cons (.comp (.bi .int (.cons (.chain .le .le (.var 2) (.var 4) (.var 3)) .nil)) [4] false (.r1 (.var 1)) .nil [4]) .nil)) [2, 3] true (.seq (.var 0)) .nil [2, 3]) .nil)))
    .nil)⟩
def N12 : List Str := ["rows", "many", "low", "high", "k"]
-- _law_next
def f13 : Fn := ⟨2, 4,
    (.cons (.set 2 (.ix (.var 0) (.int 2)))
    (.cons (.ite (.cmp .eq (.var 2) (.int 0)) (.cons (.set 3 (.int 0))
    (.cons (.ite (.cmp .lt (.ix (.var 0) (.int 1)) (.bi .len (.cons (.ix (.var 0) (.int 0)) .nil))) (.cons (.set 3 (.bi .abs (.cons (.bi .int (.cons (.ix (.ix (.var 0) (.int 0)) (.ix (.var 0) (.int 1))) .nil)) .nil)))
    (.cons (.setIx 0 (.int 1) (.bin .add (.ix (.var 0) (.int 1)) (.int 1)))
    .nil)) .nil)
    (.cons (.set 2 (.var 3))
    (.cons (.ite (.cmp .lt (.var 3) (.bin .pow (.int 10) (.int 18))) (.cons (.setIx 0 (.int 3) (.bin .mod (.bi .int (.cons (.bin .add (.bin .add (.bin .mul (.ix (.var 0) (.int 3)) (.int 69621)) (.bin .mul (.var 3) (.int 40692))) (.int 17)) .nil)) (.int 2147483647)))
    (.cons (.ret (.bin .mod (.bin .mod (.bi .int (.cons (.bin .mul (.bi .int (.cons (.bin .fdiv (.ix (.var 0) (.int 3)) (.int 5)) .nil)) (.int 48271)) .nil)) (.int 2147483647)) (.var 1)))
    .nil)) .nil)
    .nil)))) .nil)
    (.cons (.setIx 0 (.int 2) (.bin .fdiv (.var 2) (.var 1)))
    (.cons (.ret (.bin .mod (.bi .int (.cons (.var 2) .nil)) (.var 1)))
    .nil))))⟩
def N13 : List Str := ["tape", "many", "rest", "cell"]
-- _law_same
def f14 : Fn := ⟨2, 3,
    (.cons (.ite (.cmp .is (.var 1) .non) (.cons (.ret (.cmp .is (.var 0) .non))
    .nil) .nil)
    (.cons (.ite (.isa .bool (.var 1)) (.cons (.ret (.and (.cons (.isa .bool (.var 0)) (.cons (.cmp .eq (.var 0) (.var 1)) .nil))))
    .nil) .nil)
    (.cons (.ite (.isa .int (.var 1)) (.cons (.ret (.and (.cons (.isa .int (.var 0)) (.cons (.not (.isa .bool (.var 0))) (.cons (.cmp .eq (.var 0) (.var 1)) .nil)))))
    .nil) .nil)
    (.cons (.ite (.isa .str (.var 1)) (.cons (.ret (.and (.cons (.isa .str (.var 0)) (.cons (.cmp .eq (.var 0) (.var 1)) .nil))))
    .nil) .nil)
    (.cons (.ite (.or (.cons (.and (.cons (.isa .list (.var 1)) (.cons (.not (.isa .list (.var 0))) .nil))) (.cons (.and (.cons (.isa .tuple (.var 1)) (.cons (.not (.isa .tuple (.var 0))) .nil))) .nil))) (.cons (.ret (.bl false))
    .nil) .nil)
    (.cons (.ret (.and (.cons (.cmp .eq (.bi .len (.cons (.var 0) .nil)) (.bi .len (.cons (.var 1) .nil))) (.cons (.cmp .eq (.comp (.int 1) [2] false (.r1 (.bi .len (.cons (.var 1) .nil))) (.cons (.not (.call 14 (.cons (.ix (.var 0) (.var 2)) (.cons (.ix (.var 1) (.var 2)) .nil)))) .nil) [2]) (.lst .nil)) .nil))))
    .nil))))))⟩
def N14 : List Str := ["told", "due", "k"]
-- _law_sets
def f15 : Fn := ⟨2, 7,
    (.cons (.set 2 (.lst (.cons (.tup .nil) .nil)))
    (.cons (.for_ [3] false (.r1 (.var 1)) (.cons (.set 4 (.lst .nil))
    (.frz 2 (.cons (.for_ [5] false (.seq (.var 2)) (.cons (.set 4 (.bin .add (.var 4) (.comp (.bin .add (.var 5) (.tup (.cons (.var 6) .nil))) [6] false (.r2 (.ite (.cmp .ne (.var 5) (.tup .nil)) (.bin .add (.ix (.var 5) (.neg (.int 1))) (.int 1)) (.int 0)) (.var 0)) .nil [6])))
    .nil))
    (.frz 4 (.cons (.set 2 (.var 4))
    .nil))))))
    (.cons (.retV 2)
    .nil)))⟩
def N15 : List Str := ["many", "size", "found", "turn", "later", "row", "k"]
-- _law_ring
def f16 : Fn := ⟨1, 8,
    (.cons (.set 1 (.bi .len (.cons (.var 0) .nil)))
    (.cons (.ite (.or (.cons (.cmp .ne (.comp (.var 4) [4] false (.seq (.var 0)) (.cons (.cmp .ne (.bi .sum (.cons (.var 4) .nil)) (.int 2)) .nil) [4]) (.lst .nil)) (.cons (.cmp .ne (.comp (.var 5) [5] false (.r1 (.var 1)) (.cons (.cmp .ne (.bi .sum (.cons (.comp (.ix (.var 4) (.var 5)) [4] false (.seq (.var 0)) .nil [4]) .nil)) (.int 2)) .nil) [5]) (.lst .nil)) .nil))) (.cons (.ret (.bl false))
    .nil) .nil)
    (.cons (.set 2 (.lst (.cons (.int 0) .nil)))
    (.cons (.for_ [3] false (.r1 (.var 1)) (.cons (.set 2 (.bin .add (.var 2) (.comp (.var 6) [6] false (.r1 (.var 1)) (.cons (.and (.cons (.cmp .notin (.var 6) (.var 2)) (.cons (.cmp .ne (.comp (.var 5) [5] false (.seq (.var 2)) (.cons (.cmp .ne (.comp (.var 7) [7] false (.r1 (.var 1)) (.cons (.and (.cons (.cmp .eq (.ix (.ix (.var 0) (.var 5)) (.var 7)) (.int 1)) (.cons (.cmp .eq (.ix (.ix (.var 0) (.var 6)) (.var 7)) (.int 1)) .nil))) .nil) [7]) (.lst .nil)) .nil) [5]) (.lst .nil)) .nil))) .nil) [6])))
    .nil))
    (.cons (.ret (.cmp .eq (.bi .len (.cons (.var 2) .nil)) (.var 1)))
    .nil)))))⟩
def N16 : List Str := ["rows", "size", "met", "turn", "row", "k", "i", "j"]
-- _law_hole
def f17 : Fn := ⟨1, 6,
    (.cons (.for_ [1] false (.seq (.tup (.cons (.int 3) (.cons (.int 5) .nil)))) (.cons (.for_ [2] false (.seq (.call 15 (.cons (.bi .len (.cons (.var 0) .nil)) (.cons (.var 1) .nil)))) (.cons (.for_ [3] false (.seq (.call 15 (.cons (.bi .len (.cons (.ix (.var 0) (.int 0)) .nil)) (.cons (.var 1) .nil)))) (.cons (.ite (.call 16 (.cons (.comp (.bi .tuple (.cons (.comp (.ix (.ix (.var 0) (.var 4)) (.var 5)) [5] false (.seq (.var 3)) .nil [5]) .nil)) [4] false (.seq (.var 2)) .nil [4]) .nil)) (.cons (.ret (.tup (.cons (.var 2) (.cons (.var 3) .nil))))
    .nil) .nil)
    .nil))
    .nil))
    .nil))
    (.cons (.ret .non)
    .nil))⟩
def N17 : List Str := ["table", "size", "rows", "columns", "i", "j"]
-- law
def f18 : Fn := ⟨1, 17,
    (.cons (.set 1 (.lst (.cons (.bi .list (.cons (.var 0) .nil)) (.cons (.int 0) (.cons (.int 0) (.cons (.int 69) .nil))))))
    (.share 1 (.cons (.set 2 (.call 13 (.cons (.var 1) (.cons (.int 4) .nil))))
    (.cons (.setT [3, 4] (.tup (.cons (.bin .add (.int 1) (.call 13 (.cons (.var 1) (.cons (.int 5) .nil)))) (.cons (.bin .add (.int 1) (.call 13 (.cons (.var 1) (.cons (.int 4) .nil)))) .nil))))
    (.cons (.set 5 (.comp (.bi .tuple (.cons (.comp (.call 13 (.cons (.var 1) (.cons (.int 2) .nil))) [15] false (.r1 (.var 4)) .nil [15]) .nil)) [14] false (.r1 (.var 3)) .nil [14]))
    (.cons (.ite (.cmp .eq (.var 2) (.int 0)) (.cons (.set 6 (.ix (.tup (.cons (.int 3) (.cons (.int 5) .nil))) (.bi .int (.cons (.cmp .eq (.call 13 (.cons (.var 1) (.cons (.int 3) .nil))) (.int 0)) .nil))))
    (.cons (.setT [5, 7] (.tup (.cons (.lst .nil) (.cons (.bi .list (.cons (.call 11 (.cons (.var 6) .nil)) .nil)) .nil))))
    (.cons (.whl 100000 (.cmp .ne (.var 7) (.lst .nil)) (.cons (.set 8 (.call 13 (.cons (.var 1) (.cons (.bi .len (.cons (.var 7) .nil)) .nil))))
    (.cons (.setT [5, 7] (.tup (.cons (.bin .add (.var 5) (.lst (.cons (.ix (.var 7) (.var 8)) .nil))) (.cons (.bin .add (.sl (.var 7) .none (.some (.var 8))) (.sl (.var 7) (.some (.bin .add (.var 8) (.int 1))) .none)) .nil))))
    .nil)))
    (.cons (.set 9 (.comp (.call 13 (.cons (.var 1) (.cons (.int 2) .nil))) [14] false (.r1 (.var 6)) .nil [14]))
    (.frz 5 (.cons (.set 5 (.ite (.cmp .eq (.var 6) (.int 3)) (.comp (.bin .add (.ix (.var 5) (.var 14)) (.tup (.cons (.ix (.var 9) (.var 14)) .nil))) [14] false (.r1 (.var 6)) .nil [14]) (.var 5)))
    .nil)))))) .nil)
    (.cons (.ite (.cmp .eq (.var 2) (.int 1)) (.cons (.set 5 (.bi .list (.cons (.call 12 (.cons (.comp (.ite (.cmp .eq (.call 13 (.cons (.var 1) (.cons (.int 2) .nil))) (.int 0)) (.tup (.cons (.int 0) (.cons (.call 13 (.cons (.var 1) (.cons (.var 4) .nil))) .nil))) (.tup (.cons (.call 13 (.cons (.var 1) (.cons (.var 4) .nil))) (.cons (.bin .sub (.var 4) (.int 1)) .nil)))) [14] false (.r1 (.var 3)) .nil [14]) (.cons (.var 4) .nil))) .nil)))
    .nil) .nil)
    (.cons (.set 10 (.bi .tuple (.cons (.var 5) .nil)))
    (.cons (.set 11 (.call 17 (.cons (.var 10) .nil)))
    (.cons (.ite (.not (.call 14 (.cons (.lst (.cons (.call 8 (.cons (.var 10) .nil)) (.cons (.call 10 (.cons (.var 10) .nil)) .nil))) (.cons (.lst (.cons (.var 11) (.cons (.cmp .is (.var 11) .non) .nil))) .nil)))) (.cons (.ret (.bl false))
    .nil) .nil)
    (.cons (.set 12 (.ite (.cmp .lt (.bin .mul (.bi .len (.cons (.var 10) .nil)) (.bi .len (.cons (.ix (.var 10) (.int 0)) .nil))) (.int 21)) (.call 7 (.cons (.var 10) .nil)) (.cmp .is (.var 11) .non)))
    (.cons (.ite (.or (.cons (.and (.cons (.var 12) (.cons (.cmp .isnot (.var 11) .non) .nil))) (.cons (.and (.cons (.cmp .eq (.var 2) (.int 1)) (.cons (.not (.var 12)) .nil))) .nil))) (.cons (.ret (.bl false))
    .nil) .nil)
    (.cons (.for_ [6] false (.seq (.tup (.cons (.int 3) (.cons (.int 4) (.cons (.int 5) .nil))))) (.cons (.ite (.or (.cons (.cmp .ne (.call 11 (.cons (.var 6) .nil)) (.bi .tuple (.cons (.comp (.bi .tuple (.cons (.comp (.bi .int (.cons (.or (.cons (.cmp .eq (.var 15) (.var 16)) (.cons (.cmp .eq (.var 15) (.bin .mod (.bi .int (.cons (.bin .add (.var 16) (.int 1)) .nil)) (.var 6))) .nil))) .nil)) [15] false (.r1 (.var 6)) .nil [15]) .nil)) [16] false (.r1 (.var 6)) .nil [16]) .nil))) (.cons (.cmp .isnot (.call 9 (.cons (.call 11 (.cons (.var 6) .nil)) .nil)) (.bl true)) .nil))) (.cons (.ret (.bl false))
    .nil) .nil)
    .nil))
    (.cons (.set 13 (.tup (.cons (.tup (.cons (.int 1) (.cons (.int 1) (.cons (.int 0) (.cons (.int 0) .nil))))) (.cons (.tup (.cons (.int 1) (.cons (.int 1) (.cons (.int 0) (.cons (.int 0) .nil))))) (.cons (.tup (.cons (.int 0) (.cons (.int 0) (.cons (.int 1) (.cons (.int 1) .nil))))) (.cons (.tup (.cons (.int 0) (.cons (.int 0) (.cons (.int 1) (.cons (.int 1) .nil))))) .nil))))))
    (.cons (.ret (.and (.cons (.cmp .is (.call 9 (.cons (.var 13) .nil)) (.bl false)) (.cons (.cmp .is (.call 10 (.cons (.var 13) .nil)) (.bl true)) (.cons (.cmp .is (.call 7 (.cons (.var 13) .nil)) (.bl true)) .nil)))))
    .nil)))))))))))))))⟩
def N18 : List Str := ["script", "tape", "kind", "many", "wide", "rows", "size", "left", "at", "extra", "table", "due", "small", "two", "i", "j", "k"]

def t0 : FT := ⟨"transposed", topS 2, N0, f0⟩
def t1 : FT := ⟨"part", topS 3, N1, f1⟩
def t2 : FT := ⟨"determinant", topS 4, N2, f2⟩
def t3 : FT := ⟨"minor", topS 5, N3, f3⟩
def t4 : FT := ⟨"index_sets", topS 6, N4, f4⟩
def t5 : FT := ⟨"all_minors", topS 7, N5, f5⟩
def t6 : FT := ⟨"great_minor", topS 9, N6, f6⟩
def t7 : FT := ⟨"has_small_minors", topS 10, N7, f7⟩
def t8 : FT := ⟨"odd_hole", topS 11, N8, f8⟩
def t9 : FT := ⟨"is_one_ring", topS 12, N9, f9⟩
def t10 : FT := ⟨"is_balanced_table", topS 13, N10, f10⟩
def t11 : FT := ⟨"ring_pattern", topS 15, N11, f11⟩
def t12 : FT := ⟨"span_table", topS 16, N12, f12⟩
def t13 : FT := ⟨"_law_next", topS 18, N13, f13⟩
def t14 : FT := ⟨"_law_same", topS 19, N14, f14⟩
def t15 : FT := ⟨"_law_sets", topS 21, N15, f15⟩
def t16 : FT := ⟨"_law_ring", topS 22, N16, f16⟩
def t17 : FT := ⟨"_law_hole", topS 23, N17, f17⟩
def t18 : FT := ⟨"law", topS 24, N18, f18⟩
def fs : List FT := [t0, t1, t2, t3, t4, t5, t6, t7, t8, t9, t10, t11, t12, t13, t14, t15, t16, t17, t18]
theorem fs_ok : (fs.all fun t => t.ok true (fs.map FT.name)) = true := by decide +kernel
def fns : List Fn := [f0, f1, f2, f3, f4, f5, f6, f7, f8, f9, f10, f11, f12, f13, f14, f15, f16, f17, f18]
theorem fs_fns : fs.map FT.F = fns := rfl
end K69
namespace K69
open PySem PL
open L2 (atI ixN)
abbrev cal : Nat → List D → M D := callK fns 11
theorem h0 : fns[0]? = some transFn := by rfl
theorem h1 : fns[1]? = some partFn := by rfl
theorem h2 : fns[2]? = some detFn := by rfl
theorem h3 : fns[3]? = some (minFn 1 2) := by rfl
theorem h4 : fns[4]? = some idxFn := by rfl
theorem h5 : fns[5]? = some (amFn 4 3) := by rfl
theorem h13 : fns[13]? = some nextFn := by rfl
theorem h14 : fns[14]? = some (sameFn 14) := by rfl
def MF : MinF fns 3 4 1 2 := ⟨h3, h1, h2, h4⟩
/-! ### one ring: both ways of asking, table by table -/
/-- two in each row and column -/
def rb (n : Nat) (P : List (List Int)) : Bool := P.all (fun r => r.sum == 2) && (List.range n).all fun j => sumN P.length (fun i => at2 P i j) == 2
def ring5 : List (List Int) := [[1,1,0,0,0],[0,1,1,0,0],[0,0,1,1,0],[0,0,0,1,1],[1,0,0,0,1]]
def ohC : E := .and (.cons (.bi .all (.cons (.comp (.cmp .eq (.bi .sum (.cons (.var 5) .nil)) (.int 2)) [5] false (.seq (.bin .add (.var 4) (.call 0 (.cons (.var 4) .nil)))) .nil [5]) .nil)) (.cons (.call 9 (.cons (.var 4) .nil)) .nil))
theorem lr3 (k : Nat) (ds : List D) : ((tabs 3 3).map fun P => callK fns (k + 1) 16 [lstT P] [ds]) = (tabs 3 3).map fun P => .ok (.bl (rb 3 P)) [ds] := by kernel_rfl
theorem oh3 (k : Nat) (ds : List D) (a b c d z : Option D) : ((tabs 3 3).map fun P => ev (callK fns (k + 1)) ohC [a, b, c, d, some (tabD P), z] [ds]) = (tabs 3 3).map fun P => .ok (.bl (rb 3 P)) [ds] := by kernel_rfl
end K69
namespace K69
open PySem PL
theorem lr5 (k : Nat) (ds : List D) : ((prms ring5).map fun P => callK fns (k + 1) 16 [lstT P] [ds]) = (prms ring5).map fun P => .ok (.bl (rb 5 P)) [ds] := by kernel_rfl
theorem oh5 (k : Nat) (ds : List D) (a b c d z : Option D) : ((prms ring5).map fun P => ev (callK fns (k + 1)) ohC [a, b, c, d, some (tabD P), z] [ds]) = (prms ring5).map fun P => .ok (.bl (rb 5 P)) [ds] := by kernel_rfl
end K69
namespace K69
open PySem PL
open L2 (atI ixN)
/-- tables of the law -/
structure OkT (T : List (List Int)) (n w : Nat) : Prop where
  s : Shp T n w
  b : T01 T
  n0 : 0 < n
  w0 : 0 < w
  n5 : n ≤ 5
  w5 : w ≤ 5
  r5 : w ≤ 4 ∨ (n = 5 ∧ T ∈ prms ring5)
theorem sets_all (k : Nat) (ds : List D) : ([(1, 3), (1, 5), (2, 3), (2, 5), (3, 3), (3, 5), (4, 3), (4, 5), (5, 3), (5, 5)].map fun (p : Nat × Nat) => callK fns (k + 1) 15 [.int (p.1 : Int), .int (p.2 : Int)] [ds]) = [(1, 3), (1, 5), (2, 3), (2, 5), (3, 3), (3, 5), (4, 3), (4, 5), (5, 3), (5, 5)].map fun (p : Nat × Nat) => .ok (cmbD .fro p.1 p.2) [ds] := by kernel_rfl
theorem sets_ok {k n s : Nat} {ds : List D} (h0 : 0 < n) (h5 : n ≤ 5) (hs : s = 3 ∨ s = 5) : callK fns (k + 1) 15 [.int (n : Int), .int (s : Int)] [ds] = .ok (cmbD .fro n s) [ds] := by
  have m : (n, s) ∈ [(1, 3), (1, 5), (2, 3), (2, 5), (3, 3), (3, 5), (4, 3), (4, 5), (5, 3), (5, 5)] := by
    have : n = 1 ∨ n = 2 ∨ n = 3 ∨ n = 4 ∨ n = 5 := by omega
    rcases this with rfl | rfl | rfl | rfl | rfl <;> rcases hs with rfl | rfl <;> decide
  exact at_all (sets_all k ds) m
theorem f_cmbF {call : Nat → List D → M D} {env : PL.Env} {e : E} {st : Store} {n r : Nat} (h : ev call e env st = .ok (cmbD .fro n r) st) : evF call (.seq e) env st = .ok ((cmb n r).map rowN) st := by
  refine f_seq h rfl ?_
  show some (bwL _) = _
  rw [bwL_rowN]
theorem cm_of {n s : Nat} {r : List Nat} (h5 : n ≤ 5) (hs : s = 3 ∨ s = 5) (h : r ∈ cmb n s) : CmOk n s := by
  refine ⟨by omega, ?_, h5⟩
  by_cases hl : s ≤ n
  · exact hl
  · exfalso
    have : cmb n s = [] := by unfold cmb allC; rw [if_pos (by omega)]; rfl
    rw [this] at h
    cases h
theorem at01 {T : List (List Int)} {n w i j : Nat} (s : Shp T n w) (b : T01 T) (hi : i < n) (hj : j < w) : at2 T i j = 0 ∨ at2 T i j = 1 := by
  obtain ⟨r, h1, h2⟩ := s.at hi hj
  exact b r (List.mem_of_getElem? h1) _ (List.mem_of_getElem? h2)
theorem prt_shp {T : List (List Int)} {r c : List Nat} : Shp (prt T r c) r.length c.length := ⟨by unfold prt; rw [List.length_map], fun x m => by
  unfold prt at m
  obtain ⟨i, _, rfl⟩ := List.mem_map.mp m
  rw [List.length_map]⟩
theorem prt01 {T : List (List Int)} {n w : Nat} {r c : List Nat} (s : Shp T n w) (b : T01 T) (hr : ∀ i ∈ r, i < n) (hc : ∀ j ∈ c, j < w) : T01 (prt T r c) := fun x m y hy => by
  unfold prt at m
  obtain ⟨i, hi, rfl⟩ := List.mem_map.mp m
  obtain ⟨j, hj, rfl⟩ := List.mem_map.mp hy
  exact at01 s b (hr i hi) (hc j hj)
theorem prt_tabs {T : List (List Int)} {n w : Nat} {r c : List Nat} {p q : Nat} (s : Shp T n w) (b : T01 T) (hr : r.length = p ∧ ∀ i ∈ r, i < n) (hc : c.length = q ∧ ∀ j ∈ c, j < w) : prt T r c ∈ tabs q p := by
  have h1 := (prt_shp (T := T) (r := r) (c := c))
  have := mem_tabs (m := q) (t := prt T r c) (fun x m => by rw [h1.2 x m]; exact hc.1) (prt01 s b hr.2 hc.2)
  rw [h1.1, hr.1] at this
  exact this
theorem cmb55 : cmb 5 5 = [List.range 5] := by decide +kernel
theorem prt_all {T : List (List Int)} {n w : Nat} (s : Shp T n w) : prt T (List.range n) (List.range w) = T := (mat_of s).symm
theorem ring_at {T : List (List Int)} {n w s : Nat} {r c : List Nat} (O : OkT T n w) (hs : s = 3 ∨ s = 5) (mr : r ∈ cmb n s) (mc : c ∈ cmb w s) (k : Nat) (ds : List D) :
    callK fns (k + 1) 16 [lstT (prt T r c)] [ds] = .ok (.bl (rb s (prt T r c))) [ds] ∧ ∀ a b c' d z, ev (callK fns (k + 1)) ohC [a, b, c', d, some (tabD (prt T r c)), z] [ds] = .ok (.bl (rb s (prt T r c))) [ds] := by
  have q1 := cm_of O.n5 hs mr
  have q2 := cm_of O.w5 hs mc
  rcases hs with rfl | rfl
  · have m := prt_tabs O.s O.b (cmb_ok q1 mr) (cmb_ok q2 mc)
    exact ⟨at_all (lr3 k ds) m, fun a b c' d z => at_all (oh3 k ds a b c' d z) m⟩
  · have e1 : n = 5 := by have := q1.2.1; have := O.n5; omega
    have e2 : w = 5 := by have := q2.2.1; have := O.w5; omega
    subst e1 e2
    have m : T ∈ prms ring5 := by
      rcases O.r5 with h | h
      · omega
      · exact h.2
    rw [cmb55] at mr mc
    rw [List.mem_singleton.mp mr, List.mem_singleton.mp mc, prt_all O.s]
    exact ⟨at_all (lr5 k ds) m, fun a b c' d z => at_all (oh5 k ds a b c' d z) m⟩
/-! ### the first part -/
def pc (T : List (List Int)) (s : Nat) (r c : List Nat) : Option D := if rb s (prt T r c) then some (.tup [rowN r, rowN c]) else none
def pr (T : List (List Int)) (w s : Nat) (r : List Nat) : Option D := (cmb w s).findSome? (pc T s r)
def ps (T : List (List Int)) (n w : Nat) (s : Nat) : Option D := (cmb n s).findSome? (pr T w s)
def hol (T : List (List Int)) (n w : Nat) : Option D := [3, 5].findSome? (ps T n w)
theorem keep_rc (r c : List Nat) : (D.tup [rowN r, rowN c]).keep = true := by
  show ((rowN r).keep && ((rowN c).keep && true)) = true
  rw [(pl_rowN r).kp, (pl_rowN c).kp]; rfl
section
variable {T : List (List Int)} {n w k : Nat} {ds : List D}
theorem lhole_ok (O : OkT T n w) : callK fns (k + 2) 17 [tabD T] [ds] = .ok ((hol T n w).getD .non) [ds] := by
  refine c_run (k := k + 1) (F := f17) rfl (run_pl (pl1 (pl_tab T)) rfl (fnd_end (o := hol T n w) (Inv := fun env => ∃ z1 z2 z3 z4 z5, env = [some (tabD T), z1, z2, z3, z4, z5]) ?_) rfl)
  refine fnd_for (ys := [3, 5]) (enc := rgE) (by rfl) ⟨_, _, _, _, _, rfl⟩ fun s ms env ⟨z1, z2, z3, z4, z5, e⟩ => ?_
  have hs : s = 3 ∨ s = 5 := by simpa using ms
  subst e
  refine (fnd_for (ys := cmb n s) (enc := rowN) (P := pr T w s) (Inv := fun env => ∃ z2 z3 z4 z5, env = [some (tabD T), some (rgE s), z2, z3, z4, z5]) (f_cmbF (e_call (es_cons (e_bi (es_cons (e_vTab rfl) es_nil) (by rw [len_tab, O.s.1])) (es_cons (e_vJ rfl) es_nil)) (sets_ok O.n0 O.n5 hs))) ⟨_, _, _, _, rfl⟩ fun r mr env ⟨z2, z3, z4, z5, e⟩ => ?_).imp fun env ⟨z2, z3, z4, z5, e⟩ => ⟨_, z2, z3, z4, z5, e⟩
  subst e
  have hl0 : biD .len [rowD (T.getD 0 [])] = some (.int (w : Int)) := by
    rw [len_row]
    obtain ⟨r0, h1, h2⟩ := O.s.row O.n0
    rw [getD_of h1, h2]
  obtain ⟨r0, g1, g2⟩ := O.s.row O.n0
  refine (fnd_for (ys := cmb w s) (enc := rowN) (P := pc T s r) (Inv := fun env => ∃ z3 z4 z5, env = [some (tabD T), some (rgE s), some (rowN r), z3, z4, z5]) (f_cmbF (e_call (es_cons (e_bi (es_cons (e_ixT (e_vTab rfl) (b := .int 0) (i := 0) e_int g1) es_nil) (by rw [len_row, g2])) (es_cons (e_vJ rfl) es_nil)) (sets_ok O.w0 O.w5 hs))) ⟨_, _, _, rfl⟩ fun c mc env ⟨z3, z4, z5, e⟩ => ?_).imp fun env ⟨z3, z4, z5, e⟩ => ⟨_, z3, z4, z5, e⟩
  subst e
  have q1 := cmb_ok (cm_of O.n5 hs mr) mr
  have q2 := cmb_ok (cm_of O.w5 hs mc) mc
  refine fnd_if (b := rb s (prt T r c)) ?_ (fun _ => e_tup (es_cons (e_vRowN rfl) (es_cons (e_vRowN rfl) es_nil))) (keep_rc r c) ⟨_, _, _, rfl⟩
  refine e_call (ds := [.lst .own ((prt T r c).map rowD)]) (es_cons (e_prt (R := rowN r) (C := rowN c) O.s q1.2 q2.2 (by omega) (by omega) (Ixs.items .tup rfl) (fun i _ => Ixs.items .tup rfl) fun i hi j hj => e_at2 O.s (q1.2 i hi) (q2.2 j hj) (e_vTab rfl) (e_vJ rfl) (e_vJ rfl)) es_nil) ?_
  rw [callK_frz (by rw [keepL]; rw [keep_rows]; rfl), show frzL [D.lst .own ((prt T r c).map rowD)] = [lstT (prt T r c)] from congrArg (· :: []) (frz_rows _)]
  exact (ring_at O hs mr mc k ds).1
end
end K69
namespace K69
open PySem PL
open L2 (atI ixN)
def odl (m : Nat) : List Nat := [3, 5].filter fun s => decide (s ≤ m)
theorem od_rs : ∀ m ∈ [0, 1, 2, 3, 4, 5], (rsOk 3 ((m : Nat) + 1 : Int) 2 = true ∧ rsD 3 ((m : Nat) + 1 : Int) 2 = (odl m).map rgE) := by
  intro m hm
  simp only [List.mem_cons, List.not_mem_nil, or_false] at hm
  rcases hm with rfl | rfl | rfl | rfl | rfl | rfl <;> exact ⟨by decide +kernel, by rfl⟩
theorem fs_none {α : Type} {l : List α} {P : α → Option D} (h : ∀ x ∈ l, P x = none) : l.findSome? P = none := List.findSome?_eq_none_iff.mpr h
theorem cmb_gt {n s : Nat} (h : n < s) : cmb n s = [] := by unfold cmb allC; rw [if_pos h]; rfl
theorem ps_none {T : List (List Int)} {n w s : Nat} (h : min n w < s) : ps T n w s = none := by
  unfold ps
  by_cases hn : n < s
  · rw [cmb_gt hn]; rfl
  · refine fs_none fun r _ => ?_
    unfold pr
    rw [cmb_gt (by omega)]; rfl
theorem hol_od (T : List (List Int)) (n w : Nat) : (odl (min n w)).findSome? (ps T n w) = hol T n w := by
  unfold hol odl
  have key : ∀ l : List Nat, (l.filter fun s => decide (s ≤ min n w)).findSome? (ps T n w) = l.findSome? (ps T n w) := by
    intro l
    induction l with
    | nil => rfl
    | cons s l ih =>
      by_cases h : s ≤ min n w
      · rw [List.filter_cons, if_pos (by simpa using h), List.findSome?_cons, List.findSome?_cons, ih]
      · rw [List.filter_cons, if_neg (by simpa using h), List.findSome?_cons, ps_none (by omega), ih]
  exact key _
section
variable {T : List (List Int)} {n w k : Nat} {ds : List D}
theorem oh_ok (O : OkT T n w) : callK fns (k + 3) 8 [tabD T] [ds] = .ok ((hol T n w).getD .non) [ds] := by
  rw [← hol_od]
  obtain ⟨r0, g1, g2⟩ := O.s.row O.n0
  have hm5 : min n w ≤ 5 := by have := O.n5; omega
  have len0 : ∀ (z1 z2 z3 z4 z5 : Option D), ev (callK fns (k + 2)) (.bi .len (.cons (.ix (.var 0) (.int 0)) .nil)) [some (tabD T), z1, z2, z3, z4, z5] [ds] = .ok (.int (w : Int)) [ds] := fun z1 z2 z3 z4 z5 => e_bi (es_cons (e_ixT (e_vTab rfl) (b := .int 0) (i := 0) e_int g1) es_nil) (by rw [len_row, g2])
  have len1 : ∀ (z1 z2 z3 z4 z5 : Option D), ev (callK fns (k + 2)) (.bi .len (.cons (.var 0) .nil)) [some (tabD T), z1, z2, z3, z4, z5] [ds] = .ok (.int (n : Int)) [ds] := fun z1 z2 z3 z4 z5 => e_bi (es_cons (e_vTab rfl) es_nil) (by rw [len_tab, O.s.1])
  refine c_run (k := k + 2) (F := f8) rfl (run_pl (pl1 (pl_tab T)) rfl (fnd_end (o := (odl (min n w)).findSome? (ps T n w)) (Inv := fun env => ∃ z1 z2 z3 z4 z5, env = [some (tabD T), z1, z2, z3, z4, z5]) ?_) rfl)
  refine fnd_for (ys := odl (min n w)) (enc := rgE) ?_ ⟨_, _, _, _, _, rfl⟩ fun s ms env ⟨z1, z2, z3, z4, z5, e⟩ => ?_
  · have q := od_rs (min n w) (by simp only [List.mem_cons, List.not_mem_nil, or_false]; omega)
    have a1 : ev (callK fns (k + 2)) (.bin .add (.bi .min2 (.cons (.bi .len (.cons (.var 0) .nil)) (.cons (.bi .len (.cons (.ix (.var 0) (.int 0)) .nil)) .nil))) (.int 1)) [some (tabD T), none, none, none, none, none] [ds] = .ok (.int ((min n w : Nat) + 1 : Int)) [ds] :=
      e_bin (e_bi (es_cons (len1 _ _ _ _ _) (es_cons (len0 _ _ _ _ _) es_nil)) bi_min2) e_int bin_add
    rw [← q.2]
    exact i_r3 e_int a1 e_int q.1
  have hs : s = 3 ∨ s = 5 := by
    unfold odl at ms
    have := (List.mem_filter.mp ms).1
    simpa using this
  have hsm : s ≤ min n w := by
    unfold odl at ms
    simpa using (List.mem_filter.mp ms).2
  have cn : CmOk n s := ⟨by omega, by omega, O.n5⟩
  have cw : CmOk w s := ⟨by omega, by omega, O.w5⟩
  subst e
  refine (fnd_for (ys := cmb n s) (enc := rowN) (P := pr T w s) (Inv := fun env => ∃ z2 z3 z4 z5, env = [some (tabD T), some (rgE s), z2, z3, z4, z5]) (f_cmb (e_call (es_cons (len1 _ _ _ _ _) (es_cons (e_vJ rfl) es_nil)) (idx_ok h4 cn))) ⟨_, _, _, _, rfl⟩ fun r mr env ⟨z2, z3, z4, z5, e⟩ => ?_).imp fun env ⟨z2, z3, z4, z5, e⟩ => ⟨_, z2, z3, z4, z5, e⟩
  subst e
  refine (fnd_for (ys := cmb w s) (enc := rowN) (P := pc T s r) (Inv := fun env => ∃ z3 z4 z5, env = [some (tabD T), some (rgE s), some (rowN r), z3, z4, z5]) (f_cmb (e_call (es_cons (len0 _ _ _ _ _) (es_cons (e_vJ rfl) es_nil)) (idx_ok h4 cw))) ⟨_, _, _, rfl⟩ fun c mc env ⟨z3, z4, z5, e⟩ => ?_).imp fun env ⟨z3, z4, z5, e⟩ => ⟨_, z3, z4, z5, e⟩
  subst e
  have q1 := cmb_ok cn mr
  have q2 := cmb_ok cw mc
  refine fnd_set (x := tabD (prt T r c)) (e_call (es_cons (e_vTab rfl) (es_cons (e_vRowN rfl) (es_cons (e_vRowN rfl) es_nil))) (prt_ok h1 O.s q1.2 q2.2 (by omega) (by omega) .tup .tup)) (pl_tab _).kp ?_
  refine fnd_if (b := rb s (prt T r c)) ((ring_at O hs mr mc (k + 1) ds).2 _ _ _ _ _) (fun _ => e_tup (es_cons (e_vRowN rfl) (es_cons (e_vRowN rfl) es_nil))) (keep_rc r c) ⟨_, _, _, rfl⟩
theorem hol_cases (T : List (List Int)) (n w : Nat) : hol T n w = none ∨ ∃ r c, hol T n w = some (.tup [rowN r, rowN c]) := by
  cases h : hol T n w with
  | none => exact .inl rfl
  | some d =>
    obtain ⟨s, _, h1⟩ := List.exists_of_findSome?_eq_some h
    obtain ⟨r, _, h2⟩ := List.exists_of_findSome?_eq_some h1
    obtain ⟨c, _, h3⟩ := List.exists_of_findSome?_eq_some h2
    unfold pc at h3
    split at h3
    · cases h3; exact .inr ⟨r, c, rfl⟩
    · cases h3
theorem is_non {call : Nat → List D → M D} {env : PL.Env} {st st1 : Store} {a : E} {o : Option D} (h : ev call a env st = .ok (o.getD .non) st1) (ho : o = none ∨ ∃ r c, o = some (D.tup [rowN r, rowN c])) : ev call (.cmp .is a .non) env st = .ok (.bl o.isNone) st1 := by
  refine e_cmp h e_non ?_
  rcases ho with rfl | ⟨r, c, rfl⟩ <;> rfl
/-- is_balanced_table -/
theorem bal_ok (O : OkT T n w) : callK fns (k + 4) 10 [tabD T] [ds] = .ok (.bl (hol T n w).isNone) [ds] :=
  c_run (k := k + 3) (F := f10) rfl (run_pl (pl1 (pl_tab T)) rfl (s_rt (x_ret (is_non (e_call (es_cons (e_vTab rfl) es_nil) (oh_ok O)) (hol_cases T n w)) rfl)) rfl)
end
end K69
namespace PL
theorem dt_congr {r : Nat} {F G : Mx} (hr : r ≤ 4) (h : ∀ i j, i < r → j < r → F i j = G i j) : dtF r F = dtF r G := by
  rcases (show r = 0 ∨ r = 1 ∨ r = 2 ∨ r = 3 ∨ r = 4 by omega) with rfl | rfl | rfl | rfl | rfl
  · rfl
  · simp only [dtF, h 0 0 (by decide) (by decide)]
  · simp only [dtF, h 0 0 (by decide) (by decide), h 0 1 (by decide) (by decide), h 1 0 (by decide) (by decide), h 1 1 (by decide) (by decide)]
  · simp only [dtF, h 0 0 (by decide) (by decide), h 0 1 (by decide) (by decide), h 0 2 (by decide) (by decide), h 1 0 (by decide) (by decide), h 1 1 (by decide) (by decide), h 1 2 (by decide) (by decide), h 2 0 (by decide) (by decide), h 2 1 (by decide) (by decide), h 2 2 (by decide) (by decide)]
  · simp only [dtF, h 0 0 (by decide) (by decide), h 0 1 (by decide) (by decide), h 0 2 (by decide) (by decide), h 0 3 (by decide) (by decide), h 1 0 (by decide) (by decide), h 1 1 (by decide) (by decide), h 1 2 (by decide) (by decide), h 1 3 (by decide) (by decide), h 2 0 (by decide) (by decide), h 2 1 (by decide) (by decide), h 2 2 (by decide) (by decide), h 2 3 (by decide) (by decide), h 3 0 (by decide) (by decide), h 3 1 (by decide) (by decide), h 3 2 (by decide) (by decide), h 3 3 (by decide) (by decide)]
theorem dt3_sm {r : Nat} {F : Mx} (hr : r ≤ 3) (h : SmF r SB F) : (dtF r F).natAbs ≤ 2 ^ 40 := by
  rcases (show r = 0 ∨ r = 1 ∨ r = 2 ∨ r = 3 by omega) with rfl | rfl | rfl | rfl
  · show (1 : Int).natAbs ≤ _
    decide
  · exact Nat.le_trans (h 0 0 (by decide) (by decide)) (by decide)
  · exact Nat.le_trans (na_sub (na_mul (h 0 0 (by decide) (by decide)) (h 1 1 (by decide) (by decide))) (na_mul (h 0 1 (by decide) (by decide)) (h 1 0 (by decide) (by decide)))) (by decide)
  · exact Nat.le_trans (d3_sm (h _ _ (by decide) (by decide)) (h _ _ (by decide) (by decide)) (h _ _ (by decide) (by decide)) (h _ _ (by decide) (by decide)) (h _ _ (by decide) (by decide)) (h _ _ (by decide) (by decide)) (h _ _ (by decide) (by decide)) (h _ _ (by decide) (by decide)) (h _ _ (by decide) (by decide))) (by decide)
theorem cof_sm {t : List (List Int)} {n : Nat} (hn : n ≤ 4) (h : Sm2 t n n SB) {i j : Nat} (hi : i < n) (hj : j < n) : (cofV t n i j).natAbs ≤ 2 ^ 40 := by
  obtain ⟨l1, e1⟩ := oths_1 hn hj
  obtain ⟨l2, e2⟩ := oths_1 hn hi
  unfold cofV
  rw [Int.mul_comm, sgn_abs]
  exact dt3_sm (by omega) (h.pick e1 e2 (by omega))
/-- the index that skips -/
theorem oths_skp : ∀ p ∈ [(2, 0), (2, 1), (3, 0), (3, 1), (3, 2), (4, 0), (4, 1), (4, 2), (4, 3)], ((List.range (p.1 - 1)).all fun a => (oths p.1 [p.2]).getD a 0 == skp p.2 a) = true := by decide +kernel
theorem oths_get {n j a : Nat} (hn : n ≤ 4) (hj : j < n) (ha : a < n - 1) : (oths n [j]).getD a 0 = skp j a := by
  have : (n, j) ∈ [(2, 0), (2, 1), (3, 0), (3, 1), (3, 2), (4, 0), (4, 1), (4, 2), (4, 3)] := by
    have h1 : n = 2 ∨ n = 3 ∨ n = 4 := by omega
    have h2 : j = 0 ∨ j = 1 ∨ j = 2 ∨ j = 3 := by omega
    rcases h1 with rfl | rfl | rfl <;> rcases h2 with rfl | rfl | rfl | rfl <;> first | decide | omega
  have q := oths_skp _ this
  rw [List.all_eq_true] at q
  simpa using q a (List.mem_range.mpr ha)
theorem cof_eq {t : List (List Int)} {n i j : Nat} (hn : n ≤ 4) (hi : i < n) (hj : j < n) : mnV t (oths n [j]) (oths n [i]) = dtF (n - 1) fun a b => at2 t (skp j a) (skp i b) := by
  obtain ⟨l1, e1⟩ := oths_1 hn hj
  unfold mnV
  rw [l1]
  refine dt_congr (by omega) fun a b ha hb => ?_
  unfold pick
  rw [oths_get hn hj ha, oths_get hn hi hb]
theorem adj_1 {t : List (List Int)} {n i j : Nat} (h0 : 1 ≤ n) (hn : n ≤ 4) (hi : i < n) (hj : j < n) : (sumN n fun k => at2 t i k * cofV t n k j) = dtF n (at2 t) * idF i j := by
  have e : ∀ k, k < n → cofV t n k j = sgn (k + j) * dtF (n - 1) fun a b => at2 t (skp j a) (skp k b) := fun k hk => by unfold cofV; rw [cof_eq hn hk hj]
  rw [sumN_congr fun k hk => by rw [e k hk]]
  rcases (show n = 1 ∨ n = 2 ∨ n = 3 ∨ n = 4 by omega) with rfl | rfl | rfl | rfl
  · obtain rfl : i = 0 := by omega
    obtain rfl : j = 0 := by omega
    simp [sum1, dtF, idF, sgn]
  · rcases (show i = 0 ∨ i = 1 by omega) with rfl | rfl <;> rcases (show j = 0 ∨ j = 1 by omega) with rfl | rfl <;>
    · simp [sum2, dtF, idF, sgn, skp]
      try grind
  · rcases (show i = 0 ∨ i = 1 ∨ i = 2 by omega) with rfl | rfl | rfl <;> rcases (show j = 0 ∨ j = 1 ∨ j = 2 by omega) with rfl | rfl | rfl <;>
    · simp [sum3, dtF, idF, sgn, skp, d3]
      try grind
  · rcases (show i = 0 ∨ i = 1 ∨ i = 2 ∨ i = 3 by omega) with rfl | rfl | rfl | rfl <;> rcases (show j = 0 ∨ j = 1 ∨ j = 2 ∨ j = 3 by omega) with rfl | rfl | rfl | rfl <;>
    · simp [sum4, dtF, idF, sgn, skp, d3, d4]
      try grind
theorem adj_2 {t : List (List Int)} {n i j : Nat} (h0 : 1 ≤ n) (hn : n ≤ 4) (hi : i < n) (hj : j < n) : (sumN n fun k => cofV t n i k * at2 t k j) = dtF n (at2 t) * idF i j := by
  have e : ∀ k, k < n → cofV t n i k = sgn (i + k) * dtF (n - 1) fun a b => at2 t (skp k a) (skp i b) := fun k hk => by unfold cofV; rw [cof_eq hn hi hk]
  rw [sumN_congr fun k hk => by rw [e k hk]]
  rcases (show n = 1 ∨ n = 2 ∨ n = 3 ∨ n = 4 by omega) with rfl | rfl | rfl | rfl
  · obtain rfl : i = 0 := by omega
    obtain rfl : j = 0 := by omega
    simp [sum1, dtF, idF, sgn]
  · rcases (show i = 0 ∨ i = 1 by omega) with rfl | rfl <;> rcases (show j = 0 ∨ j = 1 by omega) with rfl | rfl <;>
    · simp [sum2, dtF, idF, sgn, skp]
      try grind
  · rcases (show i = 0 ∨ i = 1 ∨ i = 2 by omega) with rfl | rfl | rfl <;> rcases (show j = 0 ∨ j = 1 ∨ j = 2 by omega) with rfl | rfl | rfl <;>
    · simp [sum3, dtF, idF, sgn, skp, d3]
      try grind
  · rcases (show i = 0 ∨ i = 1 ∨ i = 2 ∨ i = 3 by omega) with rfl | rfl | rfl | rfl <;> rcases (show j = 0 ∨ j = 1 ∨ j = 2 ∨ j = 3 by omega) with rfl | rfl | rfl | rfl <;>
    · simp [sum4, dtF, idF, sgn, skp, d3, d4]
      try grind
theorem adj_l {t : List (List Int)} {n : Nat} (h0 : 1 ≤ n) (hn : n ≤ 4) : mulT t (mat n n (cofV t n)) n n n = mat n n fun i j => dtF n (at2 t) * idF i j := by
  unfold mulT
  refine mat_congr fun i hi j hj => ?_
  rw [← adj_1 h0 hn hi hj]
  exact sumN_congr fun k hk => by rw [at2_mat hk hj]
theorem adj_r {t : List (List Int)} {n : Nat} (h0 : 1 ≤ n) (hn : n ≤ 4) : mulT (mat n n (cofV t n)) t n n n = mat n n fun i j => dtF n (at2 t) * idF i j := by
  unfold mulT
  refine mat_congr fun i hi j hj => ?_
  rw [← adj_2 h0 hn hi hj]
  exact sumN_congr fun k hk => by rw [at2_mat hi hk]
/-! ### Cauchy and Binet -/
theorem cb_id {b r : Nat} {X Y : Mx} (h : (b, r) ∈ [(1, 1), (2, 1), (2, 2), (3, 1), (3, 2), (3, 3)]) : dtF r (fun i j => sumN b fun k => X i k * Y k j) = ((cmb b r).map fun m => dtF r (fun i j => X i (m.getD j 0)) * dtF r (fun i j => Y (m.getD i 0) j)).sum := by
  have c11 : cmb 1 1 = [[0]] := by decide +kernel
  have c21 : cmb 2 1 = [[0], [1]] := by decide +kernel
  have c22 : cmb 2 2 = [[0, 1]] := by decide +kernel
  have c31 : cmb 3 1 = [[0], [1], [2]] := by decide +kernel
  have c32 : cmb 3 2 = [[0, 1], [0, 2], [1, 2]] := by decide +kernel
  have c33 : cmb 3 3 = [[0, 1, 2]] := by decide +kernel
  simp only [List.mem_cons, Prod.mk.injEq, List.not_mem_nil, or_false] at h
  rcases h with ⟨rfl, rfl⟩ | ⟨rfl, rfl⟩ | ⟨rfl, rfl⟩ | ⟨rfl, rfl⟩ | ⟨rfl, rfl⟩ | ⟨rfl, rfl⟩
  · rw [c11]; simp [dtF, sum1]
  · rw [c21]; simp [dtF, sum2]
  · rw [c22]; simp [dtF, sum2]; grind
  · rw [c31]; simp [dtF, sum3]; grind
  · rw [c32]; simp [dtF, sum3]; grind
  · rw [c33]; simp [dtF, sum3, d3]; grind
theorem cp_mat {t : List (List Int)} {a b r : Nat} : cpV t a b r = mat (cmb a r).length (cmb b r).length fun i k => mnV t ((cmb a r).getD i []) ((cmb b r).getD k []) := by
  unfold cpV mat
  rw [map_getD (cmb a r) []]
  refine List.map_congr_left fun i _ => ?_
  rw [map_getD (cmb b r) []]
theorem sum_getD {α : Type} (l : List α) (d : α) (f : α → Int) : (sumN l.length fun k => f (l.getD k d)) = (l.map f).sum := by
  unfold sumN
  rw [← map_getD l d]
theorem mem_getD {α : Type} {l : List α} {d : α} {i : Nat} (h : i < l.length) : l.getD i d ∈ l := by
  rw [List.getD_eq_getElem?_getD, List.getElem?_eq_getElem h]
  exact List.getElem_mem h
/-- minors of a product -/
theorem mn_prod {t u : List (List Int)} {a b r : Nat} (hr : 1 ≤ r) (hra : r ≤ a) (hrb : r ≤ b) (ha : a ≤ 3) (hb : b ≤ 3) {s c : List Nat} (ms : s ∈ cmb a r) (mc : c ∈ cmb a r) :
    mnV (mulT t u a b a) s c = ((cmb b r).map fun m => mnV t s m * mnV u m c).sum := by
  obtain ⟨l1, e1⟩ := cmb_ok ⟨hr, hra, by omega⟩ ms
  obtain ⟨l2, e2⟩ := cmb_ok ⟨hr, hra, by omega⟩ mc
  have hm : (b, r) ∈ [(1, 1), (2, 1), (2, 2), (3, 1), (3, 2), (3, 3)] := by
    have h1 : b = 1 ∨ b = 2 ∨ b = 3 := by omega
    have h2 : r = 1 ∨ r = 2 ∨ r = 3 := by omega
    rcases h1 with rfl | rfl | rfl <;> rcases h2 with rfl | rfl | rfl <;> first | decide | omega
  have e := cb_id (b := b) (r := r) (X := fun i k => at2 t (s.getD i 0) k) (Y := fun k j => at2 u k (c.getD j 0)) hm
  have e3 : mnV (mulT t u a b a) s c = dtF r (fun i j => sumN b fun k => at2 t (s.getD i 0) k * at2 u k (c.getD j 0)) := by
    unfold mnV
    rw [l1]
    refine dt_congr (by omega) fun i j hi hj => ?_
    unfold pick mulT
    rw [at2_mat (getD_lt e1 (by omega)) (getD_lt e2 (by omega))]
  rw [e3, e]
  congr 1
  refine List.map_congr_left fun m mm => ?_
  obtain ⟨l3, _⟩ := cmb_ok ⟨hr, hrb, by omega⟩ mm
  unfold mnV
  rw [l1, l3]; rfl
theorem cb_ok {t u : List (List Int)} {a b r : Nat} (hr : 1 ≤ r) (hra : r ≤ a) (hrb : r ≤ b) (ha : a ≤ 3) (hb : b ≤ 3) : cpV (mulT t u a b a) a a r = mulT (cpV t a b r) (cpV u b a r) (cmb a r).length (cmb b r).length (cmb a r).length := by
  rw [cp_mat]
  unfold mulT
  refine mat_congr fun i hi j hj => ?_
  rw [show mat a a (fun i j => sumN b fun k => at2 t i k * at2 u k j) = mulT t u a b a from rfl, mn_prod hr hra hrb ha hb (mem_getD hi) (mem_getD hj), ← sum_getD (cmb b r) []]
  refine sumN_congr fun k hk => ?_
  rw [cp_mat, cp_mat, at2_mat hi hk, at2_mat hk hj]
end PL
namespace K69
open PySem PL
open L2 (atI ixN)
/-! ### small minors -/
def sm1 (v : Int) : Bool := [-1, 0, 1].any fun x => x == v
def gmP : D → Option D
  | .tup [a, b, .int v] => if sm1 v then none else some (.tup [a, b, .int v])
  | _ => none
def gm (T : List (List Int)) (n w : Nat) : Option D := (mnA T n w (min n w)).findSome? gmP
theorem mem_mnA {T : List (List Int)} {n w m : Nat} {x : D} : x ∈ mnA T n w m ↔ ∃ s r c, 1 ≤ s ∧ s ≤ m ∧ r ∈ cmb n s ∧ c ∈ cmb w s ∧ x = mnD T r c := by
  unfold mnA mnS mnR
  rw [List.mem_flatMap]
  constructor
  · rintro ⟨s, hs, h⟩
    rw [List.mem_range'_1] at hs
    obtain ⟨r, mr, h⟩ := List.mem_flatMap.mp h
    obtain ⟨c, mc, rfl⟩ := List.mem_map.mp h
    exact ⟨s, r, c, hs.1, by omega, mr, mc, rfl⟩
  · rintro ⟨s, r, c, h1, h2, mr, mc, rfl⟩
    refine ⟨s, by rw [List.mem_range'_1]; omega, List.mem_flatMap.mpr ⟨r, mr, List.mem_map.mpr ⟨c, mc, rfl⟩⟩⟩
section
variable {T : List (List Int)} {n w k : Nat} {ds : List D}
theorem OkT.tb (O : OkT T n w) (hw : w ≤ 4) : Tb T n w := by
  refine ⟨O.s, fun i j hi hj => ?_, O.n0, O.w0, O.n5, O.w5, by omega⟩
  rcases at01 O.s O.b hi hj with e | e <;> rw [e] <;> decide
theorem great_ok (O : OkT T n w) (hw : w ≤ 4) : callK fns (k + 4) 6 [tabD T] [ds] = .ok ((gm T n w).getD .non) [ds] := by
  have B := O.tb hw
  refine c_run (k := k + 3) (F := f6) rfl (run_pl (pl1 (pl_tab T)) rfl (fnd_end (o := gm T n w) (Inv := fun env => ∃ z1 z2 z3, env = [some (tabD T), z1, z2, z3]) ?_) rfl)
  have am := am_ok (k := k) (st := [ds]) h5 MF B
  have it : evF (callK fns (k + 3)) (.seq (.call 5 (.cons (.var 0) .nil))) [some (tabD T), none, none, none] [ds] = .ok (mnA T n w (min n w)) [ds] := by
    have pls : ∀ d ∈ mnA T n w (min n w), Pl d := fun d m => by
      obtain ⟨s, r, c, _, _, _, _, rfl⟩ := mem_mnA.mp m
      exact pl_mnD T r c
    refine f_seq (e_call (es_cons (e_vTab rfl) es_nil) am) (keepL_of pls) ?_
    show some (bwL (frzL _)) = _
    rw [frzL_id (noOwnL_of pls) (keepL_of pls), bwL_id (noOwnL_of pls) (keepL_of pls)]
  obtain ⟨g1, g2⟩ := for_findT (tg := [1, 2, 3]) (tup := true) (f := execs (callK fns (k + 3)) (.cons (.ite (.cmp .notin (.var 3) (.tup (.cons (.neg (.int 1)) (.cons (.int 0) (.cons (.int 1) .nil))))) (.cons (.ret (.tup (.cons (.var 1) (.cons (.var 2) (.cons (.var 3) .nil))))) .nil) .nil) .nil)) (st := [ds]) (P := gmP) (Inv := fun env => ∃ z1 z2 z3, env = [some (tabD T), z1, z2, z3]) (mnA T n w (min n w)) [some (tabD T), none, none, none] ⟨_, _, _, rfl⟩ fun x mx env ⟨z1, z2, z3, e⟩ => by
    subst e
    obtain ⟨s, r, c, _, _, _, _, rfl⟩ := mem_mnA.mp mx
    refine ⟨[some (tabD T), some (rowN r), some (rowN c), some (.int (mnV T r c))], ?_, ?_⟩
    · have e : bwL [rowN r, rowN c, .int (mnV T r c)] = [rowN r, rowN c, .int (mnV T r c)] := by
        show [(rowN r).bw, (rowN c).bw, _] = _
        rw [(pl_rowN r).bw, (pl_rowN c).bw]; rfl
      show (if (3 : Nat) = 3 then some (([1, 2, 3].zip (bwL [rowN r, rowN c, .int (mnV T r c)])).foldl (fun e p => e.set p.1 (some p.2)) [some (tabD T), z1, z2, z3]) else none) = _
      rw [e]; rfl
    · have hin : ev (callK fns (k + 3)) (.cmp .notin (.var 3) (.tup (.cons (.neg (.int 1)) (.cons (.int 0) (.cons (.int 1) .nil))))) [some (tabD T), some (rowN r), some (rowN c), some (.int (mnV T r c))] [ds] = .ok (.bl (!sm1 (mnV T r c))) [ds] := by
        refine e_cmp (y := rowD [-1, 0, 1]) (e_vI rfl) (e_tup (es_cons (e_neg e_int) (es_cons e_int (es_cons e_int es_nil)))) ?_
        have e : cmpD .notin (.int (mnV T r c)) (rowD [-1, 0, 1]) = (inD (.int (mnV T r c)) (rowD [-1, 0, 1])).map (!·) := rfl
        rw [e, inD_row']; rfl
      have := fnd_if (e := .tup (.cons (.var 1) (.cons (.var 2) (.cons (.var 3) .nil)))) (b := !sm1 (mnV T r c)) (d := mnD T r c) (Inv := fun env => ∃ z1 z2 z3, env = [some (tabD T), z1, z2, z3]) hin (fun _ => e_tup (es_cons (e_vRowN rfl) (es_cons (e_vRowN rfl) (es_cons (e_vI rfl) es_nil)))) (pl_mnD T r c).kp ⟨_, _, _, rfl⟩
      have e : gmP (mnD T r c) = if (!sm1 (mnV T r c)) = true then some (mnD T r c) else none := by
        show (if sm1 (mnV T r c) then none else some _) = _
        cases sm1 (mnV T r c) <;> rfl
      rw [e]
      exact this
  exact ⟨fun d hd => s_rt (x_for it (g1 d hd)), fun hd => by
    obtain ⟨env', q, i⟩ := g2 hd
    exact ⟨env', s_cons (x_for it q) s_nil, i⟩⟩
theorem small_ok (O : OkT T n w) (hw : w ≤ 4) : callK fns (k + 5) 7 [tabD T] [ds] = .ok (.bl (gm T n w).isNone) [ds] := by
  refine c_run (k := k + 4) (F := f7) rfl (run_pl (pl1 (pl_tab T)) rfl (s_rt (x_ret (e_cmp (k := (gm T n w).isNone) (e_call (es_cons (e_vTab rfl) es_nil) (great_ok O hw)) e_non ?_) rfl)) rfl)
  cases h : gm T n w with
  | none => rfl
  | some d =>
    obtain ⟨x, _, h1⟩ := List.exists_of_findSome?_eq_some h
    unfold gmP at h1
    split at h1
    · split at h1
      · cases h1
      · cases h1; rfl
    · cases h1
/-! ### a ring is no table of small minors -/
theorem ring_det : ∀ P ∈ tabs 3 3, rb 3 P = true → sm1 (dtF 3 (at2 P)) = false := by decide +kernel
theorem prt_at {r c : List Nat} {i j : Nat} (hi : i < r.length) (hj : j < c.length) : at2 (prt T r c) i j = pick T r c i j := by
  obtain ⟨x, h1, h2⟩ := (prt_shp (T := T) (r := r) (c := c)).at hi hj
  unfold prt at h1
  rw [List.getElem?_map] at h1
  obtain ⟨a, ha, rfl⟩ := Option.map_eq_some_iff.mp h1
  rw [List.getElem?_map] at h2
  obtain ⟨b, hb, h3⟩ := Option.map_eq_some_iff.mp h2
  rw [← h3]
  unfold pick
  rw [getD_of ha, getD_of hb]
theorem mnV_prt {r c : List Nat} {s : Nat} (hr : r.length = s) (hc : c.length = s) (h4 : s ≤ 4) : mnV T r c = dtF s (at2 (prt T r c)) := by
  unfold mnV
  rw [hr]
  exact dt_congr h4 fun i j hi hj => (prt_at (by omega) (by omega)).symm
theorem hole_great (O : OkT T n w) (hw : w ≤ 4) (h : (hol T n w).isNone = false) : (gm T n w).isNone = false := by
  cases h' : hol T n w with
  | none => rw [h'] at h; cases h
  | some d =>
    obtain ⟨s, ms, h1⟩ := List.exists_of_findSome?_eq_some h'
    obtain ⟨r, mr, h2⟩ := List.exists_of_findSome?_eq_some h1
    obtain ⟨c, mc, h3⟩ := List.exists_of_findSome?_eq_some h2
    have hs : s = 3 ∨ s = 5 := by simpa using ms
    have cn := cm_of O.n5 hs mr
    have cw := cm_of O.w5 hs mc
    have e3 : s = 3 := by have := cw.2.1; omega
    subst e3
    have hrb : rb 3 (prt T r c) = true := by
      unfold pc at h3
      split at h3
      · assumption
      · cases h3
    have q1 := cmb_ok cn mr
    have q2 := cmb_ok cw mc
    have hd := ring_det _ (prt_tabs O.s O.b q1 q2) hrb
    rw [← mnV_prt q1.1 q2.1 (by decide)] at hd
    cases hg : gm T n w with
    | some d => rfl
    | none =>
      have := (List.findSome?_eq_none_iff.mp hg) (mnD T r c) (mem_mnA.mpr ⟨3, r, c, by decide, by have := cn.2.1; have := cw.2.1; omega, mr, mc, rfl⟩)
      have e : gmP (mnD T r c) = some (mnD T r c) := by
        show (if sm1 (mnV T r c) then none else some _) = _
        rw [hd]; rfl
      rw [e] at this
      cases this
/-! ### tables of runs have small minors -/
def ivr (s : Nat) (a b : Nat) : List Int := (List.range s).map fun k => if a ≤ k ∧ k ≤ b then 1 else 0
/-- runs from the first or to the last place, or none -/
def ivl (s : Nat) : List (List Int) := (List.range s).map (fun h => ivr s 0 h) ++ (List.range (s + 1)).map fun l => ivr s l s
def tabsOf (R : List (List Int)) : Nat → List (List (List Int))
  | 0 => [[]]
  | n + 1 => (tabsOf R n).flatMap fun t => R.map fun r => r :: t
theorem mem_tabsOf {R : List (List Int)} : ∀ {t : List (List Int)}, (∀ r ∈ t, r ∈ R) → t ∈ tabsOf R t.length
  | [], _ => by simp [tabsOf]
  | r :: t, h => by
    have ih := mem_tabsOf fun y q => h y (List.mem_cons_of_mem _ q)
    exact List.mem_flatMap.mpr ⟨t, ih, List.mem_map.mpr ⟨r, h r List.mem_cons_self, rfl⟩⟩
theorem run_det : ∀ s ∈ [1, 2, 3, 4], ∀ P ∈ tabsOf (ivl s) s, sm1 (dtF s (at2 P)) = true := by decide +kernel
def ivw (w : Nat) : List (List Int) := (List.range w).map (fun h => ivr w 0 h) ++ (List.range w).map fun l => ivr w l (w - 1)
theorem run_cut : ∀ w ∈ [1, 2, 3, 4], ∀ s ∈ [1, 2, 3, 4], ∀ R ∈ ivw w, ∀ c ∈ cmb w s, (c.map fun j => R.getD j 0) ∈ ivl s := by decide +kernel
theorem runs_small (O : OkT T n w) (hw : w ≤ 4) (hT : ∀ r ∈ T, r ∈ ivw w) : (gm T n w).isNone = true := by
  have : gm T n w = none := by
    refine List.findSome?_eq_none_iff.mpr fun x mx => ?_
    obtain ⟨s, r, c, s1, s2, mr, mc, rfl⟩ := mem_mnA.mp mx
    have cn : CmOk n s := ⟨s1, by omega, O.n5⟩
    have cw : CmOk w s := ⟨s1, by omega, O.w5⟩
    have q1 := cmb_ok cn mr
    have q2 := cmb_ok cw mc
    have s4 : s ≤ 4 := by omega
    have ms : s ∈ [1, 2, 3, 4] := by simp only [List.mem_cons, List.not_mem_nil, or_false]; omega
    have mw : w ∈ [1, 2, 3, 4] := by have := O.w0; simp only [List.mem_cons, List.not_mem_nil, or_false]; omega
    have hP : prt T r c ∈ tabsOf (ivl s) s := by
      have := mem_tabsOf (R := ivl s) (t := prt T r c) fun x m => by
        unfold prt at m
        obtain ⟨i, hi, rfl⟩ := List.mem_map.mp m
        obtain ⟨R, hR, _⟩ := O.s.row (q1.2 i hi)
        have := run_cut w mw s ms R (hT R (List.mem_of_getElem? hR)) c mc
        unfold at2
        rw [getD_of hR]
        exact this
      rw [prt_shp.1, q1.1] at this
      exact this
    have hd := run_det s ms _ hP
    rw [← mnV_prt q1.1 q2.1 s4] at hd
    show (if sm1 (mnV T r c) then none else some _) = _
    rw [hd]; rfl
  rw [this]; rfl
end
end K69
namespace K69
open PySem PL
open L2 (atI ixN)
def dropS : Nat → Sts → Sts
  | 0, s => s
  | n + 1, .cons _ s => dropS n s
  | n + 1, .frz _ s => dropS n s
  | n + 1, .share _ s => dropS n s
  | _, .nil => .nil
def endS : Sts := dropS 12 f18.body
theorem end_ok (ds : List D) (x0 x1 x2 x3 x4 x5 x6 x7 x8 x9 x10 x11 x12 x13 x14 x15 x16 : Option D) : execs cal endS [x0, x1, x2, x3, x4, x5, x6, x7, x8, x9, x10, x11, x12, x13, x14, x15, x16] [ds] = .ok (.rt (.bl true)) [ds] := by kernel_rfl
end K69
namespace K69
open PySem PL
open L2 (atI ixN)
section
variable {T : List (List Int)} {n w : Nat} {ds : List D}
theorem hol_ok (O : OkT T n w) : let d := (hol T n w).getD .non; Pl d ∧ d.okS = true ∧ d.dep ≤ 2 := by
  intro d
  show Pl ((hol T n w).getD .non) ∧ ((hol T n w).getD .non).okS = true ∧ ((hol T n w).getD .non).dep ≤ 2
  cases h : hol T n w with
  | none => exact ⟨pl_non, rfl, by decide⟩
  | some d =>
    obtain ⟨s, ms, h1⟩ := List.exists_of_findSome?_eq_some h
    obtain ⟨r, mr, h2⟩ := List.exists_of_findSome?_eq_some h1
    obtain ⟨c, mc, h3⟩ := List.exists_of_findSome?_eq_some h2
    have hs : s = 3 ∨ s = 5 := by simpa using ms
    have q1 := cmb_ok (cm_of O.n5 hs mr) mr
    have q2 := cmb_ok (cm_of O.w5 hs mc) mc
    unfold pc at h3
    split at h3
    · cases h3
      have okr : ∀ r : List Nat, r.length ≤ 1000000 → (rowN r).okS = true := fun r hr => by rw [rowN_row]; exact okS_row (by rw [List.length_map]; exact hr)
      have dpr : ∀ r : List Nat, (rowN r).dep = 1 := fun r => by rw [rowN_row, dep_row]
      refine ⟨pl_tup fun d m => ?_, ?_, ?_⟩
      · simp only [List.mem_cons, List.not_mem_nil, or_false] at m
        rcases m with rfl | rfl <;> exact pl_rowN _
      · show (decide (2 ≤ 1000000) && ((rowN r).okS && ((rowN c).okS && true))) = true
        rw [okr r (by omega), okr c (by omega)]; rfl
      · show (max (rowN r).dep (max (rowN c).dep 0)) + 1 ≤ 2
        rw [dpr, dpr]; decide
    · cases h3
theorem rest_ok {kd : Int} {m : Md} {x0 x1 x3 x4 x6 x7 x8 x9 x10 x11 x12 x13 x14 x15 x16 : Option D} (O : OkT T n w) (hm : m = .own ∨ m = .fro) (hk : kd = 1 → w ≤ 4 ∧ ∀ r ∈ T, r ∈ ivw w) :
    Trg cal (dropS 7 f18.body) [x0, x1, some (.int kd), x3, x4, some (.lst m (T.map rowD)), x6, x7, x8, x9, x10, x11, x12, x13, x14, x15, x16] [ds] := by
  refine trg_set (st1 := [ds]) (x := tabD T) ?_ (pl_tab T).kp ?_
  · rcases hm with rfl | rfl
    · exact e_bi (es_cons (e_var rfl rfl) es_nil) (by rw [show (D.lst .own (T.map rowD)).bw = .lst .bor (bwL (T.map rowD)) from rfl, bwL_rows]; exact tup_rows T)
    · exact e_bi (es_cons (e_vF rfl) es_nil) (tup_rows T)
  have hp := hol_ok O
  dsimp only at hp
  obtain ⟨p1, p2, p3⟩ := hp
  have iN : ∀ {env : PL.Env}, env[11]? = some (some ((hol T n w).getD .non)) → ev cal (.cmp .is (.var 11) .non) env [ds] = .ok (.bl (hol T n w).isNone) [ds] := fun h => is_non (e_vP p1 h) (hol_cases T n w)
  have iS : ∀ {env : PL.Env}, env[11]? = some (some ((hol T n w).getD .non)) → ev cal (.cmp .isnot (.var 11) .non) env [ds] = .ok (.bl (!(hol T n w).isNone)) [ds] := fun h => by
    refine e_cmp (e_vP p1 h) e_non ?_
    rcases hol_cases T n w with e | ⟨r, c, e⟩ <;> rw [e] <;> rfl
  refine trg_set (st1 := [ds]) (e_call (es_cons (e_vTab rfl) es_nil) (lhole_ok (k := 9) O)) p1.kp ?_
  refine trg_if ?_ ?_
  · have hs := same_ok h14 11 (.lst .own [(hol T n w).getD .non, .bl (hol T n w).isNone]) (.lst .own [(hol T n w).getD .non, .bl (hol T n w).isNone]) [ds] (by
        show (max ((hol T n w).getD .non).dep (max 0 0)) + 1 < 11
        omega) rfl (by
        show (true && (((hol T n w).getD .non).keep && (true && true)) && (((hol T n w).getD .non).okS && (true && true))) = true
        rw [p1.kp, p2]; rfl) (by
        show (true && (((hol T n w).getD .non).keep && (true && true)) && (((hol T n w).getD .non).okS && (true && true))) = true
        rw [p1.kp, p2]; rfl) (by show (((hol T n w).getD .non).keep && (true && true)) = true; rw [p1.kp]; rfl) (by show (((hol T n w).getD .non).keep && (true && true)) = true; rw [p1.kp]; rfl)
    refine e_not (k := true) (e_call (es_cons (e_lst (es_cons (e_call (es_cons (e_vTab rfl) es_nil) (oh_ok (k := 8) O)) (es_cons (e_call (es_cons (e_vTab rfl) es_nil) (bal_ok (k := 7) O)) es_nil))) (es_cons (e_lst (es_cons (e_vP p1 rfl) (es_cons (iN rfl) es_nil))) es_nil)) hs)
  have hlen : ∀ {env : PL.Env}, env[10]? = some (some (tabD T)) → ev cal (.cmp .lt (.bin .mul (.bi .len (.cons (.var 10) .nil)) (.bi .len (.cons (.ix (.var 10) (.int 0)) .nil))) (.int 21)) env [ds] = .ok (.bl (decide (((n : Int) * (w : Int)) < 21))) [ds] := fun h => by
    obtain ⟨r0, g1, g2⟩ := O.s.row O.n0
    refine e_cmp (e_bin (e_bi (es_cons (e_vTab h) es_nil) (by rw [len_tab, O.s.1])) (e_bi (es_cons (e_ixT (e_vTab h) (b := .int 0) (i := 0) e_int g1) es_nil) (by rw [len_row, g2])) (bin_mul (mulOk_l ?_))) e_int cmp_ltI
    have := O.n5
    omega
  have hsm : ∃ sb : Bool, (sb = true → (hol T n w).isNone = true) ∧ (kd = 1 → sb = true) ∧ ∀ {env : PL.Env}, env[10]? = some (some (tabD T)) → env[11]? = some (some ((hol T n w).getD .non)) →
      ev cal (.ite (.cmp .lt (.bin .mul (.bi .len (.cons (.var 10) .nil)) (.bi .len (.cons (.ix (.var 10) (.int 0)) .nil))) (.int 21)) (.call 7 (.cons (.var 10) .nil)) (.cmp .is (.var 11) .non)) env [ds] = .ok (.bl sb) [ds] := by
    by_cases hw : w ≤ 4
    · refine ⟨(gm T n w).isNone, fun h => ?_, fun h => runs_small O hw (hk h).2, fun h1 h2 => ?_⟩
      · cases e : (hol T n w).isNone with
        | true => rfl
        | false => rw [hole_great O hw e] at h; cases h
      · have hl := hlen h1
        rw [decide_eq_true (by
          have h1 := O.n5
          have h2 : n * w ≤ 5 * 4 := Nat.mul_le_mul h1 hw
          have h3 : (n : Int) * (w : Int) = ((n * w : Nat) : Int) := by simp
          omega)] at hl
        exact e_iteT (e_tst hl rfl) (e_call (es_cons (e_vTab h1) es_nil) (small_ok (k := 6) O hw))
    · refine ⟨(hol T n w).isNone, id, fun h => absurd (hk h).1 hw, fun h1 h2 => ?_⟩
      have e5 : n = 5 ∧ w = 5 := by
        have := O.w5
        rcases O.r5 with h | h
        · omega
        · exact ⟨h.1, by omega⟩
      have hl := hlen h1
      rw [e5.1, e5.2] at hl
      exact e_iteF (e_tst hl rfl) (iN h2)
  obtain ⟨sb, s1, s2, s3⟩ := hsm
  refine trg_set (st1 := [ds]) (x := .bl sb) (s3 rfl rfl) rfl ?_
  refine trg_if ?_ ?_
  · refine e_or (or_f (st1 := [ds]) (e_and ?_) (or_f (st1 := [ds]) (e_and ?_) or_nil))
    · cases hb : sb with
      | false => exact and_f (e_vB rfl)
      | true =>
        have := iS (env := [x0, x1, some (.int kd), x3, x4, some (.lst m (T.map rowD)), x6, x7, x8, x9, some (tabD T), some ((hol T n w).getD .non), some (.bl true), x13, x14, x15, x16]) rfl
        rw [s1 hb] at this
        exact and_t (e_vB rfl) (and_f this)
    · by_cases h1 : kd = 1
      · rw [s2 h1]
        have e : ev cal (.cmp .eq (.var 2) (.int 1)) [x0, x1, some (.int kd), x3, x4, some (.lst m (T.map rowD)), x6, x7, x8, x9, some (tabD T), some ((hol T n w).getD .non), some (.bl true), x13, x14, x15, x16] [ds] = .ok (.bl (decide (kd = 1))) [ds] := e_cmp (e_vI rfl) e_int cmp_eqI
        rw [decide_eq_true h1] at e
        exact and_t e (and_f (e_not (k := true) (e_vB rfl)))
      · have e : ev cal (.cmp .eq (.var 2) (.int 1)) [x0, x1, some (.int kd), x3, x4, some (.lst m (T.map rowD)), x6, x7, x8, x9, some (tabD T), some ((hol T n w).getD .non), some (.bl sb), x13, x14, x15, x16] [ds] = .ok (.bl (decide (kd = 1))) [ds] := e_cmp (e_vI rfl) e_int cmp_eqI
        rw [decide_eq_false h1] at e
        exact and_f e
  exact ⟨[ds], end_ok ds _ _ _ _ _ _ _ _ _ _ _ _ _ _ _ _ _⟩
end
end K69
namespace K69
open PySem PL
open L2 (atI ixN)
abbrev b01 (x : Int) : Prop := x = 0 ∨ x = 1
theorem e_bit {env : PL.Env} {st : Store} (h : env[1]? = some (some (.sref 0))) (hd : Tp st) : ∃ (x : Int) (st' : Store), b01 x ∧ Tp st' ∧ ev cal (.call 13 (.cons (.var 1) (.cons (.int 2) .nil))) env st = .ok (.int x) st' := by
  obtain ⟨r, st', h1, h2, h3⟩ := e_next (k := 10) (A := .int 2) (L := 2) h13 h e_int (by decide) (by decide) hd
  exact ⟨r, st', by unfold b01; omega, h2, h3⟩
theorem set_getq {env : PL.Env} {i j : Nat} {x : Option D} (h : i ≠ j) : (env.set j x)[i]? = env[i]? := by rw [List.getElem?_set]; rw [if_neg (fun e => h e.symm)]
/-- rows of drawn bits -/
theorem e_bits {x0 x2 x3 x4 x5 x6 x7 x8 x9 x10 x11 x12 x13 x14 x15 x16 : Option D} {st : Store} {a b : Nat} (h3 : x3 = some (.int (a : Int))) (h4 : x4 = some (.int (b : Int))) (ha : a ≤ 1000) (hb : b ≤ 1000) (hd : Tp st) :
    ∃ (t : List (List Int)) (st' : Store), Shp t a b ∧ T01 t ∧ Tp st' ∧
      ev cal (.comp (.bi .tuple (.cons (.comp (.call 13 (.cons (.var 1) (.cons (.int 2) .nil))) [15] false (.r1 (.var 4)) .nil [15]) .nil)) [14] false (.r1 (.var 3)) .nil [14]) [x0, some (.sref 0), x2, x3, x4, x5, x6, x7, x8, x9, x10, x11, x12, x13, x14, x15, x16] st = .ok (.lst .own (t.map rowD)) st' := by
  subst h3 h4
  obtain ⟨t, st', q1, q2, q3, q4⟩ := e_dcomp (call := cal) (st := st) (v := 14) (B := .var 3) (b := a) (dec := rowD) (P := fun r => r.length = b ∧ ∀ x ∈ r, b01 x) (I := Tp) (env := [x0, some (.sref 0), x2, some (.int (a : Int)), some (.int (b : Int)), x5, x6, x7, x8, x9, x10, x11, x12, x13, x14, x15, x16])
    (body := .bi .tuple (.cons (.comp (.call 13 (.cons (.var 1) (.cons (.int 2) .nil))) [15] false (.r1 (.var 4)) .nil [15]) .nil)) (e_vI rfl) ha (fun i st _ hst => by
      obtain ⟨r, st', r1, r2, r3, r4⟩ := e_dcomp (call := cal) (st := st) (v := 15) (B := .var 4) (b := b) (dec := D.int) (P := b01) (I := Tp) (env := [x0, some (.sref 0), x2, some (.int (a : Int)), some (.int (b : Int)), x5, x6, x7, x8, x9, x10, x11, x12, x13, some (rgE i), x15, x16])
        (body := .call 13 (.cons (.var 1) (.cons (.int 2) .nil))) (e_vI rfl) hb (fun j st _ hst => e_bit rfl hst) hst
      exact ⟨r, st', ⟨r1, r2⟩, r3, e_bi (es_cons r4 es_nil) (tup_ints r)⟩) hd
  exact ⟨t, st', ⟨q1, fun r m => (q2 r m).1⟩, fun r m => (q2 r m).2, q3, q4⟩
/-! ### rings in another order -/
def ringT (s : Nat) : List (List Int) := mat s s fun k j => if j = k ∨ j = (k + 1) % s then 1 else 0
theorem rp_all (k : Nat) (ds : List D) : ([3, 5].map fun (s : Nat) => callK fns (k + 1) 11 [.int (s : Int)] [ds]) = [3, 5].map fun (s : Nat) => .ok (tabD (ringT s)) [ds] := by kernel_rfl
theorem ring5_is : ringT 5 = ring5 := by decide
def whB : Sts := .cons (.set 8 (.call 13 (.cons (.var 1) (.cons (.bi .len (.cons (.var 7) .nil)) .nil))))
    (.cons (.setT [5, 7] (.tup (.cons (.bin .add (.var 5) (.lst (.cons (.ix (.var 7) (.var 8)) .nil))) (.cons (.bin .add (.sl (.var 7) .none (.some (.var 8))) (.sl (.var 7) (.some (.bin .add (.var 8) (.int 1))) .none)) .nil))))
    .nil)
theorem keepL_rows {t : List (List Int)} : keepL (t.map rowD) = true := (pl_tab t).kp
def whC : E := .cmp .ne (.var 7) (.lst .nil)
theorem bw_own (t : List (List Int)) : (D.lst .own (t.map rowD)).bw = .lst .bor (t.map rowD) := by show D.lst .bor (bwL _) = _; rw [bwL_rows]
theorem wh_test {env : PL.Env} {st : Store} {left : List (List Int)} (h : env[7]? = some (some (.lst .own (left.map rowD)))) : tstD (ev cal whC) env st = .ok (!left.isEmpty) st := by
  refine e_tst (e_cmp (k := !left.isEmpty) (e_var h (bw_own left)) (e_lst es_nil) ?_) rfl
  have hd : (D.lst .bor (left.map rowD)).dat = true := by show (true && datL _) = true; rw [dat_rows]; rfl
  have hz : (D.lst .bor (left.map rowD)).py.depth ≤ 64 := pz_tab left
  show (if (D.lst .bor (left.map rowD)).dat && (D.lst .own []).dat && decide ((D.lst .bor (left.map rowD)).py.depth ≤ 64) && decide ((D.lst .own []).py.depth ≤ 64) then some (PyData.eqv (D.lst .bor (left.map rowD)).py (D.lst .own []).py) else none).map (!·) = _
  rw [if_pos (by rw [hd, decide_eq_true hz]; rfl)]
  cases left <;> rfl
section
variable {x0 x2 x3 x4 x6 x8 x9 x10 x11 x12 x13 x14 x15 x16 : Option D}
theorem wh_loop (R : List (List Int)) (hR : R.length ≤ 100) : ∀ (f : Nat) (left rows : List (List Int)) (z8 : Option D) (st : Store), left.length < f → (rows ++ left).Perm R → Tp st →
    ∃ (rows' : List (List Int)) (z8' : Option D) (st' : Store), rows'.Perm R ∧ Tp st' ∧
      whileM (tstD (ev cal whC)) (execs cal whB) f [x0, some (.sref 0), x2, x3, x4, some (.lst .own (rows.map rowD)), x6, some (.lst .own (left.map rowD)), z8, x9, x10, x11, x12, x13, x14, x15, x16] st =
        .ok (.nx [x0, some (.sref 0), x2, x3, x4, some (.lst .own (rows'.map rowD)), x6, some (.lst .own []), z8', x9, x10, x11, x12, x13, x14, x15, x16]) st'
  | 0, left, _, _, _, h, _, _ => absurd h (Nat.not_lt_zero _)
  | f + 1, [], rows, z8, st, _, hp, hd => by
    have t := wh_test (env := [x0, some (.sref 0), x2, x3, x4, some (.lst .own (rows.map rowD)), x6, some (.lst .own []), z8, x9, x10, x11, x12, x13, x14, x15, x16]) (st := st) (left := []) rfl
    exact ⟨rows, z8, st, by simpa using hp, hd, while_f t⟩
  | f + 1, l0 :: left, rows, z8, st, hl, hp, hd => by
    generalize hL : l0 :: left = L at *
    have hne : L ≠ [] := by rw [← hL]; simp
    have hlen : 0 < L.length := List.length_pos_iff.mpr hne
    have hpl : rows.length + L.length = R.length := by have := hp.length_eq; rw [List.length_append] at this; exact this
    have t := wh_test (env := [x0, some (.sref 0), x2, x3, x4, some (.lst .own (rows.map rowD)), x6, some (.lst .own (L.map rowD)), z8, x9, x10, x11, x12, x13, x14, x15, x16]) (st := st) (left := L) rfl
    rw [show L.isEmpty = false by cases L <;> first | rfl | exact absurd rfl hne] at t
    have hL2 : ((L.map rowD).length : Int) = (L.length : Int) := by rw [List.length_map]
    obtain ⟨a, st1, a1, a2, a3⟩ := e_next (k := 10) (env := [x0, some (.sref 0), x2, x3, x4, some (.lst .own (rows.map rowD)), x6, some (.lst .own (L.map rowD)), z8, x9, x10, x11, x12, x13, x14, x15, x16]) (A := .bi .len (.cons (.var 7) .nil)) (L := (L.length : Int)) h13 rfl (e_bi (es_cons (e_var rfl (bw_own L)) es_nil) (by show some (D.int ((L.map rowD).length : Nat)) = _; rw [List.length_map])) (by omega) (by omega) hd
    have ha : a < L.length := by omega
    have v7 : ∀ {z : Option D}, ev cal (.var 7) [x0, some (.sref 0), x2, x3, x4, some (.lst .own (rows.map rowD)), x6, some (.lst .own (L.map rowD)), z, x9, x10, x11, x12, x13, x14, x15, x16] st1 = .ok (.lst .bor (L.map rowD)) st1 := fun {z} => e_var rfl (bw_own L)
    have v5 : ev cal (.var 5) [x0, some (.sref 0), x2, x3, x4, some (.lst .own (rows.map rowD)), x6, some (.lst .own (L.map rowD)), some (.int (a : Int)), x9, x10, x11, x12, x13, x14, x15, x16] st1 = .ok (.lst .bor (rows.map rowD)) st1 := e_var rfl (bw_own rows)
    have v8 : ev cal (.var 8) [x0, some (.sref 0), x2, x3, x4, some (.lst .own (rows.map rowD)), x6, some (.lst .own (L.map rowD)), some (.int (a : Int)), x9, x10, x11, x12, x13, x14, x15, x16] st1 = .ok (.int (a : Int)) st1 := e_vI rfl
    have eA : ev cal (.bin .add (.var 5) (.lst (.cons (.ix (.var 7) (.var 8)) .nil))) [x0, some (.sref 0), x2, x3, x4, some (.lst .own (rows.map rowD)), x6, some (.lst .own (L.map rowD)), some (.int (a : Int)), x9, x10, x11, x12, x13, x14, x15, x16] st1 = .ok (.lst .own ((rows ++ [L[a]]).map rowD)) st1 := by
      refine e_bin v5 (e_lst (es_cons (e_ix v7 v8 (ix_lst (at_nat (d := rowD L[a]) (by rw [List.getElem?_map, List.getElem?_eq_getElem ha]; rfl)))) es_nil)) ?_
      show (if _ then some (D.lst .own (rows.map rowD ++ [rowD L[a]])) else none) = _
      rw [if_pos (by simp [LIM]; omega), List.map_append]; rfl
    have eS1 : ev cal (.sl (.var 7) .none (.some (.var 8))) [x0, some (.sref 0), x2, x3, x4, some (.lst .own (rows.map rowD)), x6, some (.lst .own (L.map rowD)), some (.int (a : Int)), x9, x10, x11, x12, x13, x14, x15, x16] st1 = .ok (.lst .own ((L.take a).map rowD)) st1 := by
      refine e_sl v7 o_none (o_some v8) ?_
      show some (D.lst .own (cutD (bwL (L.map rowD)) none (some (a : Int)))) = _
      rw [bwL_rows, cut_to (by rw [List.length_map]; omega), ← List.map_take]
    have eS2 : ev cal (.sl (.var 7) (.some (.bin .add (.var 8) (.int 1))) .none) [x0, some (.sref 0), x2, x3, x4, some (.lst .own (rows.map rowD)), x6, some (.lst .own (L.map rowD)), some (.int (a : Int)), x9, x10, x11, x12, x13, x14, x15, x16] st1 = .ok (.lst .own ((L.drop (a + 1)).map rowD)) st1 := by
      refine e_sl v7 (o_some (e_bin v8 e_int bin_add)) o_none ?_
      show some (D.lst .own (cutD (bwL (L.map rowD)) (some ((a : Int) + 1)) none)) = _
      have e : ((a : Int) + 1) = ((a + 1 : Nat) : Int) := by omega
      rw [bwL_rows, e, cut_from, ← List.map_drop]
    have eB : ev cal (.bin .add (.sl (.var 7) .none (.some (.var 8))) (.sl (.var 7) (.some (.bin .add (.var 8) (.int 1))) .none)) [x0, some (.sref 0), x2, x3, x4, some (.lst .own (rows.map rowD)), x6, some (.lst .own (L.map rowD)), some (.int (a : Int)), x9, x10, x11, x12, x13, x14, x15, x16] st1 = .ok (.lst .own ((L.take a ++ L.drop (a + 1)).map rowD)) st1 := by
      refine e_bin eS1 eS2 ?_
      show (if _ then some (D.lst .own ((L.take a).map rowD ++ (L.drop (a + 1)).map rowD)) else none) = _
      rw [if_pos (by simp [LIM]; omega), List.map_append]
    have body : execs cal whB [x0, some (.sref 0), x2, x3, x4, some (.lst .own (rows.map rowD)), x6, some (.lst .own (L.map rowD)), z8, x9, x10, x11, x12, x13, x14, x15, x16] st = .ok (.nx [x0, some (.sref 0), x2, x3, x4, some (.lst .own ((rows ++ [L[a]]).map rowD)), x6, some (.lst .own ((L.take a ++ L.drop (a + 1)).map rowD)), some (.int (a : Int)), x9, x10, x11, x12, x13, x14, x15, x16]) st1 := by
      refine s_cons (x_set a3 rfl) (s_cons (x_setT (ds := [.lst .own ((rows ++ [L[a]]).map rowD), .lst .own ((L.take a ++ L.drop (a + 1)).map rowD)]) (e_tup (es_cons eA (es_cons eB es_nil))) ?_ rfl) s_nil)
      show (keepL ((rows ++ [L[a]]).map rowD) && (keepL ((L.take a ++ L.drop (a + 1)).map rowD) && true)) = true
      rw [keepL_rows, keepL_rows]; rfl
    have hdr : L = L.take a ++ L[a] :: L.drop (a + 1) := by rw [← List.drop_eq_getElem_cons ha, List.take_append_drop]
    have hp2 : ((rows ++ [L[a]]) ++ (L.take a ++ L.drop (a + 1))).Perm R := by
      refine List.Perm.trans ?_ hp
      rw [List.append_assoc]
      refine List.Perm.append_left _ ?_
      conv => rhs; rw [hdr]
      show (L[a] :: (L.take a ++ L.drop (a + 1))).Perm _
      exact List.perm_middle.symm
    obtain ⟨rows', z8', st', q1, q2, q3⟩ := wh_loop R hR f (L.take a ++ L.drop (a + 1)) (rows ++ [L[a]]) (some (.int (a : Int))) st1 (by rw [List.length_append, List.length_take, List.length_drop]; omega) hp2 a2
    exact ⟨rows', z8', st', q1, q2, while_t t body q3⟩
end
end K69
namespace K69
open PySem PL
open L2 (atI ixN)
section
variable {x0 x2 x3 x4 x5 x6 x7 x8 x9 x10 x11 x12 x13 x14 x15 x16 : Option D} {st : Store}
def brA : Sts := .cons (.set 6 (.ix (.tup (.cons (.int 3) (.cons (.int 5) .nil))) (.bi .int (.cons (.cmp .eq (.call 13 (.cons (.var 1) (.cons (.int 3) .nil))) (.int 0)) .nil))))
    (.cons (.setT [5, 7] (.tup (.cons (.lst .nil) (.cons (.bi .list (.cons (.call 11 (.cons (.var 6) .nil)) .nil)) .nil))))
    (.cons (.whl 100000 whC whB)
    (.cons (.set 9 (.comp (.call 13 (.cons (.var 1) (.cons (.int 2) .nil))) [14] false (.r1 (.var 6)) .nil [14]))
    (.frz 5 (.cons (.set 5 (.ite (.cmp .eq (.var 6) (.int 3)) (.comp (.bin .add (.ix (.var 5) (.var 14)) (.tup (.cons (.ix (.var 9) (.var 14)) .nil))) [14] false (.r1 (.var 6)) .nil [14]) (.var 5)))
    .nil)))))
theorem ring3_01 : ∀ r ∈ ringT 3, r.length = 3 ∧ ∀ x ∈ r, b01 x := by decide
theorem ring5_01 : ∀ r ∈ ringT 5, r.length = 5 ∧ ∀ x ∈ r, b01 x := by decide
theorem brA_ok (hd : Tp st) : ∃ (T : List (List Int)) (n w : Nat) (m : Md) (z6 z7 z8 z9 : Option D) (st' : Store), OkT T n w ∧ (m = .own ∨ m = .fro) ∧ Tp st' ∧
    execs cal brA [x0, some (.sref 0), x2, x3, x4, x5, x6, x7, x8, x9, x10, x11, x12, x13, x14, x15, x16] st = .ok (.nx [x0, some (.sref 0), x2, x3, x4, some (.lst m (T.map rowD)), z6, z7, z8, z9, x10, x11, x12, x13, x14, x15, x16]) st' := by
  obtain ⟨r, st1, r1, t1, h1⟩ := e_next (k := 10) (env := [x0, some (.sref 0), x2, x3, x4, x5, x6, x7, x8, x9, x10, x11, x12, x13, x14, x15, x16]) (A := .int 3) (L := 3) h13 rfl e_int (by decide) (by decide) hd
  obtain ⟨ds1, rfl⟩ := tp_one t1
  -- the size
  have hsz : ∃ s : Nat, (s = 3 ∨ s = 5) ∧ ev cal (.ix (.tup (.cons (.int 3) (.cons (.int 5) .nil))) (.bi .int (.cons (.cmp .eq (.call 13 (.cons (.var 1) (.cons (.int 3) .nil))) (.int 0)) .nil))) [x0, some (.sref 0), x2, x3, x4, x5, x6, x7, x8, x9, x10, x11, x12, x13, x14, x15, x16] st = .ok (.int (s : Int)) [ds1] := by
    have hc := e_cmp (o := .eq) h1 (e_int (n := 0)) (cmp_eqI (a := (r : Int)) (b := 0))
    by_cases h0 : (r : Int) = 0
    · rw [decide_eq_true h0] at hc
      exact ⟨5, .inr rfl, e_ix (st1 := st) (e_tup (es_cons e_int (es_cons e_int es_nil))) (e_bi (es_cons hc es_nil) int_bool) rfl⟩
    · rw [decide_eq_false h0] at hc
      exact ⟨3, .inl rfl, e_ix (st1 := st) (e_tup (es_cons e_int (es_cons e_int es_nil))) (e_bi (es_cons hc es_nil) int_bool) rfl⟩
  obtain ⟨s, hs, q1⟩ := hsz
  have rp := at_all (rp_all 10 ds1) (x := s) (by rcases hs with rfl | rfl <;> simp)
  have l1 : (ringT s).length = s := (shp_mat s s _).1
  have lo : biD .list [tabD (ringT s)] = some (.lst .own ((ringT s).map rowD)) := by show some (D.lst .own (bwL ((ringT s).map rowD))) = _; rw [bwL_rows]
  obtain ⟨rows, z8, st2, p1, t2, w1⟩ := wh_loop (x0 := x0) (x2 := x2) (x3 := x3) (x4 := x4) (x6 := some (.int (s : Int))) (x9 := x9) (x10 := x10) (x11 := x11) (x12 := x12) (x13 := x13) (x14 := x14) (x15 := x15) (x16 := x16) (ringT s) (by omega) 100000 (ringT s) [] x8 [ds1] (by omega) (by rw [List.nil_append]) t1
  have lr : rows.length = s := by rw [p1.length_eq, l1]
  have r01 : ∀ r ∈ rows, r.length = s ∧ ∀ x ∈ r, b01 x := fun r m => by
    have m2 := p1.mem_iff.mp m
    rcases hs with rfl | rfl
    · exact ring3_01 r m2
    · exact ring5_01 r m2
  obtain ⟨ex, st3, e1, e2, t3, h3⟩ := e_dcomp (call := cal) (st := st2) (v := 14) (B := .var 6) (b := s) (dec := D.int) (P := b01) (I := Tp) (env := [x0, some (.sref 0), x2, x3, x4, some (.lst .own (rows.map rowD)), some (.int (s : Int)), some (.lst .own []), z8, x9, x10, x11, x12, x13, x14, x15, x16])
    (body := .call 13 (.cons (.var 1) (.cons (.int 2) .nil))) (e_vI rfl) (by omega) (fun j st _ hst => e_bit rfl hst) t2
  have kx : keepL (ex.map D.int) = true := (pl_row ex).kp
  have pre : ∀ {m : Md} {T : List (List Int)}, ev cal (.ite (.cmp .eq (.var 6) (.int 3)) (.comp (.bin .add (.ix (.var 5) (.var 14)) (.tup (.cons (.ix (.var 9) (.var 14)) .nil))) [14] false (.r1 (.var 6)) .nil [14]) (.var 5)) [x0, some (.sref 0), x2, x3, x4, some (lstT rows), some (.int (s : Int)), some (.lst .own []), z8, some (.lst .own (ex.map D.int)), x10, x11, x12, x13, x14, x15, x16] st3 = .ok (.lst m (T.map rowD)) st3 → (D.lst m (T.map rowD)).keep = true →
      execs cal brA [x0, some (.sref 0), x2, x3, x4, x5, x6, x7, x8, x9, x10, x11, x12, x13, x14, x15, x16] st = .ok (.nx [x0, some (.sref 0), x2, x3, x4, some (.lst m (T.map rowD)), some (.int (s : Int)), some (.lst .own []), z8, some (.lst .own (ex.map D.int)), x10, x11, x12, x13, x14, x15, x16]) st3 := fun h hk => by
    refine s_cons (x_set q1 rfl) (s_cons (x_setT (st1 := [ds1]) (ds := [.lst .own [], .lst .own ((ringT s).map rowD)]) (e_tup (es_cons (e_lst es_nil) (es_cons (e_bi (es_cons (e_call (es_cons (e_vI rfl) es_nil) rp) es_nil) lo) es_nil))) (by show (true && (keepL _ && true)) = true; rw [keepL_rows]; rfl) rfl) (s_cons (show exec cal (.whl 100000 whC whB) _ _ = _ from w1) (s_cons (x_set h3 kx) (s_frz (d := .lst .own (rows.map rowD)) rfl ?_))))
    rw [frz_rows]
    exact s_cons (x_set h hk) s_nil
  rcases hs with rfl | rfl
  · -- three rows
    let T : List (List Int) := (List.range 3).map fun i => rows.getD i [] ++ [ex.getD i 0]
    have mr : ∀ i, i < 3 → rows[i]? = some (rows.getD i []) ∧ rows.getD i [] ∈ rows := fun i hi => by
      have h : rows[i]? = some rows[i] := List.getElem?_eq_getElem (by omega)
      rw [getD_of h]
      exact ⟨h, List.getElem_mem _⟩
    have me : ∀ i, i < 3 → ex[i]? = some (ex.getD i 0) ∧ ex.getD i 0 ∈ ex := fun i hi => by
      have h : ex[i]? = some ex[i] := List.getElem?_eq_getElem (by omega)
      rw [getD_of h]
      exact ⟨h, List.getElem_mem _⟩
    have O : OkT T 3 4 := by
      refine ⟨⟨by simp [T], fun r m => ?_⟩, fun r m x hx => ?_, by decide, by decide, by decide, by decide, .inl (by decide)⟩
      · obtain ⟨i, hi, rfl⟩ := List.mem_map.mp m
        have := (r01 _ (mr i (List.mem_range.mp hi)).2).1
        rw [List.length_append, this]; rfl
      · obtain ⟨i, hi, rfl⟩ := List.mem_map.mp m
        rcases List.mem_append.mp hx with h | h
        · exact (r01 _ (mr i (List.mem_range.mp hi)).2).2 x h
        · rw [List.mem_singleton.mp h]
          exact e2 _ (me i (List.mem_range.mp hi)).2
    refine ⟨T, 3, 4, .own, _, _, _, _, st3, O, .inl rfl, t3, pre (m := .own) (T := T) ?_ keepL_rows⟩
    refine e_iteT (e_tst (e_cmp (e_vI rfl) e_int cmp_eqI) rfl) ?_
    have hc := c_map (call := cal) (env := [x0, some (.sref 0), x2, x3, x4, some (lstT rows), some (.int ((3 : Nat) : Int)), some (.lst .own []), z8, some (.lst .own (ex.map D.int)), x10, x11, x12, x13, x14, x15, x16]) (st := st3) (it := .r1 (.var 6)) (xs := List.range 3) (enc := rgE) (v := 14) (vs := [14]) (body := .bin .add (.ix (.var 5) (.var 14)) (.tup (.cons (.ix (.var 9) (.var 14)) .nil))) (g := fun i => rowD (rows.getD i [] ++ [ex.getD i 0])) (i_rn (e_vI rfl) (by decide)) (by decide) fun i hi => by
      have hi := List.mem_range.mp hi
      refine e_bin (x := rowD (rows.getD i [])) (y := .tup [.int (ex.getD i 0)]) (st1 := st3) (e_ix (x := lstT rows) (e_vP (pl_lstT rows) rfl) (e_vJ rfl) (ix_lst (at_nat (by rw [List.getElem?_map, (mr i hi).1]; rfl)))) (e_tup (es_cons (e_ix (x := .lst .bor (ex.map D.int)) (e_var rfl (by show D.lst .bor (bwL _) = _; rw [bwL_ints])) (e_vJ rfl) (ix_lst (at_nat (by rw [List.getElem?_map, (me i hi).1]; rfl)))) es_nil)) ?_
      have hr := (r01 _ (mr i hi).2).1
      show (if _ then some (D.tup ((rows.getD i []).map D.int ++ [D.int (ex.getD i 0)])) else none) = _
      rw [if_pos (by rw [List.length_map, hr]; show 3 + 1 ≤ 1000000; decide)]
      show some (D.tup ((rows.getD i []).map D.int ++ [D.int (ex.getD i 0)])) = some (D.tup ((rows.getD i [] ++ [ex.getD i 0]).map D.int))
      rw [List.map_append]; rfl
    rw [hc]
    show Res.ok (D.lst .own _) st3 = Res.ok (D.lst .own (T.map rowD)) st3
    rw [List.map_map]; rfl
  · have O : OkT rows 5 5 := by
      refine ⟨⟨lr, fun r m => (r01 r m).1⟩, fun r m x hx => (r01 r m).2 x hx, by decide, by decide, by decide, by decide, .inr ⟨rfl, mem_prms (by rw [← ring5_is]; exact p1)⟩⟩
    refine ⟨rows, 5, 5, .fro, _, _, _, _, st3, O, .inr rfl, t3, pre (m := .fro) (T := rows) ?_ rfl⟩
    exact e_iteF (e_tst (e_cmp (e_vI rfl) e_int cmp_eqI) rfl) (e_vF rfl)
end
end K69
namespace K69
open PySem PL
open L2 (atI ixN)
section
variable {x0 x2 x3 x4 x5 x6 x7 x8 x9 x10 x11 x12 x13 x14 x15 x16 : Option D} {st : Store}
def prD (p : Nat × Nat) : D := .tup [.int (p.1 : Int), .int (p.2 : Int)]
theorem pl_prD (p : Nat × Nat) : Pl (prD p) := ⟨rfl, rfl⟩
def brB : Sts := .cons (.set 5 (.bi .list (.cons (.call 12 (.cons (.comp (.ite (.cmp .eq (.call 13 (.cons (.var 1) (.cons (.int 2) .nil))) (.int 0)) (.tup (.cons (.int 0) (.cons (.call 13 (.cons (.var 1) (.cons (.var 4) .nil))) .nil))) (.tup (.cons (.call 13 (.cons (.var 1) (.cons (.var 4) .nil))) (.cons (.bin .sub (.var 4) (.int 1)) .nil)))) [14] false (.r1 (.var 3)) .nil [14]) (.cons (.var 4) .nil))) .nil)))
    .nil
/-- span_table -/
theorem span_ok {k w : Nat} {ds : List D} {L : List (Nat × Nat)} (hL : L.length ≤ 1000) (hw : w ≤ 1000) : callK fns (k + 1) 12 [.lst .own (L.map prD), .int (w : Int)] [ds] = .ok (tabD (L.map fun p => ivr w p.1 p.2)) [ds] := by
  have pls : ∀ d ∈ L.map prD, Pl d := fun d m => by
    obtain ⟨p, _, rfl⟩ := List.mem_map.mp m
    exact pl_prD p
  rw [callK_frz (by show (keepL (L.map prD) && (true && true)) = true; rw [keepL_of pls]; rfl)]
  show callK fns (k + 1) 12 [.lst .fro (frzL (L.map prD)), .int (w : Int)] [ds] = _
  rw [frzL_id (noOwnL_of pls) (keepL_of pls)]
  refine c_run (k := k) (F := f12) rfl (run_pl (pl2 (pl_fro _) (pl_int _)) rfl (s_rt (x_ret (x := tabD (L.map fun p => ivr w p.1 p.2)) ?_ (pl_tab _).kp)) rfl)
  refine e_bi (es_cons (x := .lst .own ((L.map fun p => ivr w p.1 p.2).map rowD)) ?_ es_nil) (tup_rows _)
  rw [List.map_map]
  refine e_comp (st1 := [ds]) (xs := L.map prD) (i_seq (x := .lst .fro (L.map prD)) (e_vF rfl) (by show some (bwL _) = _; rw [bwL_id (noOwnL_of pls) (keepL_of pls)])) (comp_map fun p hp => ?_) (by rw [List.length_map]; show _ ≤ 1000000; omega)
  refine turn_t (env' := [some (.lst .fro (L.map prD)), some (.int (w : Int)), some (.int (p.1 : Int)), some (.int (p.2 : Int)), none]) (st1 := [ds]) rfl ifs_nil ?_
  refine t_row (g := fun k => if p.1 ≤ k ∧ k ≤ p.2 then (1 : Int) else 0) (xs := List.range w) (enc := rgE) (i_rn (e_vI rfl) (by omega)) (by show _ ≤ 1000000; rw [List.length_range]; omega) fun j hj => ?_
  by_cases h1 : p.1 ≤ j
  · have e1 : cmpD .le (.int (p.1 : Int)) (.int (j : Int)) = some true := by rw [cmp_leI, decide_eq_true (by omega)]
    by_cases h2 : j ≤ p.2
    · have e2 : cmpD .le (.int (j : Int)) (.int (p.2 : Int)) = some true := by rw [cmp_leI, decide_eq_true (by omega)]
      rw [if_pos ⟨h1, h2⟩]
      exact e_bi (es_cons (e_chain (k := true) (k' := true) (e_vI rfl) (e_vJ rfl) e1 (fun _ => ⟨e_vI rfl, e2⟩) (fun h => by cases h)) es_nil) int_bool
    · have e2 : cmpD .le (.int (j : Int)) (.int (p.2 : Int)) = some false := by rw [cmp_leI, decide_eq_false (by omega)]
      rw [if_neg (fun h => h2 h.2)]
      exact e_bi (es_cons (e_chain (k := true) (k' := false) (e_vI rfl) (e_vJ rfl) e1 (fun _ => ⟨e_vI rfl, e2⟩) (fun h => by cases h)) es_nil) int_bool
  · have e1 : cmpD .le (.int (p.1 : Int)) (.int (j : Int)) = some false := by rw [cmp_leI, decide_eq_false (by omega)]
    rw [if_neg (fun h => h1 h.1)]
    exact e_bi (es_cons (e_chain (z := .non) (k := false) (k' := false) (st2 := [ds]) (e_vI rfl) (e_vJ rfl) e1 (fun h => by cases h) (fun _ => ⟨rfl, rfl⟩)) es_nil) int_bool
theorem ivr01 (w a b : Nat) : ∀ x ∈ ivr w a b, b01 x := fun x m => by
  obtain ⟨k, _, rfl⟩ := List.mem_map.mp m
  unfold b01
  split <;> simp
theorem brB_ok {a w : Nat} (ha0 : 0 < a) (ha : a ≤ 5) (hw0 : 0 < w) (hw : w ≤ 4) (h3 : x3 = some (.int (a : Int))) (h4 : x4 = some (.int (w : Int))) (hd : Tp st) : ∃ (T : List (List Int)) (st' : Store), OkT T a w ∧ (∀ r ∈ T, r ∈ ivw w) ∧ Tp st' ∧
    execs cal brB [x0, some (.sref 0), x2, x3, x4, x5, x6, x7, x8, x9, x10, x11, x12, x13, x14, x15, x16] st = .ok (.nx [x0, some (.sref 0), x2, x3, x4, some (.lst .own (T.map rowD)), x6, x7, x8, x9, x10, x11, x12, x13, x14, x15, x16]) st' := by
  subst h3 h4
  obtain ⟨L, st1, l1, l2, t1, q1⟩ := e_dcomp (call := cal) (st := st) (v := 14) (B := .var 3) (b := a) (dec := prD) (P := fun p => (p.1 = 0 ∧ p.2 < w) ∨ (p.1 < w ∧ p.2 = w - 1)) (I := Tp) (env := [x0, some (.sref 0), x2, some (.int (a : Int)), some (.int (w : Int)), x5, x6, x7, x8, x9, x10, x11, x12, x13, x14, x15, x16])
    (body := .ite (.cmp .eq (.call 13 (.cons (.var 1) (.cons (.int 2) .nil))) (.int 0)) (.tup (.cons (.int 0) (.cons (.call 13 (.cons (.var 1) (.cons (.var 4) .nil))) .nil))) (.tup (.cons (.call 13 (.cons (.var 1) (.cons (.var 4) .nil))) (.cons (.bin .sub (.var 4) (.int 1)) .nil)))) (e_vI rfl) (by omega) (fun i st _ hst => by
      obtain ⟨x, st1, b1, t1, h1⟩ := e_bit (env := ((unset [x0, some (.sref 0), x2, some (.int (a : Int)), some (.int (w : Int)), x5, x6, x7, x8, x9, x10, x11, x12, x13, x14, x15, x16] [14]).set 14 (some (rgE i)))) rfl hst
      obtain ⟨y, st2, y1, t2, h2⟩ := e_next (k := 10) (env := ((unset [x0, some (.sref 0), x2, some (.int (a : Int)), some (.int (w : Int)), x5, x6, x7, x8, x9, x10, x11, x12, x13, x14, x15, x16] [14]).set 14 (some (rgE i)))) (A := .var 4) (L := (w : Int)) h13 rfl (e_vI rfl) (by omega) (by omega) t1
      have hc := e_cmp (o := .eq) h1 (e_int (n := 0)) (cmp_eqI (a := x) (b := 0))
      by_cases hx : x = 0
      · rw [decide_eq_true hx] at hc
        exact ⟨(0, y), st2, .inl ⟨rfl, by show y < w; omega⟩, t2, e_iteT (e_tst hc rfl) (e_tup (es_cons (e_int (n := 0)) (es_cons h2 es_nil)))⟩
      · rw [decide_eq_false hx] at hc
        refine ⟨(y, w - 1), st2, .inr ⟨by show y < w; omega, rfl⟩, t2, e_iteF (e_tst hc rfl) (e_tup (es_cons h2 (es_cons (x := .int ((w - 1 : Nat) : Int)) (e_bin (e_vI rfl) e_int ?_) es_nil)))⟩
        rw [bin_sub, show ((w : Int) - 1) = ((w - 1 : Nat) : Int) by omega]) hd
  obtain ⟨ds1, rfl⟩ := tp_one t1
  have kL : keepL (L.map prD) = true := keepL_of fun d m => by
    obtain ⟨p, _, rfl⟩ := List.mem_map.mp m
    exact pl_prD p
  refine ⟨L.map fun p => ivr w p.1 p.2, [ds1], ⟨⟨by rw [List.length_map, l1], fun r m => ?_⟩, fun r m => ?_, ha0, hw0, ha, by omega, .inl hw⟩, fun r m => ?_, t1, ?_⟩
  · obtain ⟨p, _, rfl⟩ := List.mem_map.mp m
    unfold ivr
    rw [List.length_map, List.length_range]
  · obtain ⟨p, _, rfl⟩ := List.mem_map.mp m
    exact ivr01 _ _ _
  · obtain ⟨p, hp, rfl⟩ := List.mem_map.mp m
    rcases l2 p hp with ⟨e1, e2⟩ | ⟨e1, e2⟩
    · rw [e1]
      exact List.mem_append_left _ (List.mem_map.mpr ⟨p.2, List.mem_range.mpr e2, rfl⟩)
    · rw [e2]
      exact List.mem_append_right _ (List.mem_map.mpr ⟨p.1, List.mem_range.mpr e1, rfl⟩)
  · refine s_cons (x_set (x := .lst .own ((L.map fun p => ivr w p.1 p.2).map rowD)) (e_bi (es_cons (e_call (es_cons q1 (es_cons (e_vI rfl) es_nil)) (span_ok (k := 10) (by omega) (by omega))) es_nil) ?_) keepL_rows) s_nil
    show some (D.lst .own (bwL ((L.map fun p => ivr w p.1 p.2).map rowD))) = _
    rw [bwL_rows]
end
theorem trg_brT {t : E} {a ss : Sts} {env env' : PL.Env} {st st1 : Store} (h : ev cal t env st = .ok (.bl true) st) (ha : execs cal a env st = .ok (.nx env') st1) (r : Trg cal ss env' st1) : Trg cal (.cons (.ite t a .nil) ss) env st := by
  obtain ⟨s, q⟩ := r; exact ⟨s, s_cons (x_iteT (e_tst h rfl) ha) q⟩
theorem set_is (a : Nat) : ((1 : Int) + (a : Int)) = ((a + 1 : Nat) : Int) := by omega
theorem law_ok (ns : List Int) (hl : ns.length ≤ 63) : ∃ st', PL.callK (fs.map PL.FT.F) 12 18 [.lst .scr (ns.map PL.D.int)] [] = .ok (.bl true) st' := by
  have main : Trg cal f18.body (startE f18 [.lst .scr (ns.map D.int)]) [] := by
    refine trg_set (st1 := []) (x := .lst .own [.lst .own (ns.map D.int), .int 0, .int 0, .int 69]) ?_ (by show (keepL (ns.map D.int) && _) = true; rw [(show keepL (ns.map D.int) = true from (pl_row ns).kp)]; rfl) ?_
    · refine e_lst (es_cons (x := .lst .own (ns.map D.int)) ?_ (es_cons e_int (es_cons e_int (es_cons e_int es_nil))))
      exact e_bi (es_cons (e_vS rfl) es_nil) (by show some (D.lst .own (bwL (ns.map D.int))) = _; rw [bwL_ints])
    refine trg_share (ds := [.lst .own (ns.map D.int), .int 0, .int 0, .int 69]) rfl ?_
    have fz : frzL [D.lst .own (ns.map D.int), .int 0, .int 0, .int 69] = tdst ns 0 0 69 := by
      show [D.lst .fro (frzL (ns.map D.int)), .int 0, .int 0, .int 69] = _
      rw [frzL_id (pl_row ns).no (pl_row ns).kp]; rfl
    rw [fz]
    have d0 : Tp ([] ++ [tdst ns 0 0 69]) := ⟨_, rfl, ns, 0, 0, 69, rfl, Nat.zero_le _, by omega, by omega, by omega⟩
    generalize ([] ++ [tdst ns 0 0 69] : Store) = st0 at d0 ⊢
    show Trg cal _ [some (D.lst .scr (ns.map D.int)), some (.sref 0), none, none, none, none, none, none, none, none, none, none, none, none, none, none, none] st0
    obtain ⟨kd, st1, k1, d1, q1⟩ := e_next (k := 10) (env := [some (D.lst .scr (ns.map D.int)), some (.sref 0), none, none, none, none, none, none, none, none, none, none, none, none, none, none, none]) (A := .int 4) (L := 4) h13 rfl e_int (by decide) (by decide) d0
    refine trg_set q1 rfl ?_
    show Trg cal _ [some (D.lst .scr (ns.map D.int)), some (.sref 0), some (.int (kd : Int)), none, none, none, none, none, none, none, none, none, none, none, none, none, none] st1
    obtain ⟨a, st2, a1, d2, q2⟩ := e_next (k := 10) (env := [some (D.lst .scr (ns.map D.int)), some (.sref 0), some (.int (kd : Int)), none, none, none, none, none, none, none, none, none, none, none, none, none, none]) (A := .int 5) (L := 5) h13 rfl e_int (by decide) (by decide) d1
    obtain ⟨b, st3, b1, d3, q3⟩ := e_next (k := 10) (env := [some (D.lst .scr (ns.map D.int)), some (.sref 0), some (.int (kd : Int)), none, none, none, none, none, none, none, none, none, none, none, none, none, none]) (A := .int 4) (L := 4) h13 rfl e_int (by decide) (by decide) d2
    refine trg_setT (ds := [.int ((a + 1 : Nat) : Int), .int ((b + 1 : Nat) : Int)]) (st1 := st3) (e_tup (es_cons (st1 := st2) (e_bin e_int q2 (by rw [bin_add, set_is])) (es_cons (e_bin e_int q3 (by rw [bin_add, set_is])) es_nil))) rfl rfl ?_
    show Trg cal _ [some (D.lst .scr (ns.map D.int)), some (.sref 0), some (.int (kd : Int)), some (.int ((a + 1 : Nat) : Int)), some (.int ((b + 1 : Nat) : Int)), none, none, none, none, none, none, none, none, none, none, none, none] st3
    have ha : a + 1 ≤ 5 := by omega
    have hb : b + 1 ≤ 4 := by omega
    obtain ⟨t, st4, t1, t2, d4, q4⟩ := e_bits (x0 := some (D.lst .scr (ns.map D.int))) (x2 := some (.int (kd : Int))) (x3 := some (.int ((a + 1 : Nat) : Int))) (x4 := some (.int ((b + 1 : Nat) : Int))) (x5 := none) (x6 := none) (x7 := none) (x8 := none) (x9 := none) (x10 := none) (x11 := none) (x12 := none) (x13 := none) (x14 := none) (x15 := none) (x16 := none) (a := a + 1) (b := b + 1) rfl rfl (by omega) (by omega) d3
    refine trg_set q4 keepL_rows ?_
    show Trg cal _ [some (D.lst .scr (ns.map D.int)), some (.sref 0), some (.int (kd : Int)), some (.int ((a + 1 : Nat) : Int)), some (.int ((b + 1 : Nat) : Int)), some (.lst .own (t.map rowD)), none, none, none, none, none, none, none, none, none, none, none] st4
    have Ot : OkT t (a + 1) (b + 1) := ⟨t1, t2, by omega, by omega, ha, by omega, .inl hb⟩
    have tst : ∀ (c : Int) (env : PL.Env) (st : Store), env[2]? = some (some (.int (kd : Int))) → ev cal (.cmp .eq (.var 2) (.int c)) env st = .ok (.bl (decide ((kd : Int) = c))) st := fun c env st h => e_cmp (e_vI h) e_int cmp_eqI
    by_cases h0 : (kd : Int) = 0
    · obtain ⟨T, n, w, m, z6, z7, z8, z9, st5, O, hm, d5, q5⟩ := brA_ok (x0 := some (D.lst .scr (ns.map D.int))) (x2 := some (.int (kd : Int))) (x3 := some (.int ((a + 1 : Nat) : Int))) (x4 := some (.int ((b + 1 : Nat) : Int))) (x5 := some (.lst .own (t.map rowD))) (x6 := none) (x7 := none) (x8 := none) (x9 := none) (x10 := none) (x11 := none) (x12 := none) (x13 := none) (x14 := none) (x15 := none) (x16 := none) d4
      refine trg_brT (by rw [tst 0 _ _ rfl, decide_eq_true h0]) q5 (trg_if (by rw [tst 1 _ _ rfl, decide_eq_false (by omega)]) ?_)
      obtain ⟨ds, rfl⟩ := tp_one d5
      exact rest_ok O hm (fun h => by omega)
    · refine trg_if (by rw [tst 0 _ _ rfl, decide_eq_false h0]) ?_
      by_cases h1 : (kd : Int) = 1
      · obtain ⟨T, st5, O, hT, d5, q5⟩ := brB_ok (x0 := some (D.lst .scr (ns.map D.int))) (x2 := some (.int (kd : Int))) (x3 := some (.int ((a + 1 : Nat) : Int))) (x4 := some (.int ((b + 1 : Nat) : Int))) (x5 := some (.lst .own (t.map rowD))) (x6 := none) (x7 := none) (x8 := none) (x9 := none) (x10 := none) (x11 := none) (x12 := none) (x13 := none) (x14 := none) (x15 := none) (x16 := none) (a := a + 1) (w := b + 1) (by omega) ha (by omega) hb rfl rfl d4
        refine trg_brT (by rw [tst 1 _ _ rfl, decide_eq_true h1]) q5 ?_
        obtain ⟨ds, rfl⟩ := tp_one d5
        exact rest_ok O (.inl rfl) (fun _ => ⟨hb, hT⟩)
      · refine trg_if (by rw [tst 1 _ _ rfl, decide_eq_false h1]) ?_
        obtain ⟨ds, rfl⟩ := tp_one d4
        exact rest_ok Ot (.inl rfl) (fun h => absurd h h1)
  obtain ⟨st1, q⟩ := main
  rw [fs_fns]
  obtain ⟨st', q'⟩ := run_law (call := cal) (F := f18) (ds := [.lst .scr (ns.map D.int)]) (k := true) rfl rfl q
  exact ⟨st', c_run (k := 11) rfl q'⟩
end K69
open PySem PySem.W PyProof.Rows
set_option maxRecDepth 100000 in
set_option maxHeartbeats 0 in
theorem PySem.Challenge.cw_posigrid_k69_whole_odd_holes_holds : PySem.Challenge.rw_posigrid_k69_whole_odd_holes.Holds := by
  w_on; o_law; k_head; (case hw => w_witness2)
  k_fill
  refine L2.walk_of (l := PySem.Challenge.rw_posigrid_k69_whole_odd_holes) (n := 63) (k := 12) (x := "script") (CX := fun w => L2.CX PySem.Challenge.pw_posigrid_k69_whole_odd_holes w) (sp := fun w => PL.spLaw _) rfl (by decide) rfl ⟨rfl, by decide, by decide⟩ (fun w h Y => PySem.W.kIn_of Y) ?F (fun w H a ns hl on sq => PL.law_sp 63 (by decide) w H a ns hl on sq) (fun w => PL.cx_none _ w)
  case F =>
    intro w mg fa h KX G hmg
    refine' PL.law_mk K69.fs_ok (t := K69.t18) rfl rfl rfl rfl (fun _ _ _ _ _ _ _ _ => .of_eq rfl) K69.law_ok KX G hmg ?facts ?z ?cmb
    case cmb => (intro _; k_is)
    case z =>
      refine' PL.blt_mk ?a0 ?a1 ?a2 ?a3 ?a4 ?a5 ?a6 ?a7 ?a8 ?a9 ?b0 ?b1 ?b2 ?b3 ?b4 ?b5
      all_goals k_is
    case facts =>
      refine' PL.all_cons ?f0 (PL.all_cons ?f1 (PL.all_cons ?f2 (PL.all_cons ?f3 (PL.all_cons ?f4 (PL.all_cons ?f5 (PL.all_cons ?f6 (PL.all_cons ?f7 (PL.all_cons ?f8 (PL.all_cons ?f9 (PL.all_cons ?f10 (PL.all_cons ?f11 (PL.all_cons ?f12 (PL.all_cons ?f13 (PL.all_cons ?f14 (PL.all_cons ?f15 (PL.all_cons ?f16 (PL.all_cons ?f17 (PL.all_cons ?f18 (PL.all_nil)))))))))))))))))))
      case f0 => (refine' PL.ff_mk (fun _ _ _ _ _ _ us hl => match us, hl with | [_], _ => rfl) ?a ?l ?c ?k; (case a => k_is); (case l => k_is); (case c => k_is); (case k => k_is))
      case f1 => (refine' PL.ff_mk (fun _ _ _ _ _ _ us hl => match us, hl with | [_, _, _], _ => rfl) ?a ?l ?c ?k; (case a => k_is); (case l => k_is); (case c => k_is); (case k => k_is))
      case f2 => (refine' PL.ff_mk (fun _ _ _ _ _ _ us hl => match us, hl with | [_], _ => rfl) ?a ?l ?c ?k; (case a => k_is); (case l => k_is); (case c => k_is); (case k => k_is))
      case f3 => (refine' PL.ff_mk (fun _ _ _ _ _ _ us hl => match us, hl with | [_, _, _], _ => rfl) ?a ?l ?c ?k; (case a => k_is); (case l => k_is); (case c => k_is); (case k => k_is))
      case f4 => (refine' PL.ff_mk (fun _ _ _ _ _ _ us hl => match us, hl with | [_, _], _ => rfl) ?a ?l ?c ?k; (case a => k_is); (case l => k_is); (case c => k_is); (case k => k_is))
      case f5 => (refine' PL.ff_mk (fun _ _ _ _ _ _ us hl => match us, hl with | [_], _ => rfl) ?a ?l ?c ?k; (case a => k_is); (case l => k_is); (case c => k_is); (case k => k_is))
      case f6 => (refine' PL.ff_mk (fun _ _ _ _ _ _ us hl => match us, hl with | [_], _ => rfl) ?a ?l ?c ?k; (case a => k_is); (case l => k_is); (case c => k_is); (case k => k_is))
      case f7 => (refine' PL.ff_mk (fun _ _ _ _ _ _ us hl => match us, hl with | [_], _ => rfl) ?a ?l ?c ?k; (case a => k_is); (case l => k_is); (case c => k_is); (case k => k_is))
      case f8 => (refine' PL.ff_mk (fun _ _ _ _ _ _ us hl => match us, hl with | [_], _ => rfl) ?a ?l ?c ?k; (case a => k_is); (case l => k_is); (case c => k_is); (case k => k_is))
      case f9 => (refine' PL.ff_mk (fun _ _ _ _ _ _ us hl => match us, hl with | [_], _ => rfl) ?a ?l ?c ?k; (case a => k_is); (case l => k_is); (case c => k_is); (case k => k_is))
      case f10 => (refine' PL.ff_mk (fun _ _ _ _ _ _ us hl => match us, hl with | [_], _ => rfl) ?a ?l ?c ?k; (case a => k_is); (case l => k_is); (case c => k_is); (case k => k_is))
      case f11 => (refine' PL.ff_mk (fun _ _ _ _ _ _ us hl => match us, hl with | [_], _ => rfl) ?a ?l ?c ?k; (case a => k_is); (case l => k_is); (case c => k_is); (case k => k_is))
      case f12 => (refine' PL.ff_mk (fun _ _ _ _ _ _ us hl => match us, hl with | [_, _], _ => rfl) ?a ?l ?c ?k; (case a => k_is); (case l => k_is); (case c => k_is); (case k => k_is))
      case f13 => (refine' PL.ff_mk (fun _ _ _ _ _ _ us hl => match us, hl with | [_, _], _ => rfl) ?a ?l ?c ?k; (case a => k_is); (case l => k_is); (case c => k_is); (case k => k_is))
      case f14 => (refine' PL.ff_mk (fun _ _ _ _ _ _ us hl => match us, hl with | [_, _], _ => rfl) ?a ?l ?c ?k; (case a => k_is); (case l => k_is); (case c => k_is); (case k => k_is))
      case f15 => (refine' PL.ff_mk (fun _ _ _ _ _ _ us hl => match us, hl with | [_, _], _ => rfl) ?a ?l ?c ?k; (case a => k_is); (case l => k_is); (case c => k_is); (case k => k_is))
      case f16 => (refine' PL.ff_mk (fun _ _ _ _ _ _ us hl => match us, hl with | [_], _ => rfl) ?a ?l ?c ?k; (case a => k_is); (case l => k_is); (case c => k_is); (case k => k_is))
      case f17 => (refine' PL.ff_mk (fun _ _ _ _ _ _ us hl => match us, hl with | [_], _ => rfl) ?a ?l ?c ?k; (case a => k_is); (case l => k_is); (case c => k_is); (case k => k_is))
      case f18 => (refine' PL.ff_mk (fun _ _ _ _ _ _ us hl => match us, hl with | [_], _ => rfl) ?a ?l ?c ?k; (case a => k_is); (case l => k_is); (case c => k_is); (case k => k_is))

