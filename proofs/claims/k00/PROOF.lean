import PyProof.Rows.All
import Wide.All
import OpenK.AllK
import Wide.FinOn
import HandS.ForMost
import HandS.ForExc
import HandS.TupAny
import KE.DataEq
import KE.DataFind
import HandS.Wide
import HandS.Deep
import HandS.Property
import HandS.CallSlots
import HandS.TryMany
import HandS.Zip
import HandS.Small
import HandS.IsInst
import KE.KTupSum
import HandS.HeadWalk
import HandS.CallRecv
import HandS.NoneIn
import HandS.ClsMeth
import HandS.More
import HandS.HeadHook1
import HandS.HeadHook2
import HandS.Head0
import HandS.Head1
import HandS.Head2
import HandS.HeadEnd
import KE.KStateDown
import PySem.Challenge.RW_outagain_k00_depot_numbers
set_option Elab.async false
set_option linter.all false
set_option maxRecDepth 100000
namespace Vm
open PySem PySem.Spec L2
open PyProof.Rows hiding St
section
variable {X : Cx} {es : List Expr} {t : TA} {pos : Pos}
/-- a new tuple: its object has no dict -/
def NewT (xs : List V) (H : Hp) (Q : VK) : Prop := ∀ p (o : Obj), H p = none → o.dict = none → Q (.ref p) (upd H p (.frz o (.tup xs)))
def tTupF (t : TA) : TE := fun σ H Q => t σ H fun xs H1 => xs.length ≤ sizeLine ∧ NewT xs H1 Q
theorem pe_tupF {x1} (h : PA X es t) : PE X (.Tuple es x1 pos) (tTupF t) := by
  refine ⟨fun pins s σ H Q I hq => ?_⟩
  refine wpAny_Tuple_spliced (thn (h.run pos pins s σ H _ I hq) fun us s1 ⟨xs, H1, I1, r, z, q⟩ => ⟨by rw [← r.length]; exact z, ?_⟩)
  have hf : H1 s1.heap.objs.size = none := I1.hok.fresh (Nat.le_refl _)
  refine ⟨.ref s1.heap.objs.size, upd H1 s1.heap.objs.size (.frz { cls := .type "tuple", data := .seq us.toArray } (.tup xs)), I1.laid (t' := s1.toks) (fun b u e => Heap.get?_push_of_some _ e) (Nat.le_refl _) ?_, rfl, q _ _ hf rfl⟩
  exact ⟨Heap.get?_push_size _ rfl, z, us, r, IsTup.new _ _⟩
theorem call_tuple_F : CallR X (.type "tuple") (fun xs H Q => ∃ p ys, xs = [.ref p] ∧ ((SqL X.K H p ys ∧ NewT ys H Q) ∨ (SqT X.K H p ys ∧ Q (.ref p) H))) := by
  intro pins s σ H xs us Q I r h
  obtain ⟨p, ys, rfl, h⟩ := h
  obtain ⟨u, rfl, rx⟩ := vals1 r
  cases rx
  rcases h with ⟨hq, q⟩ | ⟨hq, q⟩
  · obtain ⟨its, r', pl, hz⟩ := I.list hq
    have hlen := r'.length
    refine call_tuple_list pl.isList (fun h' kp => ?_) (by simp only [List.size_toArray] <;> omega)
    have I1 : Inv X pins σ H { s with heap := h' } := I.kept (t' := s.toks) kp
    have I2 : Inv X pins σ (upd H h'.objs.size (.frz { cls := .type "tuple", data := .seq its.toArray } (.tup ys))) { s with heap := h'.push { cls := .type "tuple", data := .seq its.toArray } } :=
      I1.laid (t' := s.toks) (fun b o e => Heap.get?_push_of_some _ e) (Nat.le_refl _) (show ObjOk X.prog X.w _ _ _ (.frz _ (.tup ys)) from ⟨Heap.get?_push_size _ rfl, hz, its, r', IsTup.new _ _⟩)
    exact ⟨.ref h'.objs.size, _, I2, rfl, q _ _ (I1.hok.fresh (Nat.le_refl _)) rfl⟩
  · obtain ⟨its, r', pl, hz⟩ := I.tuple hq
    exact call_tuple_same pl ⟨.ref p, H, I, rfl, q⟩
def rCatF (K : PySem.W.Frag) : R2 := fun x y H Q => ∃ a b xs ys, x = .ref a ∧ y = .ref b ∧ SqT K H a xs ∧ SqT K H b ys ∧ xs.length + ys.length ≤ sizeLine ∧
  (xs = [] → Q (.ref b) H) ∧ (xs ≠ [] → ys = [] → Q (.ref a) H) ∧ (xs ≠ [] → ys ≠ [] → NewT (xs ++ ys) H Q)
theorem op_catF : OpR X (binaryOp .Add) (rCatF X.K) := by
  intro pins s σ H x y v u Q I rx ry h
  obtain ⟨a, b, xs, ys, rfl, rfl, ha, hb, hz, q0, q1, q2⟩ := h
  cases rx
  cases ry
  obtain ⟨its, r1, p1, _⟩ := I.tuple ha
  obtain ⟨its2, r2, p2, _⟩ := I.tuple hb
  by_cases hx : xs = []
  · subst hx
    cases r1
    exact cat_tup0 p1 p2 ⟨.ref b, H, I, rfl, q0 rfl⟩
  · refine HT.cat_tup p1 p2 (fun z => hx (r1.nil_iff.mp z)) (fun z => ⟨.ref a, H, I, rfl, q1 hx (r2.nil_iff.mp z)⟩) (fun z => ?_) (by rw [← r1.length, ← r2.length]; exact hz)
    refine ⟨.ref s.heap.objs.size, _, I.laid (t' := s.toks) (o := .frz { cls := .type "tuple", data := .seq (its ++ its2).toArray } (.tup (xs ++ ys))) (fun b ob q => Heap.get?_push_of_some _ q) (Nat.le_refl _) ?_, rfl, q2 hx (fun w => z (r2.nil_iff.mpr w)) _ _ (I.hok.fresh (Nat.le_refl _)) rfl⟩
    exact ⟨Heap.get?_push_size _ rfl, by rw [List.length_append]; exact hz, _, r1.append r2, IsTup.new _ _⟩
def rSlF (K : PySem.W.Frag) : V → Option Int → Option Int → Hp → VK → Prop := fun x lo hi H Q => ∃ a xs, x = .ref a ∧ SqT K H a xs ∧
  (HT.sIx xs.length 0 lo = 0 ∧ HT.sIx xs.length xs.length hi = xs.length → Q (.ref a) H) ∧ (¬ (HT.sIx xs.length 0 lo = 0 ∧ HT.sIx xs.length xs.length hi = xs.length) → NewT (cutV xs lo hi) H Q)
theorem sl_tupF : SlR X (rSlF X.K) := by
  intro pins s σ H x v vl vu lo hi sl Q I rx hs pl pu h
  obtain ⟨a, xs, rfl, hx, q1, q2⟩ := h
  cases rx
  obtain ⟨its, r, ht, hz⟩ := I.tuple hx
  have hlen : its.toArray.size = xs.length := by rw [List.size_toArray]; exact r.length.symm
  refine ⟨"tuple", _, PyProof.Rows.slot_tuple_getitem.lookup, ht.typeIs, ?_⟩
  by_cases hw : HT.sIx xs.length 0 lo = 0 ∧ HT.sIx xs.length xs.length hi = xs.length
  · exact getItem_tuple_whole ht hs pl pu (by rw [hlen]; exact hw) ⟨.ref a, H, I, rfl, q1 hw⟩
  · refine HT.getItem_tuple_cut ht hs pl pu (by rw [hlen]; exact hw) ?_ (by rw [hlen]; exact hz)
    rw [hlen]
    refine ⟨.ref s.heap.objs.size, _, I.laid (t' := s.toks) (o := .frz { cls := .type "tuple", data := .seq ((its.drop (HT.sIx xs.length 0 lo)).take (HT.sIx xs.length xs.length hi - HT.sIx xs.length 0 lo)).toArray } (.tup (cutV xs lo hi))) (fun b ob q => Heap.get?_push_of_some _ q) (Nat.le_refl _) ?_, rfl, q2 hw _ _ (I.hok.fresh (Nat.le_refl _)) rfl⟩
    exact ⟨Heap.get?_push_size _ rfl, Nat.le_trans (cutV_length xs lo hi) hz, _, (r.drop (HT.sIx xs.length 0 lo)).take (HT.sIx xs.length xs.length hi - HT.sIx xs.length 0 lo), IsTup.new _ _⟩
def TupF (K : PySem.W.Frag) (F : Hp) (a : Addr) (vs : List V) : Prop :=
  (∃ o : Obj, F a = some (.frz o (.tup vs)) ∧ o.dict = none) ∨
    ∃ (o : Obj) (its : Array Value) (n : Nat), K.lookup a = some o ∧ o.cls = .type "tuple" ∧ o.dict = none ∧ o.data = .seq its n ∧ its.size ≤ sizeLine ∧ Vals vs its.toList
theorem TupF.sq {K : PySem.W.Frag} {F H : Hp} (l : ∀ a o, F a = some o → H a = some o) {a : Addr} {vs : List V} (h : TupF K F a vs) : SqT K H a vs := by
  rcases h with ⟨o, h, _⟩ | ⟨o, its, n, h1, h2, h3, h4, h5, h6⟩
  · exact .inl (.inr ⟨o, l _ _ h⟩)
  · exact .inr ⟨o, its, n, h1, h2, h4, h5, h6⟩
theorem TupF.le {K : PySem.W.Frag} {F H : Hp} (l : ∀ a o, F a = some o → H a = some o) {a : Addr} {vs : List V} (h : TupF K F a vs) : TupF K H a vs := by
  rcases h with ⟨o, h, k⟩ | h
  · exact .inl ⟨o, l _ _ h, k⟩
  · exact .inr h
/-- a tuple or a list that may be asked for a method -/
def TyM (K : PySem.W.Frag) (T : String) (x : V) (H : Hp) : Prop := ∃ p, x = .ref p ∧ ((T = "list" ∧ ∃ xs, SqL K H p xs) ∨ (T = "tuple" ∧ ∃ xs, TupF K H p xs))
theorem TyM.is {pins : List (Addr × Obj)} {σ : L2.St} {H : Hp} {s : Shared} {T : String} {x : V} {v : Value} (I : Inv X pins σ H s) (r : RelV x v) (ty : TyM X.K T x H) :
    s.TypeIs v T ∧ ∀ a, v = .ref a → ∃ ob, s.heap.get? a = some ob ∧ ob.dict = none := by
  obtain ⟨p, rfl, h⟩ := ty
  rcases h with ⟨rfl, xs, h⟩ | ⟨rfl, xs, h⟩
  · exact tyV_is I r (show tyV X.K "list" (.ref p) H from .inl ⟨rfl, xs, h⟩)
  · cases r
    rcases h with ⟨o, h, k⟩ | ⟨o, its, n, h1, h2, h3, h4, h5, h6⟩
    · obtain ⟨h1, _, its, rv, o', h2, h3, n, h4⟩ := I.hok p _ h
      rw [h1] at h2
      cases h2
      exact ⟨⟨_, h1, h3⟩, fun a e => by cases e; exact ⟨_, h1, k⟩⟩
    · have := I.kIn p o h1
      exact ⟨⟨_, this, h2⟩, fun a e => by cases e; exact ⟨_, this, h3⟩⟩
def tBX (K : PySem.W.Frag) (T : String) (r : V → List V → Hp → VK → Prop) (to : TE) (t : TA) : TE := fun σ H Q => to σ H fun x H1 => TyM K T x H1 ∧ t σ H1 fun xs H2 => r x xs H2 Q
theorem pe_bX {o e : Expr} {name : Str} {apos cpos : Pos} {T id : String} {r : V → List V → Hp → VK → Prop} {to : TE} (pa : PlainAttrs T) (slot : Slot T name id) (hty : typeOf (.builtin id) = pure (.type "method_descriptor")) (hm : MtR X id r) (ho : PE X o to) (ha : PA X (e :: es) t)
    (hbase : attributeBase o name X.env (eval o X.env) = eval o X.env)
    (hfew : ((backTo cpos (starEach (e :: es) X.env)).all (fun x => !x.1) && (backToKw cpos (keywordEach [] X.env)).all (fun x => x.1.isSome)
      && decide ((e :: es).length + ([] : List Keyword).length + (if ([] : List Keyword).isEmpty then 0 else 1) < 30)) = true)
    (hline : (apos.endLine == cpos.line) = true) (hs : starEach (e :: es) X.env = (false, eval e X.env) :: starEach es X.env) (hplain : (backTo cpos (starEach es X.env)).any (·.1) = false) :
    PE X (.Call (.Attribute o name apos) (e :: es) [] cpos) (tBX X.K T r to t) := by
  refine ⟨fun pins s σ H Q I h => ?_⟩
  refine wpAny_Call_method_late hbase hfew hline rfl (thn (ho.run pins s σ H _ I h) fun v s1 ⟨x, H1, I1, r1, ty, q1⟩ => ?_)
  obtain ⟨h1, h2⟩ := ty.is I1 r1
  refine ⟨T, id, pa, slot, hty, h1, h2, ?_⟩
  have hA := ha.run cpos pins s1 σ H1 _ I1 q1
  rw [hs] at hA ⊢
  refine Calls.callWith_builtin (by show (false || (backTo cpos (starEach es X.env)).any (·.1)) = false; rw [hplain] <;> rfl) (Calls.evalArgs_plain ?_)
  exact thn hA fun us s2 ⟨vs, H2, I2, r2, q2⟩ => hm pins s2 σ H2 x vs v us Q I2 r1 r2 q2
/-- xs.count(x), t.count(x) -/
def rCntP (K : PySem.W.Frag) (tup : Bool) : V → List V → Hp → VK → Prop := fun x xs H Q => ∃ a y d ds, x = .ref a ∧ xs = [y] ∧ (if tup then Dp K H x (.tuple ds) else Dp K H x (.list ds)) ∧ Dp K H y d ∧ PyData.plainAll ds = true ∧ d.plain = true ∧ d.depth ≤ 64 ∧ Q (.int ((ds.countP fun z => PyData.eqv z d : Nat) : Int)) H
theorem mt_countT (hu : X.A.units + 66 < cLine) : MtR X "tuple.count" (rCntP X.K true) := by
  intro pins s σ H x xs v us Q I rx rxs h
  obtain ⟨a, y, d, ds, rfl, rfl, hd, hy, p1, p2, p3, q⟩ := h
  cases rx
  cases rxs with
  | cons ry rt =>
    cases rt
    obtain ⟨as, r1⟩ := Dp.reads I _ _ _ hd rfl
    obtain ⟨bs, r2⟩ := Dp.reads I _ _ _ hy ry
    cases r1 with
    | tuple h1 h2 h3 h4 =>
      exact SeqAt.count_tuple_data ⟨_, h1, h2, _, h3⟩ h4 r2 p1 p2 (by have := Nat.min_le_right (PyData.depthAll ds) d.depth; omega) ⟨.int _, H, I.tok _, ⟨_, rfl⟩, q⟩
theorem mt_countL (hu : X.A.units + 66 < cLine) : MtR X "list.count" (rCntP X.K false) := by
  intro pins s σ H x xs v us Q I rx rxs h
  obtain ⟨a, y, d, ds, rfl, rfl, hd, hy, p1, p2, p3, q⟩ := h
  cases rx
  cases rxs with
  | cons ry rt =>
    cases rt
    obtain ⟨as, r1⟩ := Dp.reads I _ _ _ hd rfl
    obtain ⟨bs, r2⟩ := Dp.reads I _ _ _ hy ry
    cases r1 with
    | list h1 h2 h3 h4 =>
      exact SeqAt.count_list_data ⟨_, h1, h2, _, h3⟩ h4 r2 p1 p2 (by have := Nat.min_le_right (PyData.depthAll ds) d.depth; omega) ⟨.int _, H, I.tok _, ⟨_, rfl⟩, q⟩
end
end Vm
namespace Vm
open PySem
/-- a value -/
inductive D where
  | non | bl (b : Bool) | int (i : Int) | str (s : Str)
  | tup (xs : List D) | lst (xs : List D) | scr (ns : List Int)
  | obj (c : Str) (fs : List (Str × D))
  | ref (k : Nat)
  deriving Inhabited
/-- what may be changed -/
inductive Cell where
  | lst (xs : List D)
  | ob (c : Str) (fs : List (Str × D))
  deriving Inhabited
inductive Slot where
  | emp | val (d : D) | own (c : Cell)
  deriving Inhabited
abbrev Env := List Slot
abbrev Store := List (Option Cell)
structure Ex where
  c : Str
  fs : List (Str × D)
inductive Out (α : Type) where
  | ok (a : α) (e : Env) (s : Store)
  | rz (x : Ex) (e : Env) (s : Store)
  | bad
inductive COut where
  | ok (d : D) (s : Store)
  | rz (x : Ex) (s : Store)
  | bad
def M (α : Type) := Env → Store → Out α
namespace M
variable {α β : Type}
def pure (a : α) : M α := fun e s => .ok a e s
def bad : M α := fun _ _ => .bad
def bind (m : M α) (f : α → M β) : M β := fun e s => match m e s with
  | .ok a e s => f a e s
  | .rz x e s => .rz x e s
  | .bad => .bad
def opt : Option α → M α
  | some a => pure a
  | none => bad
theorem bind_assoc {γ : Type} (m : M α) (f : α → M β) (g : β → M γ) : bind (bind m f) g = bind m fun a => bind (f a) g := by
  funext e s
  unfold bind
  cases m e s <;> rfl
theorem pure_bind (a : α) (f : α → M β) : bind (pure a) f = f a := rfl
/-- what is raised is not let out -/
def noRz (m : M α) : M α := fun e s => match m e s with
  | .ok a e s => .ok a e s
  | .rz _ _ _ => .bad
  | .bad => .bad
end M
mutual
def D.py : D → PyData
  | .non => .none
  | .bl b => .bool b
  | .int i => .int i
  | .str s => .str s
  | .tup xs => .tuple (D.pys xs)
  | .lst xs => .list (D.pys xs)
  | .scr _ => .dict []
  | .obj _ _ => .dict []
  | .ref _ => .dict []
def D.pys : List D → List PyData
  | [] => []
  | d :: ds => d.py :: D.pys ds
end
/-- data that may be compared -/
def okP (d : PyData) : Bool := d.plain && decide (d.depth ≤ 64)
/-- == of data -/
def D.eq? (x y : D) : Option Bool := if okP x.py && okP y.py then some (PyData.eqv x.py y.py) else none
/-- what is read: a value, or what stands in a cell -/
inductive Vw where
  | d (x : D) | c (x : Cell)
def Vw.toD : Vw → Option D
  | .d x => some x
  | .c (.lst xs) => some (.lst xs)
  | .c (.ob _ _) => none
/-- the items of a list (false), a tuple (true) -/
def Vw.items : Vw → Option (Bool × List D)
  | .d (.tup xs) => some (true, xs)
  | .d (.lst xs) => some (false, xs)
  | .d (.scr ns) => some (false, ns.map D.int)
  | .c (.lst xs) => some (false, xs)
  | _ => none
/-- a handle: a slot, to be read later, or a value -/
inductive Hd where
  | s (i : Nat) | d (x : D)
def resD (d : D) : M Vw := fun e s => match d with
  | .ref k => (match s.getD k none with
    | some c => .ok (.c c) e s
    | none => .bad)
  | d => .ok (.d d) e s
def res (h : Hd) : M Vw := fun e s => match h with
  | .s i => (match e.getD i .emp with
    | .emp => .bad
    | .val d => resD d e s
    | .own c => .ok (.c c) e s)
  | .d d => resD d e s
def ress : List Hd → M (List Vw)
  | [] => .pure []
  | h :: hs => (res h).bind fun v => (ress hs).bind fun vs => .pure (v :: vs)
def Cell.toD : Cell → D
  | .lst xs => .lst xs
  | .ob c fs => .obj c fs
/-- a slot's value, handed on: what was the slot's own is never changed from here on -/
def readV (i : Nat) : M D := fun e s => match e.getD i .emp with
  | .emp => .bad
  | .val d => .ok d e s
  | .own c => .ok c.toD (e.set i (.val c.toD)) s
def setV (i : Nat) (d : D) : M Unit := fun e s => .ok () (e.set i (.val d)) s
def hdV (i : Nat) : M Hd := fun e s => match e.getD i .emp with
  | .emp => .bad
  | _ => .ok (.s i) e s
inductive Bop where
  | add | sub | mul | fdiv | mod | pow
inductive Cop where
  | eq | ne | lt | le | gt | ge | in_ | nin | is_ | isn
def iOp : Bop → Int → Int → Option Int
  | .add, i, j => some (i + j)
  | .sub, i, j => some (i - j)
  | .mul, i, j => if i.natAbs.log2 + j.natAbs.log2 < 1000000 then some (i * j) else none
  | .fdiv, i, j => if 0 < j ∧ j.natAbs.log2 < 9000 then some (i / j) else none
  | .mod, i, j => if 0 < j then some (i % j) else none
  | .pow, i, j => if 0 ≤ j ∧ j ≤ 1000000 ∧ i.natAbs < 2 ^ 64 then some (i ^ j.toNat) else none
def bop (op : Bop) : Vw → Vw → Option D
  | .d (.int i), .d (.int j) => (iOp op i j).map D.int
  | .d (.str a), .d (.str b) => (match op with
    | .add => if a.length + b.length ≤ 2 ^ 24 then some (.str (a ++ b)) else none
    | _ => none)
  | .d (.tup xs), .d (.tup ys) => (match op with
    | .add => if xs.length + ys.length ≤ 2 ^ 24 then some (.tup (xs ++ ys)) else none
    | _ => none)
  | .d (.lst xs), .d (.lst ys) => (match op with
    | .add => if xs.length + ys.length ≤ 2 ^ 24 then some (.lst (xs ++ ys)) else none
    | _ => none)
  | .d (.lst xs), .c (.lst ys) => (match op with
    | .add => if xs.length + ys.length ≤ 2 ^ 24 then some (.lst (xs ++ ys)) else none
    | _ => none)
  | .c (.lst xs), .d (.lst ys) => (match op with
    | .add => if xs.length + ys.length ≤ 2 ^ 24 then some (.lst (xs ++ ys)) else none
    | _ => none)
  | .c (.lst xs), .c (.lst ys) => (match op with
    | .add => if xs.length + ys.length ≤ 2 ^ 24 then some (.lst (xs ++ ys)) else none
    | _ => none)
  | .d (.lst xs), .d (.int k) => (match op with
    | .mul => if -(2 ^ 63) ≤ k ∧ k < 2 ^ 63 ∧ xs.length * k.toNat ≤ 2 ^ 24 then some (.lst (List.replicate k.toNat xs).flatten) else none
    | _ => none)
  | .c (.lst xs), .d (.int k) => (match op with
    | .mul => if -(2 ^ 63) ≤ k ∧ k < 2 ^ 63 ∧ xs.length * k.toNat ≤ 2 ^ 24 then some (.lst (List.replicate k.toNat xs).flatten) else none
    | _ => none)
  | _, _ => none
def ordOp : Cop → Int → Int → Option Bool
  | .lt, i, j => some (decide (i < j))
  | .le, i, j => some (decide (i ≤ j))
  | .gt, i, j => some (decide (j < i))
  | .ge, i, j => some (decide (j ≤ i))
  | _, _, _ => none
def isNon : Vw → Bool
  | .d .non => true
  | _ => false
def inD (x : D) (ys : List D) : Option Bool := if okP x.py && okP (PyData.list (D.pys ys)) then some ((D.pys ys).any fun z => PyData.eqv z x.py) else none
def isV (x : Vw) : Vw → Option Bool
  | .d .non => some (isNon x)
  | _ => none
def ordV (op : Cop) : Vw → Vw → Option Bool
  | .d (.int i), .d (.int j) => ordOp op i j
  | _, _ => none
def cmpV (op : Cop) (x y : Vw) : Option Bool := match op with
  | .eq => x.toD.bind fun a => y.toD.bind fun b => a.eq? b
  | .ne => x.toD.bind fun a => y.toD.bind fun b => (a.eq? b).map (!·)
  | .is_ => isV x y
  | .isn => (isV x y).map (!·)
  | .in_ => x.toD.bind fun a => y.items.bind fun ys => inD a ys.2
  | .nin => x.toD.bind fun a => y.items.bind fun ys => (inD a ys.2).map (!·)
  | op => ordV op x y
/-- truth of a value -/
def truV : Vw → Option Bool
  | .d .non => some false
  | .d (.bl b) => some b
  | .d (.int i) => some (i != 0)
  | v => v.items.map fun p => !p.2.isEmpty
def ixV (v : Vw) (i : Int) : Option D := v.items.bind fun p => L2.atI p.2 i
def slV (v : Vw) (lo hi : Option Int) : Option D := v.items.map fun p => if p.1 then .tup (cut p.2) else .lst (cut p.2)
where cut (xs : List D) : List D := (xs.drop (HT.sIx xs.length 0 lo)).take (HT.sIx xs.length xs.length hi - HT.sIx xs.length 0 lo)
inductive Bt where
  | len | abs | int | sum | min2 | max2 | list | tuple | any | all
  | isi (ts : List String)
def tyOf : Vw → Option String
  | .d .non => some "NoneType"
  | .d (.bl _) => some "bool"
  | .d (.int _) => some "int"
  | .d (.str _) => some "str"
  | .d (.tup _) => some "tuple"
  | .d (.lst _) => some "list"
  | .c (.lst _) => some "list"
  | _ => none
def isi1 (t c : String) : Bool := t == c || (t == "bool" && c == "int")
def allI : List D → Option (List Int)
  | [] => some []
  | .int i :: r => (allI r).map (i :: ·)
  | _ => none
def allB : List D → Option (List Bool)
  | [] => some []
  | .bl i :: r => (allB r).map (i :: ·)
  | _ => none
def bLen : List Vw → Option D
  | [.d (.str s)] => if s.length ≤ 2 ^ 24 then some (.int s.length) else none
  | [v] => v.items.map fun p => .int p.2.length
  | _ => none
def bAbs : List Vw → Option D
  | [.d (.int i)] => some (.int (if i < 0 then -i else i))
  | _ => none
def bInt : List Vw → Option D
  | [.d (.int i)] => some (.int i)
  | [.d (.bl b)] => some (.int (if b then 1 else 0))
  | _ => none
def bSum : List Vw → Option D
  | [v] => v.items.bind fun p => (allI p.2).map fun ns => .int ns.sum
  | _ => none
def bMin2 : List Vw → Option D
  | [.d (.int i), .d (.int j)] => some (.int (if j < i then j else i))
  | _ => none
def bMax2 : List Vw → Option D
  | [.d (.int i), .d (.int j)] => some (.int (if j > i then j else i))
  | _ => none
def bList : List Vw → Option D
  | [v] => v.items.map fun p => .lst p.2
  | _ => none
def bTuple : List Vw → Option D
  | [v] => v.items.map fun p => .tup p.2
  | _ => none
def bAny : List Vw → Option D
  | [v] => v.items.bind fun p => if p.1 then none else (allB p.2).map fun bs => .bl (bs.any id)
  | _ => none
def bAll : List Vw → Option D
  | [v] => v.items.bind fun p => if p.1 then none else (allB p.2).map fun bs => .bl (bs.all id)
  | _ => none
/-- how often x stands among the items; the kind as it was -/
def bCount (k : Bool) (v x : Vw) : Option D := v.items.bind fun p => if p.1 == k then x.toD.bind fun a => (if okP a.py && okP (PyData.list (D.pys p.2)) then some (.int ((D.pys p.2).countP fun z => PyData.eqv z a.py : Nat)) else none) else none
def bIsi (ts : List String) : List Vw → Option D
  | [v] => (tyOf v).map fun t => .bl (ts.any fun c => isi1 t c)
  | _ => none
def btF : Bt → List Vw → Option D
  | .len => bLen
  | .abs => bAbs
  | .int => bInt
  | .sum => bSum
  | .min2 => bMin2
  | .max2 => bMax2
  | .list => bList
  | .tuple => bTuple
  | .any => bAny
  | .all => bAll
  | .isi ts => bIsi ts
/-- list methods that change the list -/
inductive Mt where
  | append | extend | pop | popAt | insert | clear | reverse
def mAppend (xs : List D) : List D → Option (D × List D)
  | [y] => if xs.length < 2 ^ 24 then some (.non, xs ++ [y]) else none
  | _ => none
def mExtend (xs : List D) : List D → Option (D × List D)
  | [.lst ys] => if xs.length + ys.length ≤ 2 ^ 24 then some (.non, xs ++ ys) else none
  | _ => none
def mPop (xs : List D) : List D → Option (D × List D)
  | [] => xs[xs.length - 1]?.map fun y => (y, xs.dropLast)
  | _ => none
def mPopAt (xs : List D) : List D → Option (D × List D)
  | [.int i] => (L2.ixN xs.length i).bind fun k => xs[k]?.map fun y => (y, xs.eraseIdx k)
  | _ => none
def mInsert (xs : List D) : List D → Option (D × List D)
  | [.int i, y] => if 0 ≤ i ∧ i < 2 ^ 63 ∧ xs.length < 2 ^ 24 then some (.non, xs.take i.toNat ++ [y] ++ xs.drop i.toNat) else none
  | _ => none
def mClear : List D → Option (D × List D)
  | [] => some (.non, [])
  | _ => none
def mReverse (xs : List D) : List D → Option (D × List D)
  | [] => some (.non, xs.reverse)
  | _ => none
def mtF : Mt → List D → List D → Option (D × List D)
  | .append, xs => mAppend xs
  | .extend, xs => mExtend xs
  | .pop, xs => mPop xs
  | .popAt, xs => mPopAt xs
  | .insert, xs => mInsert xs
  | .clear, _ => mClear
  | .reverse, xs => mReverse xs
/-- the list in a view -/
def lstOf : Vw → Option (List D)
  | .d (.lst xs) => some xs
  | .c (.lst xs) => some xs
  | _ => none
def isLst (h : Hd) : M Unit := (res h).bind fun v => match v with
  | .c (.lst _) => .pure ()
  | _ => .bad
/-- what is extended by: a list, or the list in a cell -/
def mtArgs (m : Mt) (ds : List D) : M (List D) := match m with
  | .extend => (match ds with
    | [d] => (resD d).bind fun v => (M.opt (lstOf v)).bind fun ys => .pure [.lst ys]
    | _ => .bad)
  | _ => .pure ds
inductive Tg where
  | nm (i : Nat) | nil | cons (a r : Tg) | tup (l : Tg)
inductive Tm where
  | bad
  | nil | cons (a r : Tm)
  | cst (d : D)
  | v (i : Nat)
  | bin (op : Bop) (a b : Tm) | neg (a : Tm)
  | cmp (op : Cop) (a b : Tm) | chain (o1 o2 : Cop) (a b c : Tm)
  | andv (a b : Tm) | orv (a b : Tm) | notv (t : Tm)
  | ite (t a b : Tm)
  | fld (a : Tm) (f : Str)
  | ix (a b : Tm) | sl (a lo hi : Tm) | non | just (a : Tm)
  | tup (es : Tm) | lst (es : Tm)
  | lc (own : List Nat) (tg : Tg) (it ts elt : Tm)
  | cell (a : Tm)
  | call (f : Str) (es : Tm)
  | meth (m : Str) (o es : Tm)
  | mk (c : Str) (es : Tm)
  | blt (b : Bt) (es : Tm)
  | mut (m : Mt) (o es : Tm)
  | cnt (o a : Tm)
  -- tests
  | tval (a : Tm) | ttru (a : Tm) | tand (a b : Tm) | tor (a b : Tm) | tnot (a : Tm) | tyes
  -- what is walked
  | iseq (a : Tm) | irng1 (a : Tm) | irng2 (a b : Tm) | irng3 (a b c : Tm) | ienum (a : Tm) | izip (a b : Tm)
inductive Sm where
  | bad | nil | cons (a r : Sm) | pass | brk | cont
  | ret (e : Tm) | retN | ex (e : Tm)
  | asg (tg : Tg) (e : Tm)
  | own (i : Nat) (a : Tm)
  | setI (o i e : Tm) | setA (o : Tm) (f : Str) (e : Tm)
  | aug (i : Nat) (op : Bop) (e : Tm) | augI (o i : Tm) (op : Bop) (e : Tm)
  | ifs (t : Tm) (a b : Sm)
  | for_ (tg : Tg) (it : Tm) (b : Sm)
  | whl (t : Tm) (b : Sm)
  | raise (c : Str) (es : Tm)
inductive Fl where
  | next | brk | cont | ret (d : D)
/-- what a def calls: by class (or nothing) and name -/
abbrev Call := Str × Str → List D → Store → COut
/-- the text: classes, their properties -/
structure Api where
  call : Call
  has : Str × Str → Bool
  fld : Str → Str → Bool
  prop : Str → Str → Bool
  exc : Str → Option (List Str)
  fuel : Nat
def Api.run (A : Api) (f : Str × Str) (ds : List D) : M D := fun e s => match A.call f ds s with
  | .ok d s => .ok d e s
  | .rz x s => .rz x e s
  | .bad => .bad
mutual
def Tg.put : Tg → D → M Unit
  | .nm i, d => setV i d
  | .tup l, d => (match d with
    | .tup xs => Tg.puts l xs
    | .lst xs => Tg.puts l xs
    | _ => .bad)
  | .nil, _ => .bad
  | .cons _ _, _ => .bad
def Tg.puts : Tg → List D → M Unit
  | .nil, xs => (match xs with
    | [] => .pure ()
    | _ => .bad)
  | .cons a r, xs => (match xs with
    | x :: xs => (Tg.put a x).bind fun _ => Tg.puts r xs
    | _ => .bad)
  | .nm _, _ => .bad
  | .tup _, _ => .bad
end
def Tg.slots : Tg → List Nat
  | .nm i => [i]
  | .nil => []
  | .cons a r => a.slots ++ r.slots
  | .tup l => l.slots
def irange (lo hi : Int) : List D := (List.range (hi - lo).toNat).map fun (k : Nat) => D.int (lo + (k : Int))
def drange (hi lo : Int) : List D := (List.range (hi - lo).toNat).map fun (k : Nat) => D.int (hi + (k : Int) * (-1))
def small62 (i : Int) : Bool := decide (-(2 ^ 62) ≤ i ∧ i < 2 ^ 62)
def enumD : Nat → List D → List D
  | _, [] => []
  | k, x :: xs => .tup [.int k, x] :: enumD (k + 1) xs
def zipD : List D → List D → List D
  | x :: xs, y :: ys => .tup [x, y] :: zipD xs ys
  | _, _ => []
/-- the place of what is changed -/
inductive Pl where
  | s (i : Nat) | k (k : Nat)
def plOf (h : Hd) : M Pl := fun e s => match h with
  | .s i => (match e.getD i .emp with
    | .own _ => .ok (.s i) e s
    | .val (.ref k) => .ok (.k k) e s
    | _ => .bad)
  | .d (.ref k) => .ok (.k k) e s
  | .d _ => .bad
def getC (p : Pl) : M Cell := fun e s => match p with
  | .s i => (match e.getD i .emp with
    | .own c => .ok c e s
    | _ => .bad)
  | .k k => (match s.getD k none with
    | some c => .ok c e s
    | none => .bad)
def setC (p : Pl) (c : Cell) : M Unit := fun e s => match p with
  | .s i => .ok () (e.set i (.own c)) s
  | .k k => .ok () e (s.set k (some c))
def newC (c : Cell) : M D := fun e s => .ok (.ref s.length) e (s ++ [some c])
/-- an object's field, or its property -/
def fldV (A : Api) (v : Vw) (f : Str) : M D := match v with
  | .d (.obj c fs) => if A.prop c f then M.noRz (A.run (c, f) [.obj c fs]) else if A.fld c f then M.opt (fs.lookup f) else .bad
  | .c (.ob c fs) => if A.fld c f then M.opt (fs.lookup f) else .bad
  | _ => .bad
/-- an object's class, its fields -/
def clsOf : Vw → Option (Str × List (Str × D))
  | .d (.obj c fs) => some (c, fs)
  | .c (.ob c fs) => some (c, fs)
  | _ => none
/-- may be asked for a method -/
def gate (A : Api) (m : Str) (v : Vw) : Option Str := (clsOf v).bind fun p => if A.has (p.1, m) && (p.2.lookup m).isNone && !A.prop p.1 m && !(m == ("__init__" : Str)) then some p.1 else none
def wipeE (e : Env) : List Nat → Env
  | [] => e
  | i :: is => (wipeE e is).set i .emp
def noOwn (e : Env) (is : List Nat) : Bool := is.all fun i => match e.getD i .emp with
  | .own _ => false
  | _ => true
def backE (e0 e : Env) : List Nat → Env
  | [] => e
  | i :: is => (backE e0 e is).set i (e0.getD i .emp)
def wipeS (own : List Nat) : M Unit := fun e s => .ok () (wipeE e own) s
/-- what is walked: items, or a cell's list as it stands at each turn -/
inductive Wk where
  | fix (xs : List D) | cell (k : Nat)
def nxtW : Wk → Nat → Store → Option (Option D)
  | .fix xs, i, _ => some xs[i]?
  | .cell k, i, s => match s.getD k none with
    | some (.lst xs) => some xs[i]?
    | _ => none
def turns (fuel : Nat) : Wk → Nat
  | .fix xs => xs.length + 1
  | .cell _ => fuel
/-- a comprehension's turns -/
def lcN (wk : Wk) (own : List Nat) (put : D → M Unit) (tst : M Bool) (elt : M D) : Nat → Nat → List D → M (List D)
  | 0, _, _ => .bad
  | n + 1, i, acc => (wipeS own).bind fun _ => fun e s => match nxtW wk i s with
    | none => .bad
    | some none => .ok acc e s
    | some (some x) => ((put x).bind fun _ => tst.bind fun b => match b with
      | true => elt.bind fun y => if acc.length < 2 ^ 24 then lcN wk own put tst elt n (i + 1) (acc ++ [y]) else .bad
      | false => lcN wk own put tst elt n (i + 1) acc) e s
def ofInt : Vw → Option Int
  | .d (.int i) => some i
  | _ => none
def putD (f : Str) (v : D) : List (Str × D) → List (Str × D)
  | [] => [(f, v)]
  | (g, x) :: r => if g = f then (g, v) :: r else (g, x) :: putD f v r
/-- a handle -/
def ehd (m : M D) : Tm → M Hd
  | .v i => hdV i
  | _ => m.bind fun d => .pure (.d d)
def eod (m : M D) : Tm → M (Option Int)
  | .non => .pure none
  | _ => m.bind fun d => match d with
    | .int i => .pure (some i)
    | _ => .bad
mutual
/-- a value -/
def ev (A : Api) : Tm → M D
  | .cst d => .pure d
  | .v i => readV i
  | .bin op a b => (ehd (ev A a) a).bind fun x => (ehd (ev A b) b).bind fun y => (res x).bind fun x => (res y).bind fun y => M.opt (bop op x y)
  | .neg a => (ev A a).bind fun x => match x with
    | .int i => .pure (.int (-i))
    | _ => .bad
  | .cmp op a b => (ehd (ev A a) a).bind fun x => (ehd (ev A b) b).bind fun y => (res x).bind fun x => (res y).bind fun y => (M.opt (cmpV op x y)).bind fun b => .pure (.bl b)
  | .chain o1 o2 a b c => (ehd (ev A a) a).bind fun x => (ehd (ev A b) b).bind fun y => (res x).bind fun x => (res y).bind fun y' => (M.opt (cmpV o1 x y')).bind fun k => match k with
    | true => (ehd (ev A c) c).bind fun z => (res z).bind fun z => (M.opt (cmpV o2 y' z)).bind fun b => .pure (.bl b)
    | false => .pure (.bl false)
  | .andv a b => (ev A a).bind fun x => match x with
    | .bl true => ev A b
    | .bl false => .pure (.bl false)
    | _ => .bad
  | .orv a b => (ev A a).bind fun x => match x with
    | .bl true => .pure (.bl true)
    | .bl false => ev A b
    | _ => .bad
  | .notv a => (ev A a).bind fun x => match x with
    | .bl b => .pure (.bl (!b))
    | _ => .bad
  | .ite t a b => (et A t).bind fun k => match k with
    | true => ev A a
    | false => ev A b
  | .fld a f => (ehd (ev A a) a).bind fun h => (res h).bind fun v => fldV A v f
  | .ix a b => (ehd (ev A a) a).bind fun h => (ev A b).bind fun i => match i with
    | .int i => (res h).bind fun v => M.opt (ixV v i)
    | _ => .bad
  | .sl a lo hi => (ehd (ev A a) a).bind fun h => (eod (ev A lo) lo).bind fun l => (eod (ev A hi) hi).bind fun r => (res h).bind fun v => M.opt (slV v l r)
  | .just a => ev A a
  | .tup es => (el A es).bind fun xs => if xs.length ≤ 2 ^ 24 then .pure (.tup xs) else .bad
  | .lst es => (el A es).bind fun xs => if xs.length ≤ 2 ^ 24 then .pure (.lst xs) else .bad
  | .lc own tg it ts elt => (ei A it).bind fun wk => fun e s => if noOwn e own && tg.slots.all own.contains then (match lcN wk own (Tg.put tg) (et A ts) (ev A elt) (turns A.fuel wk) 0 [] e s with
    | .ok ys e' s' => .ok (.lst ys) (backE e e' own) s'
    | _ => .bad) else .bad
  | .cell a => (ev A a).bind fun x => match x with
    | .lst xs => newC (.lst xs)
    | _ => .bad
  | .call f es => if A.has ("", f) then (el A es).bind fun xs => A.run ("", f) xs else .bad
  | .meth m o es => (ev A o).bind fun d => (resD d).bind fun v => (M.opt (gate A m v)).bind fun c => (el A es).bind fun xs => A.run (c, m) (d :: xs)
  | .mk c es => if A.has (c, "__init__") then (el A es).bind fun xs => A.run (c, "__init__") xs else .bad
  | .blt b es => (ehs A es).bind fun hs => (ress hs).bind fun vs => M.opt (btF b vs)
  | .mut m o es => (ehd (ev A o) o).bind fun h => (isLst h).bind fun _ => (el A es).bind fun ds => (mtArgs m ds).bind fun ds => (plOf h).bind fun p => (getC p).bind fun c => match c with
    | .lst xs => (M.opt (mtF m xs ds)).bind fun r => (setC p (.lst r.2)).bind fun _ => .pure r.1
    | _ => .bad
  | .cnt o a => (ehd (ev A o) o).bind fun h => (res h).bind fun v => (M.opt (v.items.map fun p => p.1)).bind fun k => (ehd (ev A a) a).bind fun g => (res h).bind fun v => (res g).bind fun x => M.opt (bCount k v x)
  | _ => .bad
def ehs (A : Api) : Tm → M (List Hd)
  | .nil => .pure []
  | .cons a r => (ehd (ev A a) a).bind fun x => (ehs A r).bind fun xs => .pure (x :: xs)
  | _ => .bad
def el (A : Api) : Tm → M (List D)
  | .nil => .pure []
  | .cons a r => (ev A a).bind fun x => (el A r).bind fun xs => .pure (x :: xs)
  | _ => .bad
def et (A : Api) : Tm → M Bool
  | .tyes => .pure true
  | .tval a => (ev A a).bind fun x => match x with
    | .bl b => .pure b
    | _ => .bad
  | .ttru a => (ehd (ev A a) a).bind fun h => (res h).bind fun v => M.opt (truV v)
  | .tand a b => (et A a).bind fun k => match k with
    | true => et A b
    | false => .pure false
  | .tor a b => (et A a).bind fun k => match k with
    | true => .pure true
    | false => et A b
  | .tnot a => (et A a).bind fun k => .pure (!k)
  | _ => .bad
def ei (A : Api) : Tm → M Wk
  | .iseq a => (ev A a).bind fun x => match x with
    | .lst xs => .pure (.fix xs)
    | .tup xs => .pure (.fix xs)
    | .scr ns => .pure (.fix (ns.map D.int))
    | .ref k => (resD (.ref k)).bind fun v => match v with
      | .c (.lst _) => .pure (.cell k)
      | _ => .bad
    | _ => .bad
  | .irng1 a => (ev A a).bind fun x => match x with
    | .int n => if small62 n then .pure (.fix (irange 0 n)) else .bad
    | _ => .bad
  | .irng2 a b => (ev A a).bind fun x => (ev A b).bind fun y => match x, y with
    | .int i, .int j => if small62 i && small62 j then .pure (.fix (irange i j)) else .bad
    | _, _ => .bad
  | .irng3 a b c => (ev A a).bind fun x => (ev A b).bind fun y => (ev A c).bind fun z => match x, y, z with
    | .int i, .int j, .int k => if small62 i && small62 j && decide (k = -1) then .pure (.fix (drange i j)) else .bad
    | _, _, _ => .bad
  | .ienum a => (ev A a).bind fun x => match x with
    | .lst xs => .pure (.fix (enumD 0 xs))
    | _ => .bad
  | .izip a b => (ev A a).bind fun x => (ev A b).bind fun y => match x, y with
    | .lst xs, .lst ys => .pure (.fix (zipD xs ys))
    | .tup xs, .tup ys => .pure (.fix (zipD xs ys))
    | _, _ => .bad
  | _ => .bad
end
/-- the while's turns -/
def whGo (t : M Bool) (b : M Fl) : Nat → M Fl
  | 0 => .bad
  | n + 1 => t.bind fun k => match k with
    | false => .pure .next
    | true => b.bind fun f => match f with
      | .brk => .pure .next
      | .ret d => .pure (.ret d)
      | _ => whGo t b n
def forN (wk : Wk) (put : D → M Unit) (b : M Fl) : Nat → Nat → M Fl
  | 0, _ => .bad
  | n + 1, i => fun e s => match nxtW wk i s with
    | none => .bad
    | some none => .ok .next e s
    | some (some x) => ((put x).bind fun _ => b.bind fun f => match f with
      | .brk => .pure .next
      | .ret d => .pure (.ret d)
      | _ => forN wk put b n (i + 1)) e s
/-- an int op= an int -/
def augI : Bop → Int → Int → Option Int
  | .add, i, j => some (i + j)
  | .sub, i, j => some (i - j)
  | .mul, i, j => if (-(2 ^ 64) < i ∧ i < 2 ^ 64) ∨ (-(2 ^ 64) < j ∧ j < 2 ^ 64) then some (i * j) else none
  | .fdiv, i, j => if 0 < j ∧ j < 1073741824 then some (i / j) else none
  | .mod, i, j => if 0 < j then some (i % j) else none
  | _, _, _ => none
/-- a statement, a block -/
def ex (A : Api) : Sm → M Fl
  | .nil => .pure .next
  | .cons a r => (ex A a).bind fun f => match f with
    | .next => ex A r
    | f => .pure f
  | .pass => .pure .next
  | .brk => .pure .brk
  | .cont => .pure .cont
  | .ret e => (ev A e).bind fun d => .pure (.ret d)
  | .retN => .pure (.ret .non)
  | .ex e => (ev A e).bind fun _ => .pure .next
  | .asg tg e => (ev A e).bind fun d => (Tg.put tg d).bind fun _ => .pure .next
  | .own i e => (ev A e).bind fun d => match d with
    | .lst xs => fun e s => .ok .next (e.set i (.own (.lst xs))) s
    | _ => .bad
  | .setI o i e => (ev A e).bind fun y => (ehd (ev A o) o).bind fun h => (ev A i).bind fun k => (plOf h).bind fun p => (getC p).bind fun c => match c, k with
    | .lst xs, .int k => (match L2.ixN xs.length k with
      | some j => (setC p (.lst (xs.set j y))).bind fun _ => .pure .next
      | none => .bad)
    | _, _ => .bad
  | .setA o f e => (ev A e).bind fun y => (ehd (ev A o) o).bind fun h => (plOf h).bind fun p => (getC p).bind fun c => match c with
    | .ob c fs => if fs.length < 1000 && A.fld c f then (setC p (.ob c (putD f y fs))).bind fun _ => .pure .next else .bad
    | _ => .bad
  | .aug i op e => (hdV i).bind fun h => (ehd (ev A e) e).bind fun g => (res h).bind fun x => (res g).bind fun y => match x, y with
    | .d (.int a), .d (.int b) => (M.opt (augI op a b)).bind fun r => (setV i (.int r)).bind fun _ => .pure .next
    | _, _ => .bad
  | .augI o i op e => (ehd (ev A o) o).bind fun h => (ev A i).bind fun k => (plOf h).bind fun p => (getC p).bind fun c => match c, k with
    | .lst xs, .int k => (match L2.ixN xs.length k with
      | some j => (match xs[j]? with
        | some (.int a) => (ev A e).bind fun y => match y with
          | .int b => (M.opt (augI op a b)).bind fun r => (getC p).bind fun c => match c with
            | .lst ys => (match L2.ixN ys.length k with
              | some j => (setC p (.lst (ys.set j (.int r)))).bind fun _ => .pure .next
              | none => .bad)
            | _ => .bad
          | _ => .bad
        | _ => .bad)
      | none => .bad)
    | _, _ => .bad
  | .ifs t a b => (et A t).bind fun k => match k with
    | true => ex A a
    | false => ex A b
  | .for_ tg it b => (ei A it).bind fun wk => forN wk (Tg.put tg) (ex A b) (turns A.fuel wk) 0
  | .whl t b => whGo (et A t) (ex A b) A.fuel
  | .raise c es => (el A es).bind fun xs => match A.exc c with
    | some ns => if ns.length = xs.length then fun e s => .rz ⟨c, ns.zip xs⟩ e s else .bad
    | none => .bad
  | _ => .bad
/-- a def: its parameters' number, its slots, its body; an __init__: the class -/
structure Fn where
  params : Nat
  slots : Nat
  body : Sm
  init : Option Str := none
def Fn.run (A : Api) (f : Fn) (ds : List D) (s : Store) : COut := match f.init with
  | none => if ds.length = f.params then (match ex A f.body (ds.map Slot.val ++ List.replicate (f.slots - f.params) .emp) s with
    | .ok (.ret d) _ s => .ok d s
    | .ok .next _ s => .ok .non s
    | .ok _ _ _ => .bad
    | .rz x _ s => .rz x s
    | .bad => .bad) else .bad
  | some c => if ds.length + 1 = f.params then (match ex A f.body (.own (.ob c []) :: ds.map Slot.val ++ List.replicate (f.slots - f.params) .emp) s with
    | .ok .next e s => (match e.getD 0 .emp with
      | .own (.ob c fs) => .ok (.obj c fs) s
      | _ => .bad)
    | .rz x _ s => .rz x s
    | _ => .bad) else .bad
/-- calls, so deep -/
structure Text where
  fn : Str × Str → Option Fn
  fld : Str → Str → Bool
  prop : Str → Str → Bool
  exc : Str → Option (List Str)
  fuel : Nat
def callN (T : Text) : Nat → Call
  | 0 => fun _ _ _ => .bad
  | n + 1 => fun f ds s => match T.fn f with
    | some fn => fn.run ⟨callN T n, fun k => (T.fn k).isSome, T.fld, T.prop, T.exc, T.fuel⟩ ds s
    | none => .bad
end Vm
namespace Vm
open PySem
/-- what the names mean: slots, the scope, defs, classes, exceptions, constants of the module; lists that are a slot's own, lists that are cells (by place) -/
structure Cc where
  N : List Str
  sc : Scope
  raw : Scope
  fns : List Str
  cls : List Str
  exs : List Str
  gl : List (Str × D)
  cc : List ((Str × Str) × D)
  own : List Str
  cells : List Pos
def visB (sc : Scope) (x : Str) : Bool := match sc.names.lookup x with
  | some .local => true
  | some .cell => true
  | some .free => true
  | _ => false
def locB (sc raw : Scope) (x : Str) : Bool := match sc.names.lookup x with
  | some .local => true
  | some .cell => raw.names.lookup x == some .cell
  | _ => false
/-- the block's names as they are met inside -/
def relab (sc scope : Scope) : Scope := { scope with names := scope.names.map fun (n, k) => if k == .free && sc.kind == .function && sc.names.lookup n == some .cell then (n, .cell) else (n, k) }
def glB (sc : Scope) (x : Str) : Bool := match sc.names.lookup x with
  | some .globalImplicit => true
  | _ => false
def dbgB (x : Str) : Bool := !(x == ("__debug__" : Str)) && !(x == ("__classdict__" : Str)) && !(x == ("__name__" : Str))
/-- a slot's number -/
def ixOf (C : Cc) (x : Str) : Option Nat := if visB C.sc x && dbgB x then (let i := C.N.idxOf x; if C.N[i]? = some x then some i else none) else none
def ixLoc (C : Cc) (x : Str) : Option Nat := if locB C.sc C.raw x then (let i := C.N.idxOf x; if C.N[i]? = some x then some i else none) else none
def bopOf : Operator → Option Bop
  | .Add => some .add
  | .Sub => some .sub
  | .Mult => some .mul
  | .FloorDiv => some .fdiv
  | .Mod => some .mod
  | .Pow => some .pow
  | _ => none
def copOf : CmpOp → Cop
  | .Eq => .eq
  | .NotEq => .ne
  | .Lt => .lt
  | .LtE => .le
  | .Gt => .gt
  | .GtE => .ge
  | .In => .in_
  | .NotIn => .nin
  | .Is => .is_
  | .IsNot => .isn
def cstOf : Const → Option D
  | .none => some .non
  | .bool b => some (.bl b)
  | .int i => some (.int i)
  | .str s => some (.str s)
  | _ => none
def starred : Expr → Bool
  | .Starred _ _ => true
  | _ => false
def isSet : Expr → Bool
  | .Set _ _ _ => true
  | _ => false
def isLC : Expr → Bool
  | .ListComp _ _ _ _ => true
  | .SetComp _ _ _ _ => true
  | .DictComp _ _ _ _ _ => true
  | _ => false
def call0 : Expr → Bool
  | .Call (.Name x _) [] [] _ => x == ("super" : Str)
  | _ => false
def isTup : Expr → Bool
  | .Tuple _ _ _ => true
  | _ => false
def isSlice : Expr → Bool
  | .Slice _ _ _ _ => true
  | _ => false
def tmL : List Tm → Tm
  | [] => .nil
  | t :: ts => .cons t (tmL ts)
/-- built-in functions by name and number of arguments -/
structure BtE where
  x : Str
  n : Nat
  b : Bt
def btTab : List BtE := [⟨"len", 1, .len⟩, ⟨"abs", 1, .abs⟩, ⟨"int", 1, .int⟩, ⟨"sum", 1, .sum⟩, ⟨"min", 2, .min2⟩, ⟨"max", 2, .max2⟩, ⟨"list", 1, .list⟩, ⟨"tuple", 1, .tuple⟩, ⟨"any", 1, .any⟩, ⟨"all", 1, .all⟩]
def btOf (x : Str) (n : Nat) : Option Bt := (btTab.find? fun t => t.x == x && t.n == n).map (·.b)
structure MtE where
  x : Str
  n : Nat
  m : Mt
def mtTab : List MtE := [⟨"append", 1, .append⟩, ⟨"extend", 1, .extend⟩, ⟨"pop", 0, .pop⟩, ⟨"pop", 1, .popAt⟩, ⟨"insert", 2, .insert⟩, ⟨"clear", 0, .clear⟩, ⟨"reverse", 0, .reverse⟩]
def mtOf (x : Str) (n : Nat) : Option Mt := (mtTab.find? fun t => t.x == x && t.n == n).map (·.m)
structure TyE where
  x : Str
  t : String
def tyTab : List TyE := [⟨"int", "int"⟩, ⟨"bool", "bool"⟩, ⟨"str", "str"⟩, ⟨"list", "list"⟩, ⟨"tuple", "tuple"⟩]
def tyName (x : Str) : Option String := (tyTab.find? fun t => t.x == x).map (·.t)
/-- forms that make a new list -/
def fresh : Tm → Bool
  | .lst _ => true
  | .lc _ _ _ _ _ => true
  | .bin .add _ _ => true
  | .bin .mul _ _ => true
  | .sl _ _ _ => true
  | .blt .list _ => true
  | _ => false
/-- surely a new list -/
def ownF : Tm → Bool
  | .lst _ => true
  | .lc _ _ _ _ _ => true
  | .blt .list _ => true
  | .bin .mul a _ => ownF a
  | .bin .add a b => ownF a || ownF b
  | _ => false
def isCell (C : Cc) (p : Pos) (t : Tm) : Tm := if C.cells.contains p && fresh t then .cell t else t
def ordC : CmpOp → Bool
  | .Lt => true
  | .LtE => true
  | .Gt => true
  | .GtE => true
  | _ => false
def few (n : Nat) : Bool := decide (n < 30)
def ownOf (N : List Str) (scope : Scope) : List (Str × Nat) := scope.names.filterMap fun y => match y.2 with
  | .local => if N.contains y.1 then some (y.1, N.idxOf y.1) else none
  | .cell => if N.contains y.1 then some (y.1, N.idxOf y.1) else none
  | _ => none
def gsM (f : Expr → Option Tg) : List Expr → Option Tg
  | [] => some .nil
  | e :: es => if starred e then none else (f e).bind fun a => (gsM f es).map fun r => .cons a r
def blkM (f : Stmt → Sm) : List Stmt → Sm
  | [] => .nil
  | s :: r => .cons (f s) (blkM f r)
/-- targets -/
def cG : Nat → Cc → Expr → Option Tg
  | 0, _, _ => none
  | n + 1, C, .Name x _ => (ixLoc C x).map Tg.nm
  | n + 1, C, .Tuple es _ _ => (gsM (cG n C) es).map Tg.tup
  | _, _, _ => none
def hName (C : Cc) (x : Str) : Tm := match ixOf C x with
  | some i => .v i
  | none => if glB C.sc x && dbgB x then (match C.gl.lookup x with
    | some d => .cst d
    | none => .bad) else .bad
def hBin (C : Cc) (f : Expr → Tm) (a b : Expr) (op : Operator) (p : Pos) : Tm := match bopOf op with
  | some o => isCell C p (.bin o (f a) (f b))
  | none => .bad
def hUn (f : Expr → Tm) (op : UnaryOp) (a : Expr) : Tm := match op with
  | .USub => .neg (f a)
  | .Not => .notv (f a)
  | _ => .bad
/-- a class's constant, by the class's name -/
def hCon (C : Cc) (o : Expr) (f : Str) : Option D := match o with
  | .Name c _ => if glB C.sc c && dbgB c then C.cc.lookup (c, f) else none
  | _ => none
def hAttr (C : Cc) (f : Expr → Tm) (o : Expr) (a : Str) : Tm := match hCon C o a with
  | some d => .cst d
  | none => if call0 o then .bad else .fld (f o) a
def hCmp (f : Expr → Tm) (a : Expr) (ops : List CmpOp) (cs : List Expr) : Tm := match ops, cs with
  | [op], [b] => if isSet b then .bad else .cmp (copOf op) (f a) (f b)
  | [o1, o2], [b, c] => if isSet b || isSet c || !ordC o1 then .bad else .chain (copOf o1) (copOf o2) (f a) (f b) (f c)
  | _, _ => .bad
def hBool (f : Expr → Tm) (op : BoolOp) (vs : List Expr) (p : Pos) : Tm := match vs with
  | [a] => f a
  | a :: b :: r => (match op with
    | .And => .andv (f a) (f (.BoolOp .And (b :: r) p))
    | .Or => .orv (f a) (f (.BoolOp .Or (b :: r) p)))
  | [] => .bad
def hBoolT (f : Expr → Tm) (op : BoolOp) (vs : List Expr) (p : Pos) : Tm := match vs with
  | [a] => f a
  | a :: b :: r => (match op with
    | .And => .tand (f a) (f (.BoolOp .And (b :: r) p))
    | .Or => .tor (f a) (f (.BoolOp .Or (b :: r) p)))
  | [] => .bad
def oTm (f : Expr → Tm) : Option Expr → Tm
  | some e => .just (f e)
  | none => .non
def hSub (C : Cc) (f : Expr → Tm) (o i : Expr) (p : Pos) : Tm := match i with
  | .Slice lo hi st _ => (match st with
    | none => isCell C p (.sl (f o) (oTm f lo) (oTm f hi))
    | some _ => .bad)
  | i => if isSlice i then .bad else .ix (f o) (f i)
def hTs (f : Expr → Tm) : List Expr → Tm
  | [] => .tyes
  | [t] => f t
  | _ => .bad
/-- it, ts, elt: compiled outside, inside, inside -/
def hLC (C : Cc) (p : Pos) (g : Option Tg) (it : Expr) (scope : Scope) (ti tt te : Tm) : Tm :=
  if L2.blkC C.N C.sc scope (ownOf C.N scope) && !isSet it then
    (match g with
    | some g => isCell C p (.lc ((ownOf C.N scope).map (·.2)) g ti tt te)
    | none => .bad)
  else .bad
def hIsi (C : Cc) (f : Expr → Tm) (es : List Expr) : Tm := match es with
  | [a, .Name T _] => (match tyName T with
    | some t => if glB C.sc T && !starred a then .blt (.isi [t]) (.cons (f a) .nil) else .bad
    | none => .bad)
  | _ => .bad
def hCall (C : Cc) (f : Expr → Tm) (x : Str) (es : List Expr) (p : Pos) : Tm :=
  if es.any starred || !glB C.sc x || !dbgB x then .bad
  else if C.fns.contains x then .call x (tmL (es.map f))
  else if C.cls.contains x then .mk x (tmL (es.map f))
  else if C.exs.contains x then .bad
  else if x = "isinstance" then hIsi C f es
  else (match btOf x es.length with
    | some b => isCell C p (.blt b (tmL (es.map f)))
    | none => .bad)
def hMeth (f : Expr → Tm) (o : Expr) (m : Str) (ap p : Pos) (es : List Expr) : Tm :=
  if es.any starred || call0 o || !few es.length || !(ap.endLine == p.line) then .bad
  else (match mtOf m es.length with
    | some t => .mut t (f o) (tmL (es.map f))
    | none => if m = "count" then (match es with
        | [a] => .cnt (f o) (f a)
        | _ => .bad)
      else .meth m (f o) (tmL (es.map f)))
def hRng (f : Expr → Tm) : List Expr → Tm
  | [a] => .irng1 (f a)
  | [a, b] => .irng2 (f a) (f b)
  | [a, b, c] => .irng3 (f a) (f b) (f c)
  | _ => .bad
def hEnum (f : Expr → Tm) (tg : Expr) : List Expr → Tm
  | [a] => if isTup tg then .ienum (f a) else .bad
  | _ => .bad
def hZip (f : Expr → Tm) (tg : Expr) : List Expr → Tm
  | [a, b] => if isTup tg then .izip (f a) (f b) else .bad
  | _ => .bad
def hIt (C : Cc) (f : Expr → Tm) (tg e : Expr) (x : Str) (es : List Expr) : Tm :=
  if es.any starred || !glB C.sc x then .bad
  else if x = "range" then hRng f es
  else if x = "enumerate" then hEnum f tg es
  else if x = "zip" then hZip f tg es
  else .iseq (f e)
mutual
def cE : Nat → Cc → Expr → Tm
  | 0, _, _ => .bad
  | n + 1, C, e => match e with
    | .Constant c _ _ => (match cstOf c with
      | some d => .cst d
      | none => .bad)
    | .Name x _ => hName C x
    | .BinOp a op b p => hBin C (cE n C) a b op p
    | .UnaryOp op a _ => hUn (cE n C) op a
    | .Compare a ops cs _ => hCmp (cE n C) a ops cs
    | .BoolOp op vs p => hBool (cE n C) op vs p
    | .IfExp t a b _ => .ite (cT n C t) (cE n C a) (cE n C b)
    | .Attribute o f _ => hAttr C (cE n C) o f
    | .Subscript o i p => hSub C (cE n C) o i p
    | .Tuple es _ _ => if es.any starred then .bad else .tup (tmL (es.map (cE n C)))
    | .List es p => if es.any starred then .bad else isCell C p (.lst (tmL (es.map (cE n C))))
    | .ListComp elt gens scope p => (match gens with
      | [⟨tg, it, ifs, as⟩] => if as = 0 then hLC C p (cG n { C with sc := relab C.sc scope, raw := scope } tg) it scope (cI n C tg it) (hTs (cT n { C with sc := relab C.sc scope, raw := scope }) ifs) (cE n { C with sc := relab C.sc scope, raw := scope } elt) else .bad
      | _ => .bad)
    | .Call fe es kws p => (match kws with
      | [] => (match fe with
        | .Name x _ => hCall C (cE n C) x es p
        | .Attribute o m ap => hMeth (cE n C) o m ap p es
        | _ => .bad)
      | _ => .bad)
    | _ => .bad
def cT : Nat → Cc → Expr → Tm
  | 0, _, _ => .bad
  | n + 1, C, e => match e with
    | .BoolOp op vs p => hBoolT (cT n C) op vs p
    | .UnaryOp op a _ => (match op with
      | .Not => .tnot (cT n C a)
      | _ => .bad)
    | .Compare a ops cs _ => .tval (hCmp (cE n C) a ops cs)
    | .Name x p => .ttru (cE n C (.Name x p))
    | .Constant a b c => .ttru (cE n C (.Constant a b c))
    | .Call a b c d => .tval (cE n C (.Call a b c d))
    | .Attribute a b c => .ttru (cE n C (.Attribute a b c))
    | .Subscript a b c => .ttru (cE n C (.Subscript a b c))
    | .BinOp a b c d => .ttru (cE n C (.BinOp a b c d))
    | _ => .bad
def cI : Nat → Cc → Expr → Expr → Tm
  | 0, _, _, _ => .bad
  | n + 1, C, tg, e => match e with
    | .Call fe es kws p => (match kws with
      | [] => (match fe with
        | .Name x q => hIt C (cE n C) tg (.Call (.Name x q) es [] p) x es
        | fe => .iseq (cE n C (.Call fe es [] p)))
      | _ => .bad)
    | .Set _ _ _ => .bad
    | e => .iseq (cE n C e)
end
/-- may a name take it -/
def lcSet (e : Expr) : Bool := match e with
  | .ListComp _ _ _ _ => true
  | e => !isLC e
def tupE : Expr → Bool
  | .Tuple _ _ _ => true
  | _ => false
def hAsg (C : Cc) (f : Expr → Tm) (g : Expr → Option Tg) (tg e : Expr) : Sm := match tg with
  | .Name x xp => (match ixLoc C x with
    | some i => if lcSet e then (if C.own.contains x && ownF (f e) && fresh (f e) then .own i (f e) else .asg (.nm i) (f e)) else .bad
    | none => .bad)
  | .Tuple es k p => (match g (.Tuple es k p) with
    | some g => if tupE e || isLC e then .bad else .asg g (f e)
    | none => .bad)
  | .Subscript o i _ => if isSlice i || isLC e then .bad else .setI (f o) (f i) (f e)
  | .Attribute o a _ => if call0 o || isLC e then .bad else .setA (f o) a (f e)
  | _ => .bad
def hAug (C : Cc) (f : Expr → Tm) (tg : Expr) (op : Operator) (e : Expr) : Sm := match tg with
  | .Name x _ => (match ixLoc C x with
    | some i => (match bopOf op with
      | some o => .aug i o (f e)
      | none => .bad)
    | none => .bad)
  | .Subscript o i _ => (match bopOf op with
    | some b => if isSlice i then .bad else .augI (f o) (f i) b (f e)
    | none => .bad)
  | _ => .bad
def hEx (f : Expr → Tm) (e : Expr) : Sm := match e with
  | .Constant c a b => (match c with
    | .str _ => .pass
    | c => .ex (f (.Constant c a b)))
  | e => if isLC e then .bad else .ex (f e)
def cS : Nat → Cc → Stmt → Sm
  | 0, _, _ => .bad
  | n + 1, C, st => match st with
    | .Pass _ => .pass
    | .Break _ => .brk
    | .Continue _ => .cont
    | .Return e _ => (match e with
      | none => .retN
      | some e => .ret (cE n C e))
    | .Expr e _ => hEx (cE n C) e
    | .Assign tgs e _ => (match tgs with
      | [tg] => hAsg C (cE n C) (cG n C) tg e
      | _ => .bad)
    | .AugAssign tg op e _ => hAug C (cE n C) tg op e
    | .If t a b _ => .ifs (cT n C t) (blkM (cS n C) a) (blkM (cS n C) b)
    | .For tg it b els _ => (match els with
      | [] => (match cG n C tg with
        | some g => if isSet it then .bad else .for_ g (cI n C tg it) (blkM (cS n C) b)
        | none => .bad)
      | _ => .bad)
    | .While t b els _ => (match els with
      | [] => .whl (cT n C t) (blkM (cS n C) b)
      | _ => .bad)
    | _ => .bad
end Vm
namespace Vm
open PySem PySem.Spec L2
open PyProof.Rows hiding St
/-- what the module says: its written part, its classes by name -/
structure Wd where
  K : PySem.W.Frag
  cls : Str → Option Addr
mutual
inductive Rp (W : Wd) (F : Hp) (ad : List Addr) : V → D → Prop
  | non : Rp W F ad .non .non
  | bl (b : Bool) : Rp W F ad (.bl b) (.bl b)
  | int (i : Int) : Rp W F ad (.int i) (.int i)
  | str (x : Str) : Rp W F ad (.str x) (.str x)
  | tup {a : Addr} {vs : List V} {ds : List D} : TupF W.K F a vs → RpL W F ad vs ds → Rp W F ad (.ref a) (.tup ds)
  | lst {a : Addr} {vs : List V} {ds : List D} : F a = some (.lst vs) → RpL W F ad vs ds → Rp W F ad (.ref a) (.lst ds)
  | scr {a : Addr} {ns : List Int} : SqL W.K F a (ns.map V.int) → Rp W F ad (.ref a) (.scr ns)
  | obj {a C dx : Addr} {c : Str} {vf : List (Str × V)} {fs : List (Str × D)} : F a = some (.ins C dx vf) → W.cls c = some C → RpF W F ad vf fs → Rp W F ad (.ref a) (.obj c fs)
  | ref {k : Nat} {a : Addr} : ad[k]? = some a → Rp W F ad (.ref a) (.ref k)
inductive RpL (W : Wd) (F : Hp) (ad : List Addr) : List V → List D → Prop
  | nil : RpL W F ad [] []
  | cons {v : V} {d : D} {vs : List V} {ds : List D} : Rp W F ad v d → RpL W F ad vs ds → RpL W F ad (v :: vs) (d :: ds)
inductive RpF (W : Wd) (F : Hp) (ad : List Addr) : List (Str × V) → List (Str × D) → Prop
  | nil : RpF W F ad [] []
  | cons {f : Str} {v : V} {d : D} {vs : List (Str × V)} {ds : List (Str × D)} : Rp W F ad v d → RpF W F ad vs ds → RpF W F ad ((f, v) :: vs) ((f, d) :: ds)
end
/-- F grows -/
def Le (F F' : Hp) : Prop := ∀ a o, F a = some o → F' a = some o
theorem Le.refl (F : Hp) : Le F F := fun _ _ h => h
theorem Le.trans {F G H : Hp} (a : Le F G) (b : Le G H) : Le F H := fun x o h => b x o (a x o h)
theorem Rd.le {F F' : Hp} (l : Le F F') {a : Addr} {u : HO} (h : Rd F a u) : Rd F' a u := by
  rcases h with h | ⟨o, h⟩
  · exact .inl (l _ _ h)
  · exact .inr ⟨o, l _ _ h⟩
theorem sqT_le {K : PySem.W.Frag} {F F' : Hp} (l : Le F F') {a : Addr} {xs : List V} (h : SqT K F a xs) : SqT K F' a xs := by
  rcases h with h | h
  · exact .inl (Rd.le l h)
  · exact .inr h
theorem sqL_le {K : PySem.W.Frag} {F F' : Hp} (l : Le F F') {a : Addr} {xs : List V} (h : SqL K F a xs) : SqL K F' a xs := by
  rcases h with h | h
  · exact .inl (Rd.le l h)
  · exact .inr h
section
variable {W : Wd} {F F' : Hp} {ad ad' : List Addr}
theorem pre_get {α : Type} {l l' : List α} (p : l <+: l') {k : Nat} {x : α} (h : l[k]? = some x) : l'[k]? = some x := by
  obtain ⟨r, rfl⟩ := p
  have hk : k < l.length := (List.getElem?_eq_some_iff.mp h).1
  rw [List.getElem?_append_left hk]
  exact h
mutual
theorem Rp.le (l : Le F F') (p : ad <+: ad') : ∀ {v : V} {d : D}, Rp W F ad v d → Rp W F' ad' v d
  | _, _, .non => .non
  | _, _, .bl b => .bl b
  | _, _, .int i => .int i
  | _, _, .str x => .str x
  | _, _, .tup h r => .tup (TupF.le l h) (RpL.le l p r)
  | _, _, .lst h r => .lst (l _ _ h) (RpL.le l p r)
  | _, _, .scr h => .scr (sqL_le l h)
  | _, _, .obj h c r => .obj (l _ _ h) c (RpF.le l p r)
  | _, _, .ref h => .ref (pre_get p h)
theorem RpL.le (l : Le F F') (p : ad <+: ad') : ∀ {v : List V} {d : List D}, RpL W F ad v d → RpL W F' ad' v d
  | _, _, .nil => .nil
  | _, _, .cons a r => .cons (Rp.le l p a) (RpL.le l p r)
theorem RpF.le (l : Le F F') (p : ad <+: ad') : ∀ {v : List (Str × V)} {d : List (Str × D)}, RpF W F ad v d → RpF W F' ad' v d
  | _, _, .nil => .nil
  | _, _, .cons a r => .cons (Rp.le l p a) (RpF.le l p r)
end
theorem RpL.len : ∀ {vs : List V} {ds : List D}, RpL W F ad vs ds → vs.length = ds.length
  | _, _, .nil => rfl
  | _, _, .cons _ r => congrArg (· + 1) r.len
theorem RpL.get : ∀ {vs : List V} {ds : List D} {i : Nat} {d : D}, RpL W F ad vs ds → ds[i]? = some d → ∃ v, vs[i]? = some v ∧ Rp W F ad v d
  | _, _, _, _, .nil, h => by simp at h
  | _, _, 0, d, .cons a r, h => by
    simp at h
    subst h
    exact ⟨_, rfl, a⟩
  | _, _, i + 1, d, .cons a r, h => by
    obtain ⟨v, h1, h2⟩ := RpL.get (i := i) r (by simpa using h)
    exact ⟨v, by simpa using h1, h2⟩
theorem RpL.append : ∀ {vs ws : List V} {ds es : List D}, RpL W F ad vs ds → RpL W F ad ws es → RpL W F ad (vs ++ ws) (ds ++ es)
  | _, _, _, _, .nil, h => h
  | _, _, _, _, .cons a r, h => .cons a (r.append h)
theorem RpL.take : ∀ {vs : List V} {ds : List D} (n : Nat), RpL W F ad vs ds → RpL W F ad (vs.take n) (ds.take n)
  | _, _, 0, _ => .nil
  | _, _, _ + 1, .nil => .nil
  | _, _, n + 1, .cons a r => .cons a (r.take n)
theorem RpL.drop : ∀ {vs : List V} {ds : List D} (n : Nat), RpL W F ad vs ds → RpL W F ad (vs.drop n) (ds.drop n)
  | _, _, 0, h => h
  | _, _, _ + 1, .nil => .nil
  | _, _, n + 1, .cons a r => r.drop n
theorem RpL.set : ∀ {vs : List V} {ds : List D} {v : V} {d : D} (n : Nat), RpL W F ad vs ds → Rp W F ad v d → RpL W F ad (vs.set n v) (ds.set n d)
  | _, _, _, _, _, .nil, _ => .nil
  | _, _, _, _, 0, .cons a r, h => .cons h r
  | _, _, _, _, n + 1, .cons a r, h => .cons a (r.set n h)
theorem RpL.rev : ∀ {vs : List V} {ds : List D}, RpL W F ad vs ds → RpL W F ad vs.reverse ds.reverse
  | _, _, .nil => .nil
  | _, _, .cons a r => by
    rw [List.reverse_cons, List.reverse_cons]
    exact r.rev.append (.cons a .nil)
theorem RpL.erase : ∀ {vs : List V} {ds : List D} (n : Nat), RpL W F ad vs ds → RpL W F ad (vs.eraseIdx n) (ds.eraseIdx n)
  | _, _, _, .nil => .nil
  | _, _, 0, .cons a r => r
  | _, _, n + 1, .cons a r => .cons a (r.erase n)
theorem RpL.rep : ∀ {vs : List V} {ds : List D} (n : Nat), RpL W F ad vs ds → RpL W F ad (List.replicate n vs).flatten (List.replicate n ds).flatten
  | _, _, 0, _ => .nil
  | _, _, n + 1, h => by
    rw [List.replicate_succ, List.replicate_succ, List.flatten_cons, List.flatten_cons]
    exact h.append (h.rep n)
theorem RpL.dropLast {vs : List V} {ds : List D} (h : RpL W F ad vs ds) : RpL W F ad vs.dropLast ds.dropLast := by
  rw [List.dropLast_eq_take, List.dropLast_eq_take, h.len]
  exact h.take _
theorem RpL.ints : ∀ (ns : List Int), RpL W F ad (ns.map V.int) (ns.map D.int)
  | [] => .nil
  | n :: ns => .cons (.int n) (RpL.ints ns)
theorem RpF.look : ∀ {vf : List (Str × V)} {fs : List (Str × D)} {f : Str} {d : D}, RpF W F ad vf fs → fs.lookup f = some d → ∃ v, vf.lookup f = some v ∧ Rp W F ad v d
  | _, _, _, _, .nil, h => by simp at h
  | _, _, f, d, @RpF.cons _ _ _ g v d' vs ds a r, h => by
    rw [List.lookup_cons] at h ⊢
    cases e : (f == g) with
    | true =>
      rw [e] at h
      simp at h
      subst h
      exact ⟨v, by simp, a⟩
    | false =>
      rw [e] at h
      obtain ⟨v, h1, h2⟩ := r.look (by simpa using h)
      exact ⟨v, by simpa using h1, h2⟩
theorem RpF.lookN : ∀ {vf : List (Str × V)} {fs : List (Str × D)} {f : Str}, RpF W F ad vf fs → fs.lookup f = none → vf.lookup f = none
  | _, _, _, .nil, h => by simp
  | _, _, f, @RpF.cons _ _ _ g v d' vs ds a r, h => by
    rw [List.lookup_cons] at h ⊢
    cases e : (f == g) with
    | true =>
      rw [e] at h
      simp at h
    | false =>
      rw [e] at h
      simpa using r.lookN (by simpa using h)
theorem RpF.len : ∀ {vf : List (Str × V)} {fs : List (Str × D)}, RpF W F ad vf fs → vf.length = fs.length
  | _, _, .nil => rfl
  | _, _, .cons _ r => congrArg (· + 1) r.len
theorem RpF.put {f : Str} {v : V} {d : D} (h : Rp W F ad v d) : ∀ {vf : List (Str × V)} {fs : List (Str × D)}, RpF W F ad vf fs → RpF W F ad (putF f v vf) (putD f d fs)
  | _, _, .nil => .cons h .nil
  | _, _, @RpF.cons _ _ _ g x y vs ds a r => by
    show RpF W F ad (if g = f then (g, v) :: vs else (g, x) :: putF f v vs) (if g = f then (g, d) :: ds else (g, y) :: putD f d ds)
    by_cases e : g = f
    · rw [if_pos e, if_pos e]
      exact .cons h r
    · rw [if_neg e, if_neg e]
      exact .cons a (r.put h)
end
/-- whose is an address: a slot's, a cell's -/
inductive Own where
  | s (i : Nat) | k (k : Nat)
  deriving DecidableEq
/-- the ghost: what never changes, the cells' addresses, the owners -/
structure Wr where
  F : Hp
  ad : List Addr
  ow : Addr → Option Own
  me : Option Addr := none
def CellAt (W : Wd) (w : Wr) (H : Hp) (a : Addr) : Cell → Prop
  | .lst ds => ∃ vs, H a = some (.lst vs) ∧ RpL W w.F w.ad vs ds
  | .ob c fs => ∃ C dx vf, H a = some (.ins C dx vf) ∧ W.cls c = some C ∧ RpF W w.F w.ad vf fs
def SlotOk (W : Wd) (w : Wr) (H : Hp) (i : Nat) (x : Option (Option V)) : Slot → Prop
  | .emp => True
  | .val d => ∃ v, x = some (some v) ∧ Rp W w.F w.ad v d
  | .own c => ∃ a, x = some (some (.ref a)) ∧ CellAt W w H a c ∧ w.ow a = some (.s i)
structure Rel (W : Wd) (w : Wr) (S : Store) (H : Hp) (σ : St) (e : Env) : Prop where
  sub : Le w.F H
  len : e.length = σ.length
  slot : ∀ i, SlotOk W w H i σ[i]? (e.getD i .emp)
  cell : ∀ k c, S.getD k none = some c → ∃ a, w.ad[k]? = some a ∧ CellAt W w H a c ∧ w.ow a = some (.k k)
  adl : w.ad.length = S.length
  fow : ∀ a o, w.F a = some o → w.ow a = none
  owl : ∀ a x, w.ow a = some x → ∃ o, H a = some o
  self : ∀ i c fs a, e.getD i .emp = .own (.ob c fs) → σ[i]? = some (some (.ref a)) → w.me = some a
structure Ext (w : Wr) (H : Hp) (w' : Wr) (H' : Hp) : Prop where
  F : Le w.F w'.F
  ad : w.ad <+: w'.ad
  fo : ∀ a o, H a = some o → w.F a = none → w.ow a = none → H' a = some o ∧ w'.F a = none ∧ w'.ow a = none
  me : w'.me = w.me
theorem Ext.refl (w : Wr) (H : Hp) : Ext w H w H := ⟨Le.refl _, List.prefix_refl _, fun _ _ a b c => ⟨a, b, c⟩, rfl⟩
theorem Ext.trans {w w1 w2 : Wr} {H H1 H2 : Hp} (a : Ext w H w1 H1) (b : Ext w1 H1 w2 H2) : Ext w H w2 H2 :=
  ⟨a.F.trans b.F, a.ad.trans b.ad, fun x o h1 h2 h3 => let ⟨p, q, r⟩ := a.fo x o h1 h2 h3; b.fo x o p q r, b.me.trans a.me⟩
/-- an exception: its class, its own dict's fields -/
def ExR (W : Wd) (w : Wr) (x : Ex) (cls : Value) (dd : Option Addr) (H : Hp) : Prop :=
  ∃ C, W.cls x.c = some C ∧ cls = .ref C ∧ ((x.fs = [] ∧ dd = none) ∨ ∃ d vf, dd = some d ∧ H d = some (.xd vf) ∧ (∀ f v, x.fs.lookup f = some v → ∃ u, vf.lookup f = some u ∧ Rp W w.F w.ad u v) ∧ w.F d = none)
def Post {α : Type} (W : Wd) (Wx : L2.WX) (σ : St) (w : Wr) (H : Hp) (r : Out α) (K : α → Env → Store → Wr → Hp → Prop) : Prop := match r with
  | .ok a e S => ∀ w' H', Ext w H w' H' → Rel W w' S H' σ e → K a e S w' H'
  | .rz x e S => ∀ w' H' cls dd, Ext w H w' H' → Rel W w' S H' σ e → ExR W w' x cls dd H' → Wx cls dd σ H'
  | .bad => False
section
variable {α β : Type} {W : Wd} {Wx : L2.WX} {σ : St} {w w1 : Wr} {H H1 : Hp} {K : α → Env → Store → Wr → Hp → Prop}
theorem Post.ext {r : Out α} (x : Ext w H w1 H1) (h : Post W Wx σ w H r K) : Post W Wx σ w1 H1 r K := by
  cases r with
  | ok a e S => exact fun w' H' y rel => h w' H' (x.trans y) rel
  | rz z e S => exact fun w' H' cls dd y rel er => h w' H' cls dd (x.trans y) rel er
  | bad => exact h
theorem Post.imp {K' : α → Env → Store → Wr → Hp → Prop} {r : Out α} (h : Post W Wx σ w H r K) (k : ∀ a e S w' H', Ext w H w' H' → Rel W w' S H' σ e → K a e S w' H' → K' a e S w' H') : Post W Wx σ w H r K' := by
  cases r with
  | ok a e S => exact fun w' H' y rel => k a e S w' H' y rel (h w' H' y rel)
  | rz z e S => exact h
  | bad => exact h
theorem Post.bind {m : M α} {f : α → M β} {e : Env} {S : Store} {K : β → Env → Store → Wr → Hp → Prop} (h : Post W Wx σ w H ((M.bind m f) e S) K) :
    Post W Wx σ w H (m e S) (fun a e1 S1 w1 H1 => Post W Wx σ w1 H1 (f a e1 S1) K) := by
  unfold M.bind at h
  cases q : m e S with
  | ok a e1 S1 =>
    rw [q] at h
    exact fun w1 H1 y rel => Post.ext y h
  | rz x e1 S1 =>
    rw [q] at h
    exact h
  | bad =>
    rw [q] at h
    exact h
end
end Vm
namespace Vm
open PySem PySem.Spec L2
open PyProof.Rows hiding St
section
variable {W : Wd} {w w' : Wr} {H H' : Hp} {a : Addr} {c : Cell} {σ : St} {e : Env} {S : Store} {i : Nat}
theorem CellAt.to (h : CellAt W w H a c) (ha : ∀ o, H a = some o → H' a = some o) (l : Le w.F w'.F) (p : w.ad <+: w'.ad) : CellAt W w' H' a c := by
  cases c with
  | lst ds =>
    obtain ⟨vs, h1, h2⟩ := h
    exact ⟨vs, ha _ h1, h2.le l p⟩
  | ob c fs =>
    obtain ⟨C, dx, vf, h1, h2, h3⟩ := h
    exact ⟨C, dx, vf, ha _ h1, h2, h3.le l p⟩
theorem CellAt.there (h : CellAt W w H a c) : ∃ o, H a = some o := by
  cases c with
  | lst ds =>
    obtain ⟨vs, h1, h2⟩ := h
    exact ⟨_, h1⟩
  | ob c fs =>
    obtain ⟨C, dx, vf, h1, h2, h3⟩ := h
    exact ⟨_, h1⟩
theorem SlotOk.to {x : Option (Option V)} {s : Slot} (h : SlotOk W w H i x s) (l : Le w.F w'.F) (p : w.ad <+: w'.ad) (k : ∀ a, w.ow a = some (.s i) → w'.ow a = some (.s i) ∧ ∀ o, H a = some o → H' a = some o) : SlotOk W w' H' i x s := by
  cases s with
  | emp => exact True.intro
  | val d =>
    obtain ⟨v, h1, h2⟩ := h
    exact ⟨v, h1, h2.le l p⟩
  | own c =>
    obtain ⟨a, h1, h2, h3⟩ := h
    obtain ⟨k1, k2⟩ := k a h3
    exact ⟨a, h1, h2.to k2 l p, k1⟩
theorem getD_ne {e : Env} {i : Nat} {x : Slot} (h : e.getD i .emp = x) (n : x ≠ .emp) : e[i]? = some x ∧ i < e.length := by
  rw [List.getD_eq_getElem?_getD] at h
  cases q : e[i]? with
  | none =>
    rw [q] at h
    exact absurd h.symm n
  | some y =>
    rw [q] at h
    have h2 : y = x := h
    rw [← h2]
    exact ⟨rfl, (List.getElem?_eq_some_iff.mp q).1⟩
theorem getD_set (e : Env) (i j : Nat) (x : Slot) : (e.set i x).getD j .emp = if i = j ∧ i < e.length then x else e.getD j .emp := by
  rw [List.getD_eq_getElem?_getD, List.getD_eq_getElem?_getD, List.getElem?_set]
  by_cases h : i = j
  · subst h
    by_cases h2 : i < e.length
    · simp [h2]
    · simp [h2]
  · simp [h]
theorem Rel.selfV (R : Rel W w S H σ e) {d : D} : ∀ j c fs a, (e.set i (.val d)).getD j .emp = .own (.ob c fs) → σ[j]? = some (some (.ref a)) → w.me = some a := fun j c fs a h1 h2 => by
  rw [getD_set] at h1
  split at h1
  · cases h1
  · exact R.self j c fs a h1 h2
theorem Rel.selfS (R : Rel W w S H σ e) {d : D} {v : Option V} : ∀ j c fs a, (e.set i (.val d)).getD j .emp = .own (.ob c fs) → (σ.set i v)[j]? = some (some (.ref a)) → w.me = some a := fun j c fs a h1 h2 => by
  rw [getD_set] at h1
  split at h1
  · cases h1
  · rename_i hn
    by_cases z : i = j
    · subst z
      have hl : ¬ i < e.length := fun q => hn ⟨rfl, q⟩
      have := (getD_ne h1 (fun z => nomatch z)).2
      exact absurd this hl
    · rw [List.getElem?_set_ne z] at h2
      exact R.self j c fs a h1 h2
theorem Rel.selfE (R : Rel W w S H σ e) {v : Option V} : ∀ j c fs a, (e.set i .emp).getD j .emp = .own (.ob c fs) → (σ.set i v)[j]? = some (some (.ref a)) → w.me = some a := fun j c fs a h1 h2 => by
  rw [getD_set] at h1
  split at h1
  · cases h1
  · rename_i hn
    by_cases z : i = j
    · subst z
      have hl : ¬ i < e.length := fun q => hn ⟨rfl, q⟩
      have := (getD_ne h1 (fun z => nomatch z)).2
      exact absurd this hl
    · rw [List.getElem?_set_ne z] at h2
      exact R.self j c fs a h1 h2
def ofrz (c : Cell) (o : HO) : Prop := match c with
  | .lst _ => ∃ vs, o = .lst vs
  | .ob _ _ => ∃ C dx vf, o = .ins C dx vf
/-- a slot's own is frozen -/
theorem Rel.freeze (R : Rel W w S H σ e) (h : e.getD i .emp = .own c) : ∃ w' v, Ext w H w' H ∧ Rel W w' S H σ (e.set i (.val c.toD)) ∧ σ[i]? = some (some v) ∧ Rp W w'.F w'.ad v c.toD := by
  have hs := R.slot i
  rw [h] at hs
  obtain ⟨a, h1, h2, h3⟩ := hs
  obtain ⟨o, ho⟩ := h2.there
  have hi := (getD_ne h (fun z => nomatch z)).2
  have fa : w.F a = none := by
    cases q : w.F a with
    | none => rfl
    | some u =>
      have z := R.fow a u q
      rw [h3] at z
      cases z
  have le : Le w.F (upd w.F a o) := fun b u q => by
    rw [upd_ne (fun z => by rw [z, fa] at q; cases q)]
    exact q
  have rp : Rp W (upd w.F a o) w.ad (.ref a) c.toD := by
    cases c with
    | lst ds =>
      obtain ⟨vs, k1, k2⟩ := h2
      rw [k1] at ho
      cases ho
      exact .lst upd_same (k2.le le (List.prefix_refl _))
    | ob c fs =>
      obtain ⟨C, dx, vf, k1, k2, k3⟩ := h2
      rw [k1] at ho
      cases ho
      exact .obj upd_same k2 (k3.le le (List.prefix_refl _))
  refine ⟨⟨upd w.F a o, w.ad, fun b => if b = a then none else w.ow b, w.me⟩, .ref a, ⟨le, List.prefix_refl _, fun b u k1 k2 k3 => ⟨k1, ?_, ?_⟩, rfl⟩, ⟨?_, ?_, ?_, ?_, R.adl, ?_, ?_, R.selfV⟩, h1, rp⟩
  · show upd w.F a o b = none
    rw [upd_ne (fun z => by rw [z, h3] at k3; cases k3)]
    exact k2
  · show (if b = a then none else w.ow b) = none
    split
    · rfl
    · exact k3
  · intro b u q
    by_cases z : b = a
    · rw [z] at q ⊢
      have q2 : upd w.F a o a = some u := q
      rw [upd_same] at q2
      rw [ho]
      exact q2
    · have q2 : upd w.F a o b = some u := q
      rw [upd_ne z] at q2
      exact R.sub b u q2
  · rw [List.length_set]
    exact R.len
  · intro j
    rw [getD_set]
    by_cases z : i = j ∧ i < e.length
    · rw [if_pos z]
      obtain ⟨rfl, _⟩ := z
      exact ⟨_, h1, rp⟩
    · rw [if_neg z]
      have nj : i ≠ j := fun q => z ⟨q, hi⟩
      refine (R.slot j).to le (List.prefix_refl _) fun b q => ⟨?_, fun u k => k⟩
      have nb : b ≠ a := fun q2 => by
        rw [q2, h3] at q
        have q3 := Own.s.inj (Option.some.inj q)
        exact nj q3
      show (if b = a then none else w.ow b) = _
      rw [if_neg nb]
      exact q
  · intro k c' q
    obtain ⟨b, k1, k2, k3⟩ := R.cell k c' q
    have nb : b ≠ a := fun q2 => by
      rw [q2, h3] at k3
      cases k3
    refine ⟨b, k1, k2.to (fun u k => k) le (List.prefix_refl _), ?_⟩
    show (if b = a then none else w.ow b) = _
    rw [if_neg nb]
    exact k3
  · intro b u q
    show (if b = a then none else w.ow b) = none
    by_cases z : b = a
    · rw [if_pos z]
    · rw [if_neg z]
      have q2 : upd w.F a o b = some u := q
      rw [upd_ne z] at q2
      exact R.fow b u q2
  · intro b x q
    have q2 : (if b = a then none else w.ow b) = some x := q
    by_cases z : b = a
    · rw [if_pos z] at q2
      cases q2
    · rw [if_neg z] at q2
      exact R.owl b x q2
/-- a new thing that is never changed -/
theorem Rel.lay (R : Rel W w S H σ e) {p : Addr} {o : HO} (hp : H p = none) : Ext w H ⟨upd w.F p o, w.ad, w.ow, w.me⟩ (upd H p o) ∧ Rel W ⟨upd w.F p o, w.ad, w.ow, w.me⟩ S (upd H p o) σ e := by
  have fp : w.F p = none := by
    cases q : w.F p with
    | none => rfl
    | some u =>
      have z := R.sub p u q
      rw [hp] at z
      cases z
  have op : w.ow p = none := by
    cases q : w.ow p with
    | none => rfl
    | some u =>
      obtain ⟨o, z⟩ := R.owl p u q
      rw [hp] at z
      cases z
  have le : Le w.F (upd w.F p o) := fun b u q => by
    rw [upd_ne (fun z => by rw [z, fp] at q; cases q)]
    exact q
  have hk : ∀ b u, H b = some u → upd H p o b = some u := fun b u q => by
    rw [upd_ne (fun z => by rw [z, hp] at q; cases q)]
    exact q
  refine ⟨⟨le, List.prefix_refl _, fun b u k1 k2 k3 => ⟨hk b u k1, ?_, k3⟩, rfl⟩, ⟨?_, R.len, fun j => (R.slot j).to le (List.prefix_refl _) fun b q => ⟨q, fun u k => hk b u k⟩, fun k c' q => ?_, R.adl, fun b u q => ?_, fun b x q => ?_, R.self⟩⟩
  · show upd w.F p o b = none
    rw [upd_ne (fun z => by rw [z, hp] at k1; cases k1)]
    exact k2
  · intro b u q
    by_cases z : b = p
    · subst z
      have q2 : upd w.F b o b = some u := q
      rw [upd_same] at q2
      rw [upd_same]
      exact q2
    · have q2 : upd w.F p o b = some u := q
      rw [upd_ne z] at q2
      exact hk b u (R.sub b u q2)
  · obtain ⟨b, k1, k2, k3⟩ := R.cell k c' q
    exact ⟨b, k1, k2.to (fun u k => hk b u k) le (List.prefix_refl _), k3⟩
  · by_cases z : b = p
    · rw [z]
      exact op
    · have q2 : upd w.F p o b = some u := q
      rw [upd_ne z] at q2
      exact R.fow b u q2
  · obtain ⟨u, k⟩ := R.owl b x q
    exact ⟨u, hk b u k⟩
/-- a new thing that is looked at no more -/
theorem Rel.drop (R : Rel W w S H σ e) {p : Addr} {o : HO} (hp : H p = none) : Ext w H w (upd H p o) ∧ Rel W w S (upd H p o) σ e := by
  have hk : ∀ b u, H b = some u → upd H p o b = some u := fun b u q => by
    rw [upd_ne (fun z => by rw [z, hp] at q; cases q)]
    exact q
  refine ⟨⟨Le.refl _, List.prefix_refl _, fun b u k1 k2 k3 => ⟨hk b u k1, k2, k3⟩, rfl⟩, ⟨fun b u q => hk b u (R.sub b u q), R.len, fun j => (R.slot j).to (Le.refl _) (List.prefix_refl _) fun b q => ⟨q, fun u k => hk b u k⟩, fun k c' q => ?_, R.adl, R.fow, fun b x q => ?_, R.self⟩⟩
  · obtain ⟨b, k1, k2, k3⟩ := R.cell k c' q
    exact ⟨b, k1, k2.to (fun u k => hk b u k) (Le.refl _) (List.prefix_refl _), k3⟩
  · obtain ⟨u, k⟩ := R.owl b x q
    exact ⟨u, hk b u k⟩
/-- a slot stored -/
theorem Rel.put (R : Rel W w S H σ e) {v : V} {d : D} (hv : Rp W w.F w.ad v d) : Rel W w S H (σ.set i (some v)) (e.set i (.val d)) := by
  refine ⟨R.sub, by rw [List.length_set, List.length_set]; exact R.len, fun j => ?_, R.cell, R.adl, R.fow, R.owl, R.selfS⟩
  rw [getD_set]
  by_cases z : i = j ∧ i < e.length
  · rw [if_pos z]
    obtain ⟨rfl, z2⟩ := z
    refine ⟨v, ?_, hv⟩
    rw [List.getElem?_set_self (by rw [← R.len]; exact z2)]
  · rw [if_neg z]
    by_cases nj : i = j
    · subst nj
      have nl : ¬ i < e.length := fun q => z ⟨rfl, q⟩
      rw [List.getD_eq_getElem?_getD, show e[i]? = none from List.getElem?_eq_none (by omega)]
      exact True.intro
    · rw [List.getElem?_set_ne nj]
      exact R.slot j
/-- a slot forgotten -/
theorem Rel.wipe1 (R : Rel W w S H σ e) : Rel W w S H (σ.set i none) (e.set i .emp) := by
  refine ⟨R.sub, by rw [List.length_set, List.length_set]; exact R.len, fun j => ?_, R.cell, R.adl, R.fow, R.owl, R.selfE⟩
  rw [getD_set]
  by_cases z : i = j ∧ i < e.length
  · rw [if_pos z]
    exact True.intro
  · rw [if_neg z]
    by_cases nj : i = j
    · subst nj
      have nl : ¬ i < e.length := fun q => z ⟨rfl, q⟩
      rw [List.getD_eq_getElem?_getD, show e[i]? = none from List.getElem?_eq_none (by omega)]
      exact True.intro
    · rw [List.getElem?_set_ne nj]
      exact R.slot j
/-- a new list becomes a slot's own -/
theorem Rel.mine (R : Rel W w S H σ e) {p : Addr} {o : HO} (hp : H p = none) (hc : CellAt W w (upd H p o) p c) (hm : ∀ k fs, c = .ob k fs → w.me = some p) :
    Ext w H ⟨w.F, w.ad, fun b => if b = p then some (.s i) else if w.ow b = some (.s i) then none else w.ow b, w.me⟩ (upd H p o) ∧ Rel W ⟨w.F, w.ad, fun b => if b = p then some (.s i) else if w.ow b = some (.s i) then none else w.ow b, w.me⟩ S (upd H p o) (σ.set i (some (.ref p))) (e.set i (.own c)) := by
  have hk : ∀ b u, H b = some u → upd H p o b = some u := fun b u q => by
    rw [upd_ne (fun z => by rw [z, hp] at q; cases q)]
    exact q
  have np : ∀ {b u}, H b = some u → b ≠ p := fun {b u} q z => by rw [z, hp] at q; cases q
  refine ⟨⟨Le.refl _, List.prefix_refl _, fun b u k1 k2 k3 => ⟨hk b u k1, k2, ?_⟩, rfl⟩, ⟨fun b u q => hk b u (R.sub b u q), by rw [List.length_set, List.length_set]; exact R.len, fun j => ?_, fun k c' q => ?_, R.adl, fun b u q => ?_, fun b x q => ?_, fun j k fs b h1 h2 => ?_⟩⟩
  · show (if b = p then some (.s i) else if w.ow b = some (.s i) then none else w.ow b) = none
    rw [if_neg (np k1)]
    split
    · rfl
    · exact k3
  · rw [getD_set]
    by_cases z : i = j ∧ i < e.length
    · rw [if_pos z]
      obtain ⟨rfl, z2⟩ := z
      refine ⟨p, ?_, hc.to (fun _ k => k) (Le.refl _) (List.prefix_refl _), ?_⟩
      · rw [List.getElem?_set_self (by rw [← R.len]; exact z2)]
      · show (if p = p then some (Own.s i) else _) = _
        rw [if_pos rfl]
    · rw [if_neg z]
      by_cases nj : i = j
      · subst nj
        have nl : ¬ i < e.length := fun q => z ⟨rfl, q⟩
        rw [List.getD_eq_getElem?_getD, show e[i]? = none from List.getElem?_eq_none (by omega)]
        exact True.intro
      · rw [List.getElem?_set_ne nj]
        refine (R.slot j).to (Le.refl _) (List.prefix_refl _) fun b q => ⟨?_, fun u k => hk b u k⟩
        obtain ⟨u, hu⟩ := R.owl b _ q
        show (if b = p then some (.s i) else if w.ow b = some (.s i) then none else w.ow b) = _
        rw [if_neg (np hu), if_neg (fun z => nj (by rw [q] at z; exact (Own.s.inj (Option.some.inj z)).symm))]
        exact q
  · obtain ⟨b, k1, k2, k3⟩ := R.cell k c' q
    obtain ⟨u, hu⟩ := k2.there
    refine ⟨b, k1, k2.to (fun u k => hk b u k) (Le.refl _) (List.prefix_refl _), ?_⟩
    show (if b = p then some (.s i) else if w.ow b = some (.s i) then none else w.ow b) = _
    rw [if_neg (np hu), if_neg (fun z => by rw [k3] at z; cases z)]
    exact k3
  · have nb := np (R.sub b u q)
    show (if b = p then some (.s i) else if w.ow b = some (.s i) then none else w.ow b) = none
    rw [if_neg nb, R.fow b u q]
    rfl
  · have q2 : (if b = p then some (.s i) else if w.ow b = some (.s i) then none else w.ow b) = some x := q
    by_cases z : b = p
    · rw [z]
      exact ⟨o, upd_same⟩
    · rw [if_neg z] at q2
      split at q2
      · cases q2
      · obtain ⟨u, k⟩ := R.owl b x q2
        exact ⟨u, hk b u k⟩
  · rw [getD_set] at h1
    split at h1
    · rename_i z
      obtain ⟨rfl, z2⟩ := z
      cases h1
      rw [List.getElem?_set_self (by rw [← R.len]; exact z2)] at h2
      cases h2
      exact hm _ _ rfl
    · rename_i hn
      by_cases z : i = j
      · subst z
        exact absurd (getD_ne h1 (fun z => nomatch z)).2 fun q => hn ⟨rfl, q⟩
      · rw [List.getElem?_set_ne z] at h2
        exact R.self j k fs b h1 h2
/-- a new list becomes a cell -/
theorem Rel.newC (R : Rel W w S H σ e) {p : Addr} {o : HO} (hp : H p = none) (hc : CellAt W w (upd H p o) p c) :
    Ext w H ⟨w.F, w.ad ++ [p], fun b => if b = p then some (.k S.length) else w.ow b, w.me⟩ (upd H p o) ∧ Rel W ⟨w.F, w.ad ++ [p], fun b => if b = p then some (.k S.length) else w.ow b, w.me⟩ (S ++ [some c]) (upd H p o) σ e ∧ Rp W w.F (w.ad ++ [p]) (.ref p) (.ref S.length) := by
  have hk : ∀ b u, H b = some u → upd H p o b = some u := fun b u q => by
    rw [upd_ne (fun z => by rw [z, hp] at q; cases q)]
    exact q
  have np : ∀ {b u}, H b = some u → b ≠ p := fun {b u} q z => by rw [z, hp] at q; cases q
  have pre : w.ad <+: w.ad ++ [p] := List.prefix_append _ _
  have last : (w.ad ++ [p])[S.length]? = some p := by
    rw [← R.adl, List.getElem?_append_right (Nat.le_refl _), Nat.sub_self]
    rfl
  refine ⟨⟨Le.refl _, pre, fun b u k1 k2 k3 => ⟨hk b u k1, k2, ?_⟩, rfl⟩, ⟨fun b u q => hk b u (R.sub b u q), R.len, fun j => ?_, fun k c' q => ?_, ?_, fun b u q => ?_, fun b x q => ?_, R.self⟩, .ref last⟩
  · show (if b = p then some (.k S.length) else w.ow b) = none
    rw [if_neg (np k1)]
    exact k3
  · refine (R.slot j).to (Le.refl _) pre fun b q => ⟨?_, fun u k => hk b u k⟩
    obtain ⟨u, hu⟩ := R.owl b _ q
    show (if b = p then some (.k S.length) else w.ow b) = _
    rw [if_neg (np hu)]
    exact q
  · by_cases z : k < S.length
    · rw [List.getD_eq_getElem?_getD, List.getElem?_append_left z, ← List.getD_eq_getElem?_getD] at q
      obtain ⟨b, k1, k2, k3⟩ := R.cell k c' q
      obtain ⟨u, hu⟩ := k2.there
      refine ⟨b, pre_get pre k1, k2.to (fun u k => hk b u k) (Le.refl _) pre, ?_⟩
      show (if b = p then some (.k S.length) else w.ow b) = _
      rw [if_neg (np hu)]
      exact k3
    · rw [List.getD_eq_getElem?_getD, List.getElem?_append_right (by omega)] at q
      have ek : k = S.length := by
        by_cases z2 : k - S.length = 0
        · omega
        · obtain ⟨m, hm⟩ : ∃ m, k - S.length = m + 1 := ⟨k - S.length - 1, by omega⟩
          rw [hm] at q
          simp at q
      subst ek
      rw [Nat.sub_self] at q
      have ec : some c = some c' := by simpa using q
      cases ec
      refine ⟨p, last, hc.to (fun _ k => k) (Le.refl _) pre, ?_⟩
      show (if p = p then some (Own.k S.length) else _) = _
      rw [if_pos rfl]
  · show (w.ad ++ [p]).length = (S ++ [some c]).length
    rw [List.length_append, List.length_append, R.adl]
    rfl
  · show (if b = p then some (.k S.length) else w.ow b) = none
    rw [if_neg (np (R.sub b u q))]
    exact R.fow b u q
  · have q2 : (if b = p then some (.k S.length) else w.ow b) = some x := q
    by_cases z : b = p
    · rw [z]
      exact ⟨o, upd_same⟩
    · rw [if_neg z] at q2
      obtain ⟨u, k⟩ := R.owl b x q2
      exact ⟨u, hk b u k⟩
/-- what stands at a place -/
def PlAt (W : Wd) (w : Wr) (H : Hp) (S : Store) (σ : St) (e : Env) (a : Addr) (c : Cell) : Pl → Prop
  | .s i => e.getD i .emp = .own c ∧ CellAt W w H a c ∧ w.ow a = some (.s i) ∧ σ[i]? = some (some (.ref a))
  | .k k => S.getD k none = some c ∧ CellAt W w H a c ∧ w.ow a = some (.k k) ∧ w.ad[k]? = some a
def setE (p : Pl) (c : Cell) (e : Env) : Env := match p with
  | .s i => e.set i (.own c)
  | .k _ => e
def setSt (p : Pl) (c : Cell) (s : Store) : Store := match p with
  | .s _ => s
  | .k k => s.set k (some c)
theorem getDS (S : Store) (k l : Nat) (x : Option Cell) : (S.set k x).getD l none = if k = l ∧ k < S.length then x else S.getD l none := by
  rw [List.getD_eq_getElem?_getD, List.getD_eq_getElem?_getD, List.getElem?_set]
  by_cases h : k = l
  · subst h
    by_cases h2 : k < S.length
    · simp [h2]
    · simp [h2]
  · simp [h]
/-- .. is changed -/
theorem Rel.change (R : Rel W w S H σ e) {p : Pl} {c' : Cell} {o : HO} (hp : PlAt W w H S σ e a c p) (hc : CellAt W w (upd H a o) a c') (hk' : ∀ k fs, c' = .ob k fs → ∃ k fs, c = .ob k fs) :
    Ext w H w (upd H a o) ∧ Rel W w (setSt p c' S) (upd H a o) σ (setE p c' e) := by
  obtain ⟨x, ox, xs, xk⟩ : ∃ x, w.ow a = some x ∧ (∀ i, p = .s i → x = .s i) ∧ (∀ k, p = .k k → x = .k k) := by
    cases p with
    | s i =>
      refine ⟨_, hp.2.2.1, fun j z => ?_, fun j z => ?_⟩
      · cases z
        rfl
      · cases z
    | k k =>
      refine ⟨_, hp.2.2.1, fun j z => ?_, fun j z => ?_⟩
      · cases z
      · cases z
        rfl
  have fa : w.F a = none := by
    cases q : w.F a with
    | none => rfl
    | some u =>
      have z := R.fow a u q
      rw [ox] at z
      cases z
  have hk : ∀ b u, b ≠ a → H b = some u → upd H a o b = some u := fun b u n q => by
    rw [upd_ne n]
    exact q
  have nf : ∀ {b u}, w.F b = some u → b ≠ a := fun {b u} q z => by rw [z, fa] at q; cases q
  have ne : ∀ {b y}, w.ow b = some y → y ≠ x → b ≠ a := fun {b y} q n z => by
    rw [z, ox] at q
    exact n (Option.some.inj q).symm
  -- a slot that is not the place
  have oslot : ∀ j, p ≠ .s j → SlotOk W w (upd H a o) j σ[j]? (e.getD j .emp) := fun j n => by
    refine (R.slot j).to (Le.refl _) (List.prefix_refl _) fun b q => ⟨q, fun u k => hk b u (ne q fun z => ?_) k⟩
    cases p with
    | s i =>
      have := xs i rfl
      rw [this] at z
      exact n (by rw [Own.s.inj z])
    | k k =>
      have := xk k rfl
      rw [this] at z
      cases z
  have ocell : ∀ k c2, p ≠ .k k → S.getD k none = some c2 → ∃ a', w.ad[k]? = some a' ∧ CellAt W w (upd H a o) a' c2 ∧ w.ow a' = some (.k k) := fun k c2 n q => by
    obtain ⟨b, k1, k2, k3⟩ := R.cell k c2 q
    refine ⟨b, k1, k2.to (fun u z => hk b u (ne k3 fun y => ?_) z) (Le.refl _) (List.prefix_refl _), k3⟩
    cases p with
    | s i =>
      have := xs i rfl
      rw [this] at y
      cases y
    | k k' =>
      have := xk k' rfl
      rw [this] at y
      exact n (by rw [Own.k.inj y])
  refine ⟨⟨Le.refl _, List.prefix_refl _, fun b u k1 k2 k3 => ⟨hk b u (fun z => by rw [z, ox] at k3; cases k3) k1, k2, k3⟩, rfl⟩, ⟨fun b u q => hk b u (nf q) (R.sub b u q), ?_, fun j => ?_, fun k c2 q => ?_, ?_, R.fow, fun b y q => ?_, fun j k fs b h1 h2 => ?_⟩⟩
  · cases p with
    | s i => show (e.set i _).length = _; rw [List.length_set]; exact R.len
    | k k => exact R.len
  · cases p with
    | s i =>
      obtain ⟨p1, p2, p3, p4⟩ := hp
      show SlotOk W w _ j _ ((e.set i (.own c')).getD j .emp)
      rw [getD_set]
      by_cases z : i = j ∧ i < e.length
      · rw [if_pos z]
        obtain ⟨rfl, z2⟩ := z
        exact ⟨a, p4, hc, p3⟩
      · rw [if_neg z]
        exact oslot j fun q => z ⟨Pl.s.inj q, (getD_ne p1 fun y => nomatch y).2⟩
    | k k => exact oslot j fun q => nomatch q
  · cases p with
    | s i => exact ocell k c2 (fun z => nomatch z) q
    | k k' =>
      obtain ⟨p1, p2, p3, p4⟩ := hp
      have q2 : (S.set k' (some c')).getD k none = some c2 := q
      rw [getDS] at q2
      by_cases z : k' = k ∧ k' < S.length
      · rw [if_pos z] at q2
        obtain ⟨rfl, _⟩ := z
        cases q2
        exact ⟨a, p4, hc, p3⟩
      · rw [if_neg z] at q2
        have hl : k' < S.length := by
          rw [List.getD_eq_getElem?_getD] at p1
          cases y : S[k']? with
          | none =>
            rw [y] at p1
            cases p1
          | some u => exact (List.getElem?_eq_some_iff.mp y).1
        exact ocell k c2 (fun y => z ⟨Pl.k.inj y, hl⟩) q2
  · cases p with
    | s i => exact R.adl
    | k k => show _ = (S.set k _).length; rw [List.length_set]; exact R.adl
  · by_cases z : b = a
    · rw [z]
      exact ⟨o, upd_same⟩
    · obtain ⟨u, k⟩ := R.owl b y q
      exact ⟨u, hk b u z k⟩
  · cases p with
    | k _ => exact R.self j k fs b h1 h2
    | s i =>
      obtain ⟨p1, p2, p3, p4⟩ := hp
      have g1 : (e.set i (.own c')).getD j .emp = .own (.ob k fs) := h1
      clear h1
      rw [getD_set] at g1
      by_cases z : i = j ∧ i < e.length
      · rw [if_pos z] at g1
        obtain ⟨k0, fs0, e0⟩ := hk' k fs (by injection g1)
        rw [e0] at p1
        rw [← z.1] at h2
        exact R.self i k0 fs0 b p1 h2
      · rw [if_neg z] at g1
        exact R.self j k fs b g1 h2
end
end Vm
namespace Vm
open PySem PySem.Spec L2
open PyProof.Rows hiding St
/-- a view of a value -/
def VwR (W : Wd) (w : Wr) (H : Hp) (v : V) : Vw → Prop
  | .d d => Rp W w.F w.ad v d
  | .c c => ∃ a, v = .ref a ∧ CellAt W w H a c
def HdR (W : Wd) (w : Wr) (σ : St) (v : V) : Hd → Prop
  | .s i => σ[i]? = some (some v)
  | .d d => Rp W w.F w.ad v d
def Run {α : Type} (W : Wd) (Wx : L2.WX) (σ : St) (H : Hp) (m : M α) (K : α → Env → Store → Wr → Hp → Prop) : Prop := ∃ w e S, Rel W w S H σ e ∧ Post W Wx σ w H (m e S) K
def tV (W : Wd) (Wx : L2.WX) (m : M D) : TE := fun σ H Q => Run W Wx σ H m fun d _ _ w H' => ∀ v, Rp W w.F w.ad v d → Q v H'
def tHd (W : Wd) (Wx : L2.WX) (m : M Hd) : TE := fun σ H Q => Run W Wx σ H m fun d _ _ w H' => ∀ v, HdR W w σ v d → Q v H'
/-- a value's judgement, a handle's -/
def JV (W : Wd) (X : Cx) (t : Expr) (m : M D) : Prop := ∀ Wx, Takes X Wx → PE X t (tV W Wx m)
def JH (W : Wd) (X : Cx) (t : Expr) (m : M Hd) : Prop := ∀ Wx, Takes X Wx → PE X t (tHd W Wx m)
theorem PE.imp {X : Cx} {e : Expr} {t t' : TE} (h : PE X e t) (k : ∀ σ H Q, t' σ H Q → t σ H Q) : PE X e t' := ⟨fun pins s σ H Q I q => h.run pins s σ H Q I (k σ H Q q)⟩
section
variable {α β : Type} {W : Wd} {Wx : L2.WX} {σ : St} {w w' : Wr} {H H' : Hp} {e : Env} {S : Store} {v : V}
theorem bind_ok {m : M α} {f : α → M β} {a : α} {e' : Env} {S' : Store} (h : m e S = .ok a e' S') : M.bind m f e S = f a e' S' := by
  unfold M.bind
  rw [h]
theorem bind_bad {m : M α} {f : α → M β} (h : m e S = .bad) : M.bind m f e S = .bad := by
  unfold M.bind
  rw [h]
theorem bind_as {m m' : M α} {f : α → M β} (h : m e S = m' e S) : M.bind m f e S = M.bind m' f e S := by
  unfold M.bind
  rw [h]
theorem VwR.le (x : Ext w H w' H') {vw : Vw} {d : D} (h : Rp W w.F w.ad v d) : Rp W w'.F w'.ad v d := h.le x.F x.ad
theorem HdR.ext (x : Ext w H w' H') {h : Hd} (r : HdR W w σ v h) : HdR W w' σ v h := by
  cases h with
  | s i => exact r
  | d d => exact Rp.le x.F x.ad r
theorem tV.mono {m : M D} {Q Q' : VK} (h : tV W Wx m σ H Q) (k : ∀ v H', Q v H' → Q' v H') : tV W Wx m σ H Q' := by
  obtain ⟨w, e, S, R, p⟩ := h
  exact ⟨w, e, S, R, p.imp fun a e S w' H' _ _ z v r => k v H' (z v r)⟩
theorem tHd.mono {m : M Hd} {Q Q' : VK} (h : tHd W Wx m σ H Q) (k : ∀ v H', Q v H' → Q' v H') : tHd W Wx m σ H Q' := by
  obtain ⟨w, e, S, R, p⟩ := h
  exact ⟨w, e, S, R, p.imp fun a e S w' H' _ _ z v r => k v H' (z v r)⟩
/-- a value, then what is done with it -/
theorem Post.va {m : M D} {f : D → M β} {K : β → Env → Store → Wr → Hp → Prop} (R : Rel W w S H σ e) (h : Post W Wx σ w H ((M.bind m f) e S) K) :
    tV W Wx m σ H fun v H1 => ∃ d w1 e1 S1, Rel W w1 S1 H1 σ e1 ∧ Ext w H w1 H1 ∧ Rp W w1.F w1.ad v d ∧ Post W Wx σ w1 H1 (f d e1 S1) K :=
  ⟨w, e, S, R, h.bind.imp fun a e1 S1 w1 H1 x R1 p v r => ⟨a, w1, e1, S1, R1, x, r, p⟩⟩
theorem Post.hd {m : M Hd} {f : Hd → M β} {K : β → Env → Store → Wr → Hp → Prop} (R : Rel W w S H σ e) (h : Post W Wx σ w H ((M.bind m f) e S) K) :
    tHd W Wx m σ H fun v H1 => ∃ d w1 e1 S1, Rel W w1 S1 H1 σ e1 ∧ Ext w H w1 H1 ∧ HdR W w1 σ v d ∧ Post W Wx σ w1 H1 (f d e1 S1) K :=
  ⟨w, e, S, R, h.bind.imp fun a e1 S1 w1 H1 x R1 p v r => ⟨a, w1, e1, S1, R1, x, r, p⟩⟩
theorem Post.now {a : α} {K : α → Env → Store → Wr → Hp → Prop} (R : Rel W w S H σ e) (h : Post W Wx σ w H (M.pure a e S) K) : K a e S w H := h w H (Ext.refl w H) R
theorem Post.opt {o : Option α} {f : α → M β} {K : β → Env → Store → Wr → Hp → Prop} (h : Post W Wx σ w H ((M.bind (M.opt o) f) e S) K) : ∃ a, o = some a ∧ Post W Wx σ w H (f a e S) K := by
  cases o with
  | none => exact h.elim
  | some a => exact ⟨a, rfl, h⟩
theorem Post.opt1 {o : Option α} {K : α → Env → Store → Wr → Hp → Prop} (h : Post W Wx σ w H (M.opt o e S) K) : ∃ a, o = some a ∧ Post W Wx σ w H (M.pure a e S) K := by
  cases o with
  | none => exact h.elim
  | some a => exact ⟨a, rfl, h⟩
theorem resD_post {d : D} {f : Vw → M β} {K : β → Env → Store → Wr → Hp → Prop} (R : Rel W w S H σ e) (r : Rp W w.F w.ad v d) (h : Post W Wx σ w H ((M.bind (resD d) f) e S) K) :
    ∃ vw, VwR W w H v vw ∧ Post W Wx σ w H (f vw e S) K := by
  cases d with
  | ref k =>
    cases q : S.getD k none with
    | none =>
      have z : resD (.ref k) e S = .bad := by
        unfold resD
        dsimp only
        rw [q]
      rw [bind_bad z] at h
      exact h.elim
    | some c =>
      have z : resD (.ref k) e S = .ok (.c c) e S := by
        unfold resD
        dsimp only
        rw [q]
      rw [bind_ok z] at h
      cases r with
      | ref ha =>
        obtain ⟨a, k1, k2, _⟩ := R.cell k c q
        rw [ha] at k1
        cases k1
        exact ⟨.c c, ⟨_, rfl, k2⟩, h⟩
  | non => exact ⟨.d _, r, h⟩
  | bl b => exact ⟨.d _, r, h⟩
  | int b => exact ⟨.d _, r, h⟩
  | str b => exact ⟨.d _, r, h⟩
  | tup b => exact ⟨.d _, r, h⟩
  | lst b => exact ⟨.d _, r, h⟩
  | scr b => exact ⟨.d _, r, h⟩
  | obj b c => exact ⟨.d _, r, h⟩
theorem res_post {hd : Hd} {f : Vw → M β} {K : β → Env → Store → Wr → Hp → Prop} (R : Rel W w S H σ e) (r : HdR W w σ v hd) (h : Post W Wx σ w H ((M.bind (res hd) f) e S) K) :
    ∃ vw, VwR W w H v vw ∧ Post W Wx σ w H (f vw e S) K := by
  cases hd with
  | d d => exact resD_post R r h
  | s i =>
    have hs := R.slot i
    have r' : σ[i]? = some (some v) := r
    cases q : e.getD i .emp with
    | emp =>
      have z : res (.s i) e S = .bad := by
        unfold res
        dsimp only
        rw [q]
      rw [bind_bad z] at h
      exact h.elim
    | val d =>
      have z : res (.s i) e S = resD d e S := by
        unfold res
        dsimp only
        rw [q]
      rw [bind_as z] at h
      rw [q] at hs
      obtain ⟨v', k1, k2⟩ := hs
      rw [r'] at k1
      cases k1
      exact resD_post R k2 h
    | own c =>
      have z : res (.s i) e S = .ok (.c c) e S := by
        unfold res
        dsimp only
        rw [q]
      rw [bind_ok z] at h
      rw [q] at hs
      obtain ⟨a, k1, k2, _⟩ := hs
      rw [r'] at k1
      cases k1
      exact ⟨.c c, ⟨a, rfl, k2⟩, h⟩
end
section
variable {W : Wd} {X : Cx}
theorem jv_name {i : Nat} {x : Str} {pos : Pos} (hN : X.N[i]? = some x) (hv : Vis X.env.scope x) (hd : (x == ("__debug__" : Str)) = false) (hc : (x == ("__classdict__" : Str)) = false) : JV W X (.Name x pos) (readV i) := fun Wx _ =>
  PE.imp (pe_var hN hv hd hc) fun σ H Q ⟨w, e, S, R, h⟩ => by
    have hs := R.slot i
    unfold readV at h
    cases q : e.getD i .emp with
    | emp =>
      rw [q] at h
      exact h.elim
    | val d =>
      rw [q] at h hs
      obtain ⟨v, k1, k2⟩ := hs
      exact ⟨v, k1, h w H (Ext.refl w H) R v k2⟩
    | own c =>
      rw [q] at h
      obtain ⟨w', v, x, R', k1, k2⟩ := R.freeze q
      exact ⟨v, k1, h w' H x R' v k2⟩
theorem jh_name {i : Nat} {x : Str} {pos : Pos} (hN : X.N[i]? = some x) (hv : Vis X.env.scope x) (hd : (x == ("__debug__" : Str)) = false) (hc : (x == ("__classdict__" : Str)) = false) : JH W X (.Name x pos) (hdV i) := fun Wx _ =>
  PE.imp (pe_var hN hv hd hc) fun σ H Q ⟨w, e, S, R, h⟩ => by
    have hs := R.slot i
    unfold hdV at h
    cases q : e.getD i .emp with
    | emp =>
      rw [q] at h
      exact h.elim
    | val d =>
      rw [q] at h hs
      obtain ⟨v, k1, k2⟩ := hs
      exact ⟨v, k1, h w H (Ext.refl w H) R v k1⟩
    | own c =>
      rw [q] at h hs
      obtain ⟨a, k1, k2⟩ := hs
      exact ⟨_, k1, h w H (Ext.refl w H) R _ k1⟩
/-- a handle of a value -/
theorem jh_of {t : Expr} {m : M D} (h : JV W X t m) : JH W X t (m.bind fun d => .pure (.d d)) := fun Wx tk =>
  PE.imp (h Wx tk) fun σ H Q ⟨w, e, S, R, p⟩ => (Post.va R p).mono fun v H1 ⟨d, w1, e1, S1, R1, x, r, p1⟩ => p1.now R1 v r
theorem jv_bad {t : Expr} : JV W X t .bad := fun Wx tk => ⟨fun pins s σ H Q I ⟨w, e, S, R, p⟩ => p.elim⟩
theorem jv_cst {d : D} {v : V} {t : Expr} (h : PE X t (tC v)) (r : ∀ F ad, Rp W F ad v d) : JV W X t (.pure d) := fun Wx tk =>
  PE.imp h fun σ H Q ⟨w, e, S, R, p⟩ => p.now R v (r _ _)
end
end Vm
namespace Vm
open PySem PySem.Spec L2
open PyProof.Rows hiding St
section
variable {W : Wd} {w : Wr} {H : Hp} {F : Hp} {ad : List Addr}
mutual
theorem Rp.dp (l : Le F H) : ∀ {v : V} {d : D}, Rp W F ad v d → d.py.plain = true → Dp W.K H v d.py
  | _, _, .non, _ => by
    simp only [D.py]
    exact .non
  | _, _, .bl b, _ => by
    simp only [D.py]
    exact .bl b
  | _, _, .int i, _ => by
    simp only [D.py]
    exact .int i
  | _, _, .str x, _ => by
    simp only [D.py]
    exact .str x
  | _, _, .tup h r, p => by
    simp only [D.py] at p ⊢
    exact .tup (TupF.sq l h) (RpL.dp l r (by simpa only [PyData.plain] using p))
  | _, _, .lst h r, p => by
    simp only [D.py] at p ⊢
    exact .lst (SqL.of (l _ _ h)) (RpL.dp l r (by simpa only [PyData.plain] using p))
  | _, _, .scr h, p => by
    simp only [D.py, PyData.plain] at p
    cases p
  | _, _, .obj h c r, p => by
    simp only [D.py, PyData.plain] at p
    cases p
  | _, _, .ref h, p => by
    simp only [D.py, PyData.plain] at p
    cases p
theorem RpL.dp (l : Le F H) : ∀ {vs : List V} {ds : List D}, RpL W F ad vs ds → PyData.plainAll (D.pys ds) = true → DpAll W.K H vs (D.pys ds)
  | _, _, .nil, _ => by
    simp only [D.pys]
    exact .nil
  | _, _, .cons a r, p => by
    simp only [D.pys, PyData.plainAll, Bool.and_eq_true] at p ⊢
    exact .cons (Rp.dp l a p.1) (RpL.dp l r p.2)
end
theorem okP_plain {d : PyData} (h : okP d = true) : d.plain = true := (Bool.and_eq_true_iff.mp h).1
theorem okP_depth {d : PyData} (h : okP d = true) : d.depth ≤ 64 := of_decide_eq_true (Bool.and_eq_true_iff.mp h).2
/-- a view's data -/
theorem VwR.dp (l : Le w.F H) {v : V} {vw : Vw} {d : D} (r : VwR W w H v vw) (e : vw.toD = some d) (p : d.py.plain = true) : Dp W.K H v d.py := by
  cases vw with
  | d x =>
    cases e
    exact Rp.dp l r p
  | c c =>
    cases c with
    | lst xs =>
      cases e
      obtain ⟨a, rfl, vs, h1, h2⟩ := r
      simp only [D.py] at p ⊢
      exact .lst (SqL.of h1) (RpL.dp l h2 (by simpa only [PyData.plain] using p))
    | ob c fs => cases e
/-- a view's items: a list, a tuple to be read -/
theorem VwR.items (l : Le w.F H) {v : V} {vw : Vw} {p : Bool × List D} (r : VwR W w H v vw) (e : vw.items = some p) : ∃ a vs, v = .ref a ∧ RpL W w.F w.ad vs p.2 ∧ (if p.1 = true then SqT W.K H a vs else SqL W.K H a vs) := by
  cases vw with
  | d x =>
    cases x with
    | tup xs =>
      cases e
      cases r with
      | tup h r => exact ⟨_, _, rfl, r, TupF.sq l h⟩
    | lst xs =>
      cases e
      cases r with
      | lst h r => exact ⟨_, _, rfl, r, SqL.of (l _ _ h)⟩
    | scr ns =>
      cases e
      cases r with
      | scr h => exact ⟨_, _, rfl, .ints ns, sqL_le l h⟩
    | non => cases e
    | bl _ => cases e
    | int _ => cases e
    | str _ => cases e
    | obj _ _ => cases e
    | ref _ => cases e
  | c c =>
    cases c with
    | lst xs =>
      cases e
      obtain ⟨a, rfl, vs, h1, h2⟩ := r
      exact ⟨a, vs, rfl, h2, SqL.of h1⟩
    | ob c fs => cases e
end
section
variable {X : Cx}
def rOr (r r' : R2) : R2 := fun x y H Q => r x y H Q ∨ r' x y H Q
theorem opr_or {f : Value → Value → Sem Value} {r r' : R2} (h : OpR X f r) (h' : OpR X f r') : OpR X f (rOr r r') := OpR.or h h'
theorem room65 {k : Nat} {A : Around} (r : Room k A) : A.units + 66 < cLine := by
  have := r.un
  omega
/-- == of plain data -/
def rEqP (K : PySem.W.Frag) (neg : Bool) : R2 := fun x y H Q => ∃ d e, Dp K H x d ∧ Dp K H y e ∧ okP d = true ∧ okP e = true ∧ Q (.bl (if neg then !PyData.eqv d e else PyData.eqv d e)) H
theorem min_depth {d e : PyData} (h : okP d = true) : min d.depth e.depth ≤ 64 := Nat.le_trans (Nat.min_le_left _ _) (okP_depth h)
theorem op_eqP (hu : X.A.units + 66 < cLine) : OpR X (compareOp .Eq) (rEqP X.K false) := by
  intro pins s σ H x y v u Q I rx ry h
  obtain ⟨d, e, hd, he, sd, se, q⟩ := h
  obtain ⟨as, r1⟩ := Dp.reads I d x v hd rx
  obtain ⟨bs, r2⟩ := Dp.reads I e y u he ry
  have := min_depth (e := e) sd
  exact SeqAt.eq_plain r1 r2 (okP_plain sd) (okP_plain se) (by omega) ⟨.bl _, H, I, rfl, q⟩
theorem op_neP (hu : X.A.units + 66 < cLine) : OpR X (compareOp .NotEq) (rEqP X.K true) := by
  intro pins s σ H x y v u Q I rx ry h
  obtain ⟨d, e, hd, he, sd, se, q⟩ := h
  obtain ⟨as, r1⟩ := Dp.reads I d x v hd rx
  obtain ⟨bs, r2⟩ := Dp.reads I e y u he ry
  have := min_depth (e := e) sd
  exact SeqAt.ne_plain r1 r2 (okP_plain sd) (okP_plain se) (by omega) ⟨.bl _, H, I, rfl, q⟩
/-- in, in a list or a tuple of plain data -/
def rInP (K : PySem.W.Frag) (neg : Bool) : R2 := fun x y H Q => ∃ d ds, Dp K H x d ∧ (Dp K H y (.list ds) ∨ Dp K H y (.tuple ds)) ∧ okP d = true ∧ okP (.list ds) = true ∧ Q (.bl (if neg then !ds.any fun z => PyData.eqv z d else ds.any fun z => PyData.eqv z d)) H
theorem op_inP (hu : X.A.units + 66 < cLine) : OpR X (compareOp .In) (rInP X.K false) := by
  intro pins s σ H x y v u Q I rx ry h
  obtain ⟨d, ds, hd, he, sd, se, q⟩ := h
  obtain ⟨as, r1⟩ := Dp.reads I d x v hd rx
  have h1 := okP_depth sd
  have hp : PyData.plainAll ds = true := by simpa only [PyData.plain] using okP_plain se
  rcases he with he | he
  · obtain ⟨bs, r2⟩ := Dp.reads I _ y u he ry
    exact SeqAt.in_list_data r2 r1 hp (okP_plain sd) (by have := Nat.min_le_right (PyData.depthAll ds) d.depth; omega) ⟨.bl _, H, I, rfl, q⟩
  · obtain ⟨bs, r2⟩ := Dp.reads I _ y u he ry
    exact SeqAt.in_tuple_data r2 r1 hp (okP_plain sd) (by have := Nat.min_le_right (PyData.depthAll ds) d.depth; omega) ⟨.bl _, H, I, rfl, q⟩
theorem op_ninP (hu : X.A.units + 66 < cLine) : OpR X (compareOp .NotIn) (rInP X.K true) := by
  intro pins s σ H x y v u Q I rx ry h
  obtain ⟨d, ds, hd, he, sd, se, q⟩ := h
  obtain ⟨as, r1⟩ := Dp.reads I d x v hd rx
  have h1 := okP_depth sd
  have hp : PyData.plainAll ds = true := by simpa only [PyData.plain] using okP_plain se
  rcases he with he | he
  · obtain ⟨bs, r2⟩ := Dp.reads I _ y u he ry
    exact SeqAt.notIn_list_data r2 r1 hp (okP_plain sd) (by have := Nat.min_le_right (PyData.depthAll ds) d.depth; omega) ⟨.bl _, H, I, rfl, q⟩
  · obtain ⟨bs, r2⟩ := Dp.reads I _ y u he ry
    exact SeqAt.notIn_tuple_data r2 r1 hp (okP_plain sd) (by have := Nat.min_le_right (PyData.depthAll ds) d.depth; omega) ⟨.bl _, H, I, rfl, q⟩
end
section
variable {W : Wd} {X : Cx} {Wx : L2.WX} {σ : St} {w w' : Wr} {H H' : Hp} {e : Env} {S : Store} {x y : V}
/-- what an operator's rule owes -/
def OpOk (W : Wd) (r : R2) (f : Vw → Vw → Option D) : Prop :=
  ∀ (σ : St) (w : Wr) (H : Hp) (e : Env) (S : Store) (x y : V) (vx vy : Vw) (d : D) (Q : VK), Rel W w S H σ e → VwR W w H x vx → VwR W w H y vy → f vx vy = some d →
    (∀ v w' H', Ext w H w' H' → Rel W w' S H' σ e → Rp W w'.F w'.ad v d → Q v H') → r x y H Q
theorem OpOk.or1 {r r' : R2} {f : Vw → Vw → Option D} (h : OpOk W r f) : OpOk W (rOr r r') f := fun σ w H e S x y vx vy d Q R a b q k => .inl (h σ w H e S x y vx vy d Q R a b q k)
/-- the two operands, read -/
theorem two {ma mb : M Hd} {β : Type} {f : Vw → Vw → M β} {K : β → Env → Store → Wr → Hp → Prop} (R : Rel W w S H σ e)
    (h : Post W Wx σ w H ((ma.bind fun x => mb.bind fun y => (res x).bind fun x => (res y).bind fun y => f x y) e S) K) :
    tHd W Wx ma σ H fun x H1 => tHd W Wx mb σ H1 fun y H2 => ∃ vx vy w2 e2 S2, Rel W w2 S2 H2 σ e2 ∧ Ext w H w2 H2 ∧ VwR W w2 H2 x vx ∧ VwR W w2 H2 y vy ∧ Post W Wx σ w2 H2 (f vx vy e2 S2) K :=
  (Post.hd R h).mono fun x H1 ⟨hx, w1, e1, S1, R1, x1, r1, p1⟩ => (Post.hd R1 p1).mono fun y H2 ⟨hy, w2, e2, S2, R2, x2, r2, p2⟩ => by
    obtain ⟨vx, rx, p3⟩ := res_post R2 (r1.ext x2) p2
    obtain ⟨vy, ry, p4⟩ := res_post R2 r2 p3
    exact ⟨vx, vy, w2, e2, S2, R2, x1.trans x2, rx, ry, p4⟩
theorem jv_bin {a b : Expr} {op : Operator} {p : Pos} {o : Bop} {ma mb : M Hd} {r : R2} (ja : JH W X a ma) (jb : JH W X b mb) (ho : OpR X (binaryOp op) r) (ok : OpOk W r (bop o)) :
    JV W X (.BinOp a op b p) (ma.bind fun x => mb.bind fun y => (res x).bind fun x => (res y).bind fun y => M.opt (bop o x y)) := fun Wx tk =>
  PE.imp (pe_op ho (ja Wx tk) (jb Wx tk)) fun σ H Q ⟨w, e, S, R, h⟩ => (two R h).mono fun x H1 h1 => h1.mono fun y H2 ⟨vx, vy, w2, e2, S2, R2, x2, rx, ry, p4⟩ => by
    obtain ⟨d, ed, p5⟩ := p4.opt1
    exact ok σ w2 H2 e2 S2 x y vx vy d Q R2 rx ry ed fun v w' H' x' R' rv => p5 w' H' x' R' v rv
/-- a comparison -/
def CmOk (W : Wd) (r : R2) (f : Vw → Vw → Option Bool) : Prop :=
  ∀ (w : Wr) (H : Hp) (x y : V) (vx vy : Vw) (b : Bool) (Q : VK), Le w.F H → VwR W w H x vx → VwR W w H y vy → f vx vy = some b → Q (.bl b) H → r x y H Q
theorem jv_cmp {a b : Expr} {op : CmpOp} {p : Pos} {o : Cop} {ma mb : M Hd} {r : R2} (ja : JH W X a ma) (jb : JH W X b mb) (ho : OpR X (compareOp op) r) (ok : CmOk W r (cmpV o)) (hm : behindInMarks op b = false) :
    JV W X (.Compare a [op] [b] p) (ma.bind fun x => mb.bind fun y => (res x).bind fun x => (res y).bind fun y => (M.opt (cmpV o x y)).bind fun b => .pure (.bl b)) := fun Wx tk =>
  PE.imp (pe_cmpR ho (ja Wx tk) (jb Wx tk) hm) fun σ H Q ⟨w, e, S, R, h⟩ => (two R h).mono fun x H1 h1 => h1.mono fun y H2 ⟨vx, vy, w2, e2, S2, R2, x2, rx, ry, p4⟩ => by
    obtain ⟨d, ed, p5⟩ := p4.opt
    exact ok w2 H2 x y vx vy d Q R2.sub rx ry ed (p5.now R2 _ (.bl d))
end
end Vm
namespace Vm
open PySem PySem.Spec L2
open PyProof.Rows hiding St
section
variable {W : Wd}
/-- a new list, a new tuple, frozen -/
theorem lay_lst {w : Wr} {S : Store} {H : Hp} {σ : St} {e : Env} {vs : List V} {ds : List D} {Q : VK} (R : Rel W w S H σ e) (r : RpL W w.F w.ad vs ds) (k : ∀ v w' H', Ext w H w' H' → Rel W w' S H' σ e → Rp W w'.F w'.ad v (.lst ds) → Q v H') (p : Addr) (hp : H p = none) :
    Q (.ref p) (upd H p (.lst vs)) := by
  obtain ⟨x, R'⟩ := R.lay (o := .lst vs) hp
  exact k _ _ _ x R' (.lst upd_same (r.le x.F x.ad))
theorem lay_tup {w : Wr} {S : Store} {H : Hp} {σ : St} {e : Env} {vs : List V} {ds : List D} {Q : VK} (R : Rel W w S H σ e) (r : RpL W w.F w.ad vs ds) (k : ∀ v w' H', Ext w H w' H' → Rel W w' S H' σ e → Rp W w'.F w'.ad v (.tup ds) → Q v H') : NewT vs H Q := by
  intro p o hp ho
  obtain ⟨x, R'⟩ := R.lay (o := .frz o (.tup vs)) hp
  exact k _ _ _ x R' (.tup (.inl ⟨o, upd_same, ho⟩) (r.le x.F x.ad))
theorem sz24 : sizeLine = 2 ^ 24 := rfl
def rStrAdd : R2 := fun x y H Q => ∃ i j, x = .str i ∧ y = .str j ∧ i.length + j.length ≤ sizeLine ∧ Q (.str (i ++ j)) H
theorem lstOf_r {w : Wr} {H : Hp} (l : Le w.F H) {v : V} {vw : Vw} {xs : List D} (r : VwR W w H v vw) (e : lstOf vw = some xs) : ∃ a vs, v = .ref a ∧ H a = some (.lst vs) ∧ RpL W w.F w.ad vs xs := by
  cases vw with
  | d x =>
    cases x with
    | lst ys =>
      cases e
      cases r with
      | lst h r => exact ⟨_, _, rfl, l _ _ h, r⟩
    | _ => cases e
  | c c =>
    cases c with
    | lst ys =>
      cases e
      obtain ⟨a, rfl, vs, h1, h2⟩ := r
      exact ⟨a, vs, rfl, h1, h2⟩
    | ob _ _ => cases e
/-- what bop can be -/
theorem bop_cases {o : Bop} {x y : Vw} {d : D} (h : bop o x y = some d) :
    (∃ i j k, x = .d (.int i) ∧ y = .d (.int j) ∧ iOp o i j = some k ∧ d = .int k) ∨
    (o = .add ∧ ∃ a b, x = .d (.str a) ∧ y = .d (.str b) ∧ a.length + b.length ≤ 2 ^ 24 ∧ d = .str (a ++ b)) ∨
    (o = .add ∧ ∃ a b, x = .d (.tup a) ∧ y = .d (.tup b) ∧ a.length + b.length ≤ 2 ^ 24 ∧ d = .tup (a ++ b)) ∨
    (o = .add ∧ ∃ a b, lstOf x = some a ∧ lstOf y = some b ∧ a.length + b.length ≤ 2 ^ 24 ∧ d = .lst (a ++ b)) ∨
    (o = .mul ∧ ∃ a k, lstOf x = some a ∧ y = .d (.int k) ∧ (-(2 ^ 63) ≤ k ∧ k < 2 ^ 63 ∧ a.length * k.toNat ≤ 2 ^ 24) ∧ d = .lst (List.replicate k.toNat a).flatten) := by
  unfold bop at h
  split at h
  · rename_i i j
    cases q : iOp o i j with
    | none => rw [q] at h; cases h
    | some k =>
      rw [q] at h
      cases h
      exact .inl ⟨i, j, k, rfl, rfl, q, rfl⟩
  · split at h
    · split at h
      · cases h
        exact .inr (.inl ⟨rfl, _, _, rfl, rfl, by assumption, rfl⟩)
      · cases h
    · cases h
  · split at h
    · split at h
      · cases h
        exact .inr (.inr (.inl ⟨rfl, _, _, rfl, rfl, by assumption, rfl⟩))
      · cases h
    · cases h
  iterate 4
    · split at h
      · split at h
        · cases h
          exact .inr (.inr (.inr (.inl ⟨rfl, _, _, rfl, rfl, by assumption, rfl⟩)))
        · cases h
      · cases h
  iterate 2
    · split at h
      · split at h
        · cases h
          exact .inr (.inr (.inr (.inr ⟨rfl, _, _, rfl, rfl, by assumption, rfl⟩)))
        · cases h
      · cases h
  · cases h
def rAdd4 (K : PySem.W.Frag) : R2 := rOr (rI0 fun i j => .int (i + j)) (rOr rCat (rOr (rCatF K) rStrAdd))
theorem op_add4 {X : Cx} : OpR X (binaryOp .Add) (rAdd4 X.K) := opr_or op_add (opr_or op_cat (opr_or op_catF op_add_str))
theorem ok_add : OpOk W (rAdd4 W.K) (bop .add) := by
  intro σ w H e S x y vx vy d Q R rx ry h k
  rcases bop_cases h with ⟨i, j, z, rfl, rfl, q, rfl⟩ | ⟨_, a, b, rfl, rfl, hz, rfl⟩ | ⟨_, a, b, rfl, rfl, hz, rfl⟩ | ⟨_, a, b, ha, hb, hz, rfl⟩ | ⟨z, _⟩
  · cases rx
    cases ry
    cases q
    exact .inl ⟨i, j, rfl, rfl, k _ w H (Ext.refl _ _) R (.int _)⟩
  · cases rx
    cases ry
    exact .inr (.inr (.inr ⟨a, b, rfl, rfl, hz, k _ w H (Ext.refl _ _) R (.str _)⟩))
  · cases rx with
    | tup h1 r1 =>
      cases ry with
      | tup h2 r2 =>
        refine .inr (.inr (.inl ⟨_, _, _, _, rfl, rfl, TupF.sq R.sub h1, TupF.sq R.sub h2, by rw [r1.len, r2.len]; exact hz, fun z => ?_, fun z1 z2 => ?_, fun z1 z2 => lay_tup R (r1.append r2) k⟩))
        · subst z
          cases r1
          exact k _ w H (Ext.refl _ _) R (.tup h2 r2)
        · subst z2
          cases r2
          rw [List.append_nil] at k
          exact k _ w H (Ext.refl _ _) R (.tup h1 r1)
  · obtain ⟨p, vs, rfl, h1, r1⟩ := lstOf_r R.sub rx ha
    obtain ⟨q, us, rfl, h2, r2⟩ := lstOf_r R.sub ry hb
    exact .inr (.inl ⟨_, _, _, _, rfl, rfl, h1, h2, by rw [r1.len, r2.len]; exact hz, fun p hp => lay_lst R (r1.append r2) k p hp⟩)
  · cases z
theorem ok_sub : OpOk W (rI0 fun i j => .int (i - j)) (bop .sub) := by
  intro σ w H e S x y vx vy d Q R rx ry h k
  rcases bop_cases h with ⟨i, j, n, rfl, rfl, q, rfl⟩ | ⟨hh, _⟩ | ⟨hh, _⟩ | ⟨hh, _⟩ | ⟨hh, _⟩ <;> (try (exact nomatch hh))
  cases rx
  cases ry
  obtain rfl := Option.some.inj (show some (i - j) = some n from q)
  exact ⟨i, j, rfl, rfl, k _ w H (Ext.refl _ _) R (.int _)⟩
def rMul2 : R2 := rOr (rI CMulW fun i j => .int (i * j)) rRep
theorem op_mul2 {X : Cx} : OpR X (binaryOp .Mult) rMul2 := opr_or op_mulW op_rep
theorem ok_mul : OpOk W rMul2 (bop .mul) := by
  intro σ w H e S x y vx vy d Q R rx ry h k
  rcases bop_cases h with ⟨i, j, n, rfl, rfl, q, rfl⟩ | ⟨hh, _⟩ | ⟨hh, _⟩ | ⟨hh, _⟩ | ⟨_, a, n, ha, rfl, hz, rfl⟩ <;> (try (exact nomatch hh))
  · cases rx
    cases ry
    have q2 : (if i.natAbs.log2 + j.natAbs.log2 < 1000000 then some (i * j) else none) = some n := q
    split at q2
    · cases q2
      exact .inl ⟨i, j, rfl, rfl, by assumption, k _ w H (Ext.refl _ _) R (.int _)⟩
    · cases q2
  · cases ry
    obtain ⟨p, vs, rfl, h1, r1⟩ := lstOf_r R.sub rx ha
    exact .inr ⟨_, _, _, rfl, rfl, h1, hz.1, hz.2.1, by rw [r1.len]; exact hz.2.2, fun p hp => lay_lst R (r1.rep _) k p hp⟩
theorem ok_fdiv : OpOk W (rI CDivW fun i j => .int (i / j)) (bop .fdiv) := by
  intro σ w H e S x y vx vy d Q R rx ry h k
  rcases bop_cases h with ⟨i, j, n, rfl, rfl, q, rfl⟩ | ⟨hh, _⟩ | ⟨hh, _⟩ | ⟨hh, _⟩ | ⟨hh, _⟩ <;> (try (exact nomatch hh))
  cases rx
  cases ry
  have q2 : (if 0 < j ∧ j.natAbs.log2 < 9000 then some (i / j) else none) = some n := q
  split at q2
  · cases q2
    exact ⟨i, j, rfl, rfl, by assumption, k _ w H (Ext.refl _ _) R (.int _)⟩
  · cases q2
theorem ok_mod : OpOk W (rI (fun _ j => 0 < j) fun i j => .int (i % j)) (bop .mod) := by
  intro σ w H e S x y vx vy d Q R rx ry h k
  rcases bop_cases h with ⟨i, j, n, rfl, rfl, q, rfl⟩ | ⟨hh, _⟩ | ⟨hh, _⟩ | ⟨hh, _⟩ | ⟨hh, _⟩ <;> (try (exact nomatch hh))
  cases rx
  cases ry
  have q2 : (if 0 < j then some (i % j) else none) = some n := q
  split at q2
  · cases q2
    exact ⟨i, j, rfl, rfl, by assumption, k _ w H (Ext.refl _ _) R (.int _)⟩
  · cases q2
theorem ok_pow : OpOk W (rI CPow fun i j => .int (i ^ j.toNat)) (bop .pow) := by
  intro σ w H e S x y vx vy d Q R rx ry h k
  rcases bop_cases h with ⟨i, j, n, rfl, rfl, q, rfl⟩ | ⟨hh, _⟩ | ⟨hh, _⟩ | ⟨hh, _⟩ | ⟨hh, _⟩ <;> (try (exact nomatch hh))
  cases rx
  cases ry
  have q2 : (if 0 ≤ j ∧ j ≤ 1000000 ∧ i.natAbs < 2 ^ 64 then some (i ^ j.toNat) else none) = some n := q
  split at q2
  · cases q2
    exact ⟨i, j, rfl, rfl, by assumption, k _ w H (Ext.refl _ _) R (.int _)⟩
  · cases q2
theorem eq_inv {a b : D} {k : Bool} (h : a.eq? b = some k) : okP a.py = true ∧ okP b.py = true ∧ k = PyData.eqv a.py b.py := by
  unfold D.eq? at h
  split at h
  · rename_i z
    cases h
    exact ⟨(Bool.and_eq_true_iff.mp z).1, (Bool.and_eq_true_iff.mp z).2, rfl⟩
  · cases h
theorem ok_eq : CmOk W (rEqP W.K false) (cmpV .eq) := by
  intro w H x y vx vy b Q l rx ry h q
  obtain ⟨a, ha, h⟩ := Option.bind_eq_some_iff.mp (show (vx.toD.bind fun a => vy.toD.bind fun b => a.eq? b) = some b from h)
  obtain ⟨c, hc, h⟩ := Option.bind_eq_some_iff.mp h
  obtain ⟨o1, o2, rfl⟩ := eq_inv h
  exact ⟨a.py, c.py, rx.dp l ha (okP_plain o1), ry.dp l hc (okP_plain o2), o1, o2, q⟩
theorem ok_ne : CmOk W (rEqP W.K true) (cmpV .ne) := by
  intro w H x y vx vy b Q l rx ry h q
  obtain ⟨a, ha, h⟩ := Option.bind_eq_some_iff.mp (show (vx.toD.bind fun a => vy.toD.bind fun b => (a.eq? b).map (!·)) = some b from h)
  obtain ⟨c, hc, h⟩ := Option.bind_eq_some_iff.mp h
  obtain ⟨k, hk, rfl⟩ := Option.map_eq_some_iff.mp h
  obtain ⟨o1, o2, rfl⟩ := eq_inv hk
  exact ⟨a.py, c.py, rx.dp l ha (okP_plain o1), ry.dp l hc (okP_plain o2), o1, o2, q⟩
theorem in_inv {a : D} {ys : List D} {k : Bool} (h : inD a ys = some k) : okP a.py = true ∧ okP (PyData.list (D.pys ys)) = true ∧ k = (D.pys ys).any fun z => PyData.eqv z a.py := by
  unfold inD at h
  split at h
  · rename_i z
    cases h
    exact ⟨(Bool.and_eq_true_iff.mp z).1, (Bool.and_eq_true_iff.mp z).2, rfl⟩
  · cases h
theorem items_dp {w : Wr} {H : Hp} (l : Le w.F H) {v : V} {vw : Vw} {p : Bool × List D} (r : VwR W w H v vw) (e : vw.items = some p) (hp : PyData.plainAll (D.pys p.2) = true) : Dp W.K H v (.list (D.pys p.2)) ∨ Dp W.K H v (.tuple (D.pys p.2)) := by
  obtain ⟨a, vs, rfl, r1, h⟩ := r.items l e
  have hd := RpL.dp l r1 hp
  split at h
  · exact .inr (.tup h hd)
  · exact .inl (.lst h hd)
theorem ok_in : CmOk W (rInP W.K false) (cmpV .in_) := by
  intro w H x y vx vy b Q l rx ry h q
  obtain ⟨a, ha, h⟩ := Option.bind_eq_some_iff.mp (show (vx.toD.bind fun a => vy.items.bind fun ys => inD a ys.2) = some b from h)
  obtain ⟨c, hc, h⟩ := Option.bind_eq_some_iff.mp h
  obtain ⟨o1, o2, rfl⟩ := in_inv h
  exact ⟨a.py, D.pys c.2, rx.dp l ha (okP_plain o1), items_dp l ry hc (by simpa only [PyData.plain] using okP_plain o2), o1, o2, q⟩
theorem ok_nin : CmOk W (rInP W.K true) (cmpV .nin) := by
  intro w H x y vx vy b Q l rx ry h q
  obtain ⟨a, ha, h⟩ := Option.bind_eq_some_iff.mp (show (vx.toD.bind fun a => vy.items.bind fun ys => (inD a ys.2).map (!·)) = some b from h)
  obtain ⟨c, hc, h⟩ := Option.bind_eq_some_iff.mp h
  obtain ⟨k, hk, rfl⟩ := Option.map_eq_some_iff.mp h
  obtain ⟨o1, o2, rfl⟩ := in_inv hk
  exact ⟨a.py, D.pys c.2, rx.dp l ha (okP_plain o1), items_dp l ry hc (by simpa only [PyData.plain] using okP_plain o2), o1, o2, q⟩
theorem isNon_r {w : Wr} {H : Hp} {v : V} {vw : Vw} (r : VwR W w H v vw) : decide (v = .non) = isNon vw := by
  cases vw with
  | d x => cases x <;> cases r <;> simp [isNon]
  | c c =>
    obtain ⟨a, rfl, _⟩ := r
    simp [isNon]
theorem isV_inv {x y : Vw} {b : Bool} (h : isV x y = some b) : y = .d .non ∧ b = isNon x := by
  unfold isV at h
  split at h
  · cases h
    exact ⟨rfl, rfl⟩
  · cases h
theorem ok_is : CmOk W (fun x y H Q => y = .non ∧ Q (.bl (decide (x = .non))) H) (cmpV .is_) := by
  intro w H x y vx vy b Q l rx ry h q
  obtain ⟨rfl, rfl⟩ := isV_inv (show isV vx vy = some b from h)
  cases ry
  exact ⟨rfl, by rw [isNon_r rx]; exact q⟩
theorem ok_isn : CmOk W (fun x y H Q => y = .non ∧ Q (.bl (!decide (x = .non))) H) (cmpV .isn) := by
  intro w H x y vx vy b Q l rx ry h q
  obtain ⟨k, hk, rfl⟩ := Option.map_eq_some_iff.mp (show (isV vx vy).map (!·) = some b from h)
  obtain ⟨rfl, rfl⟩ := isV_inv hk
  cases ry
  exact ⟨rfl, by rw [isNon_r rx]; exact q⟩
theorem ord_inv {o : Cop} {vx vy : Vw} {b : Bool} (h : ordV o vx vy = some b) : ∃ i j, vx = .d (.int i) ∧ vy = .d (.int j) ∧ ordOp o i j = some b := by
  unfold ordV at h
  split at h
  · exact ⟨_, _, rfl, rfl, h⟩
  · cases h
theorem ok_lt : CmOk W (rI0 fun i j => .bl (decide (i < j))) (cmpV .lt) := by
  intro w H x y vx vy b Q l rx ry h q
  obtain ⟨i, j, rfl, rfl, hb⟩ := ord_inv (o := .lt) h
  cases rx
  cases ry
  cases hb
  exact ⟨i, j, rfl, rfl, q⟩
theorem ok_le : CmOk W (rI0 fun i j => .bl (decide (i ≤ j))) (cmpV .le) := by
  intro w H x y vx vy b Q l rx ry h q
  obtain ⟨i, j, rfl, rfl, hb⟩ := ord_inv (o := .le) h
  cases rx
  cases ry
  cases hb
  exact ⟨i, j, rfl, rfl, q⟩
theorem ok_gt : CmOk W (rI0 fun i j => .bl (decide (j < i))) (cmpV .gt) := by
  intro w H x y vx vy b Q l rx ry h q
  obtain ⟨i, j, rfl, rfl, hb⟩ := ord_inv (o := .gt) h
  cases rx
  cases ry
  cases hb
  exact ⟨i, j, rfl, rfl, q⟩
theorem ok_ge : CmOk W (rI0 fun i j => .bl (decide (j ≤ i))) (cmpV .ge) := by
  intro w H x y vx vy b Q l rx ry h q
  obtain ⟨i, j, rfl, rfl, hb⟩ := ord_inv (o := .ge) h
  cases rx
  cases ry
  cases hb
  exact ⟨i, j, rfl, rfl, q⟩
/-- each comparison has its rule -/
theorem cop_rule {X : Cx} (op : CmpOp) (hu : X.A.units + 66 < cLine) : ∃ r, OpR X (compareOp op) r ∧ ∀ W : Wd, W.K = X.K → CmOk W r (cmpV (copOf op)) := by
  cases op with
  | Eq => exact ⟨_, op_eqP hu, fun W e => by rw [← e]; exact ok_eq⟩
  | NotEq => exact ⟨_, op_neP hu, fun W e => by rw [← e]; exact ok_ne⟩
  | Lt => exact ⟨_, op_lt, fun W e => ok_lt⟩
  | LtE => exact ⟨_, op_le, fun W e => ok_le⟩
  | Gt => exact ⟨_, op_gt, fun W e => ok_gt⟩
  | GtE => exact ⟨_, op_ge, fun W e => ok_ge⟩
  | Is => exact ⟨_, op_isN, fun W e => ok_is⟩
  | IsNot => exact ⟨_, op_notN, fun W e => ok_isn⟩
  | In => exact ⟨_, op_inP hu, fun W e => by rw [← e]; exact ok_in⟩
  | NotIn => exact ⟨_, op_ninP hu, fun W e => by rw [← e]; exact ok_nin⟩
theorem bop_rule {X : Cx} {op : Operator} {o : Bop} (h : bopOf op = some o) : ∃ r, OpR X (binaryOp op) r ∧ ∀ W : Wd, W.K = X.K → OpOk W r (bop o) := by
  cases op <;> cases h
  · exact ⟨_, op_add4, fun W e => by rw [← e]; exact ok_add⟩
  · exact ⟨_, op_sub, fun W e => ok_sub⟩
  · exact ⟨_, op_mul2, fun W e => ok_mul⟩
  · exact ⟨_, op_mod, fun W e => ok_mod⟩
  · exact ⟨_, op_pow, fun W e => ok_pow⟩
  · exact ⟨_, op_fdivW, fun W e => ok_fdiv⟩
end
end Vm
namespace Vm
open PySem PySem.Spec L2
open PyProof.Rows hiding St
theorem bopt_false {p : Prop} (h : false = true) : p := nomatch h
section
variable {W : Wd} {X : Cx} {Wx : L2.WX} {σ : St} {w w' : Wr} {H H' : Hp} {e : Env} {S : Store} {x y v : V}
theorem int_inv {F : Hp} {ad : List Addr} {i : Int} (r : Rp W F ad v (.int i)) : v = .int i := by
  cases r
  rfl
theorem bl_inv {F : Hp} {ad : List Addr} {i : Bool} (r : Rp W F ad v (.bl i)) : v = .bl i := by
  cases r
  rfl
theorem jv_neg {a : Expr} {p : Pos} {m : M D} (ja : JV W X a m) : JV W X (.UnaryOp .USub a p) (m.bind fun x => match x with
    | .int i => .pure (.int (-i))
    | _ => .bad) := fun Wx tk =>
  PE.imp (pe_un un_neg (ja Wx tk)) fun σ H Q ⟨w, e, S, R, h⟩ => (Post.va R h).mono fun v H1 ⟨d, w1, e1, S1, R1, x1, r1, p1⟩ => by
    cases d with
    | int i =>
      obtain rfl := int_inv r1
      exact ⟨i, rfl, p1.now R1 _ (.int _)⟩
    | _ => exact p1.elim
theorem jv_notv {a : Expr} {p : Pos} {m : M D} (ja : JV W X a m) : JV W X (.UnaryOp .Not a p) (m.bind fun x => match x with
    | .bl b => .pure (.bl (!b))
    | _ => .bad) := fun Wx tk =>
  PE.imp (pe_not (ja Wx tk)) fun σ H Q ⟨w, e, S, R, h⟩ => (Post.va R h).mono fun v H1 ⟨d, w1, e1, S1, R1, x1, r1, p1⟩ => by
    cases d with
    | bl i =>
      obtain rfl := bl_inv r1
      exact ⟨i, rfl, p1.now R1 _ (.bl _)⟩
    | _ => exact p1.elim
theorem jv_one {a : Expr} {op : BoolOp} {p : Pos} {m : M D} (ja : JV W X a m) : JV W X (.BoolOp op [a] p) m := fun Wx tk => pe_one (ja Wx tk)
theorem jv_and {a b : Expr} {r : List Expr} {p : Pos} {m n : M D} (ja : JV W X a m) (jb : JV W X (.BoolOp .And (b :: r) p) n) : JV W X (.BoolOp .And (a :: b :: r) p) (m.bind fun x => match x with
    | .bl true => n
    | .bl false => .pure (.bl false)
    | _ => .bad) := fun Wx tk =>
  PE.imp (pe_and (ja Wx tk) (jb Wx tk)) fun σ H Q ⟨w, e, S, R, h⟩ => (Post.va R h).mono fun v H1 ⟨d, w1, e1, S1, R1, x1, r1, p1⟩ => by
    cases d with
    | bl i =>
      obtain rfl := bl_inv r1
      cases i with
      | true => exact ⟨true, rfl, ⟨w1, e1, S1, R1, p1⟩⟩
      | false => exact ⟨false, rfl, p1.now R1 _ (.bl _)⟩
    | _ => exact p1.elim
theorem jv_or {a b : Expr} {r : List Expr} {p : Pos} {m n : M D} (ja : JV W X a m) (jb : JV W X (.BoolOp .Or (b :: r) p) n) : JV W X (.BoolOp .Or (a :: b :: r) p) (m.bind fun x => match x with
    | .bl true => .pure (.bl true)
    | .bl false => n
    | _ => .bad) := fun Wx tk =>
  PE.imp (pe_or (ja Wx tk) (jb Wx tk)) fun σ H Q ⟨w, e, S, R, h⟩ => (Post.va R h).mono fun v H1 ⟨d, w1, e1, S1, R1, x1, r1, p1⟩ => by
    cases d with
    | bl i =>
      obtain rfl := bl_inv r1
      cases i with
      | false => exact ⟨false, rfl, ⟨w1, e1, S1, R1, p1⟩⟩
      | true => exact ⟨true, rfl, p1.now R1 _ (.bl _)⟩
    | _ => exact p1.elim
def tT (W : Wd) (Wx : L2.WX) (m : M Bool) : TT := fun σ H Q => Run W Wx σ H m fun b _ _ _ H' => Q b H'
def JT (W : Wd) (X : Cx) (t : Expr) (m : M Bool) : Prop := ∀ Wx, Takes X Wx → PT X t (tT W Wx m)
def JW (W : Wd) (X : Cx) (t : Expr) (m : M Bool) : Prop := ∀ Wx, Takes X Wx → PW X t (tT W Wx m)
theorem JW.t {t : Expr} {m : M Bool} (h : JW W X t m) : JT W X t m := fun Wx tk => (h Wx tk).pt
theorem PT.imp {e : Expr} {t t' : TT} (h : PT X e t) (k : ∀ σ H Q, t' σ H Q → t σ H Q) : PT X e t' := ⟨fun pins s σ H Q I q => h.run pins s σ H Q I (k σ H Q q)⟩
theorem PW.imp {e : Expr} {t t' : TT} (h : PW X e t) (k : ∀ σ H Q, t' σ H Q → t σ H Q) : PW X e t' := ⟨fun wh pins s σ H Q I q => h.run wh pins s σ H Q I (k σ H Q q)⟩
theorem tT.mono {m : M Bool} {Q Q' : Bool → Hp → Prop} (h : tT W Wx m σ H Q) (k : ∀ v H', Q v H' → Q' v H') : tT W Wx m σ H Q' := by
  obtain ⟨w, e, S, R, p⟩ := h
  exact ⟨w, e, S, R, p.imp fun a e S w' H' _ _ z => k a H' z⟩
theorem Post.ta {β : Type} {m : M Bool} {f : Bool → M β} {K : β → Env → Store → Wr → Hp → Prop} (R : Rel W w S H σ e) (h : Post W Wx σ w H ((M.bind m f) e S) K) :
    tT W Wx m σ H fun b H1 => ∃ w1 e1 S1, Rel W w1 S1 H1 σ e1 ∧ Ext w H w1 H1 ∧ Post W Wx σ w1 H1 (f b e1 S1) K :=
  ⟨w, e, S, R, h.bind.imp fun a e1 S1 w1 H1 x R1 p => ⟨w1, e1, S1, R1, x, p⟩⟩
theorem jt_bad {t : Expr} : JT W X t .bad := fun Wx tk => ⟨fun pins s σ H Q I ⟨w, e, S, R, p⟩ => p.elim⟩
theorem jw_bad {t : Expr} : JW W X t .bad := fun Wx tk => ⟨fun wh pins s σ H Q I ⟨w, e, S, R, p⟩ => p.elim⟩
theorem jt_val {a : Expr} {m : M D} (ja : JV W X a m) (he : ∀ whole, isTrue a X.env whole = (do let v ← whole; standAt a.pos; holding [v] (truthy v))) : JT W X a (m.bind fun x => match x with
    | .bl b => .pure b
    | _ => .bad) := fun Wx tk =>
  PT.imp (pt_val (ja Wx tk) he) fun σ H Q ⟨w, e, S, R, h⟩ => (Post.va R h).mono fun v H1 ⟨d, w1, e1, S1, R1, x1, r1, p1⟩ => by
    cases d with
    | bl i =>
      obtain rfl := bl_inv r1
      exact ⟨i, rfl, p1.now R1⟩
    | _ => exact p1.elim
/-- a comparison as a test -/
theorem jt_cmp {a b : Expr} {op : CmpOp} {p : Pos} {o : Cop} {ma mb : M Hd} {r : R2} (ja : JH W X a ma) (jb : JH W X b mb) (ho : OpR X (compareOp op) r) (ok : CmOk W r (cmpV o)) (hm : behindInMarks op b = false) :
    JT W X (.Compare a [op] [b] p) ((ma.bind fun x => mb.bind fun y => (res x).bind fun x => (res y).bind fun y => (M.opt (cmpV o x y)).bind fun b => (M.pure (D.bl b) : M D)).bind fun (x : D) => match x with
    | .bl b => .pure b
    | _ => .bad) := fun Wx tk =>
  PT.imp (pt_cmpR ho (ja Wx tk) (jb Wx tk) hm) fun σ H Q ⟨w, e, S, R, h⟩ => by
    have h2 : Post W Wx σ w H ((ma.bind fun x => mb.bind fun y => (res x).bind fun x => (res y).bind fun y => (M.opt (cmpV o x y)).bind fun b => (M.pure (D.bl b) : M D)) e S) fun (d : D) e1 S1 w1 H1 => Post W Wx σ w1 H1 ((match d with
      | D.bl b => M.pure b
      | _ => M.bad) e1 S1) fun b _ _ _ H' => Q b H' := h.bind
    exact (two R h2).mono fun x H1 h1 => h1.mono fun y H2 ⟨vx, vy, w2, e2, S2, R2, x2, rx, ry, p4⟩ => by
      obtain ⟨d, ed, p5⟩ := p4.opt
      have p6 := p5.now R2
      exact ok w2 H2 x y vx vy d (fun z H3 => ∃ k, z = .bl k ∧ Q k H3) R2.sub rx ry ed ⟨d, rfl, p6.now R2⟩
theorem truV_r {vw : Vw} {k : Bool} (l : Le w.F H) (r : VwR W w H v vw) (h : truV vw = some k) : TruV W.K v H k := by
  unfold truV at h
  split at h
  · cases h
    cases r
    rfl
  · cases h
    cases r
    rfl
  · cases h
    cases r
    rfl
  · obtain ⟨p, hp, rfl⟩ := Option.map_eq_some_iff.mp h
    obtain ⟨a, vs, rfl, r1, hs⟩ := r.items l hp
    have e : vs.isEmpty = p.2.isEmpty := by
      have := r1.len
      cases vs <;> cases q : p.2 <;> simp_all
    split at hs
    · exact .inr (.inl ⟨vs, hs, by rw [e]⟩)
    · exact .inl ⟨vs, hs, by rw [e]⟩
theorem jt_tru {a : Expr} {m : M Hd} (hK : W.K = X.K) (ja : JH W X a m) (he : ∀ whole, isTrue a X.env whole = (do let v ← whole; standAt a.pos; holding [v] (truthy v))) : JT W X a (m.bind fun h => (res h).bind fun v => M.opt (truV v)) := fun Wx tk =>
  PT.imp (pt_truth (ja Wx tk) he) fun σ H Q ⟨w, e, S, R, h⟩ => (Post.hd R h).mono fun v H1 ⟨d, w1, e1, S1, R1, x1, r1, p1⟩ => by
    obtain ⟨vw, rv, p2⟩ := res_post R1 r1 p1
    obtain ⟨k, ek, p3⟩ := p2.opt1
    exact ⟨k, by rw [← hK]; exact truV_r R1.sub rv ek, p3.now R1⟩
theorem jw_one {a : Expr} {op : BoolOp} {p : Pos} {m : M Bool} (ja : JT W X a m) : JW W X (.BoolOp op [a] p) m := fun Wx tk => match op with
  | .And => pw_and1 (ja Wx tk)
  | .Or => pw_or1 (ja Wx tk)
theorem jw_and {a b : Expr} {r : List Expr} {p : Pos} {m n : M Bool} (ja : JT W X a m) (jb : JW W X (.BoolOp .And (b :: r) p) n) : JW W X (.BoolOp .And (a :: b :: r) p) (m.bind fun k => match k with
    | true => n
    | false => .pure false) := fun Wx tk =>
  PW.imp (pw_and (ja Wx tk) (jb Wx tk)) fun σ H Q ⟨w, e, S, R, h⟩ => (Post.ta R h).mono fun k H1 ⟨w1, e1, S1, R1, x1, p1⟩ => by
    cases k with
    | true => exact ⟨w1, e1, S1, R1, p1⟩
    | false => exact p1.now R1
theorem jw_or {a b : Expr} {r : List Expr} {p : Pos} {m n : M Bool} (ja : JT W X a m) (jb : JW W X (.BoolOp .Or (b :: r) p) n) : JW W X (.BoolOp .Or (a :: b :: r) p) (m.bind fun k => match k with
    | true => .pure true
    | false => n) := fun Wx tk =>
  PW.imp (pw_or (ja Wx tk) (jb Wx tk)) fun σ H Q ⟨w, e, S, R, h⟩ => (Post.ta R h).mono fun k H1 ⟨w1, e1, S1, R1, x1, p1⟩ => by
    cases k with
    | false => exact ⟨w1, e1, S1, R1, p1⟩
    | true => exact p1.now R1
theorem jt_not {a : Expr} {p : Pos} {m : M Bool} (ja : JT W X a m) : JT W X (.UnaryOp .Not a p) (m.bind fun k => .pure (!k)) := fun Wx tk =>
  PT.imp (pt_not (ja Wx tk)) fun σ H Q ⟨w, e, S, R, h⟩ => (Post.ta R h).mono fun k H1 ⟨w1, e1, S1, R1, x1, p1⟩ => p1.now R1
theorem jv_ite {t a b : Expr} {p : Pos} {m : M Bool} {n o : M D} (jt : JT W X t m) (ja : JV W X a n) (jb : JV W X b o) : JV W X (.IfExp t a b p) (m.bind fun k => match k with
    | true => n
    | false => o) := fun Wx tk =>
  PE.imp (pe_ifExp (jt Wx tk) (ja Wx tk) (jb Wx tk)) fun σ H Q ⟨w, e, S, R, h⟩ => (Post.ta R h).mono fun k H1 ⟨w1, e1, S1, R1, x1, p1⟩ => by
    cases k with
    | true => exact ⟨w1, e1, S1, R1, p1⟩
    | false => exact ⟨w1, e1, S1, R1, p1⟩
theorem VwR.ext {vw : Vw} (x : Ext w H w' H') (r : VwR W w H v vw) (hc : ∀ c, vw = .c c → False) : VwR W w' H' v vw := by
  cases vw with
  | d d => exact Rp.le x.F x.ad r
  | c c => exact (hc c rfl).elim
theorem ordV_nc {o : Cop} {x y : Vw} {k : Bool} (h : ordV o x y = some k) : (∀ c, x = .c c → False) ∧ (∀ c, y = .c c → False) := by
  unfold ordV at h
  split at h
  · exact ⟨fun c z => (nomatch z), fun c z => (nomatch z)⟩
  · cases h
def chM (o o' : Cop) (ma mb mc : M Hd) : M D := ma.bind fun x => mb.bind fun y => (res x).bind fun x => (res y).bind fun y' => (M.opt (cmpV o x y')).bind fun k => match k with
    | true => mc.bind fun z => (res z).bind fun z => (M.opt (cmpV o' y' z)).bind fun b => .pure (.bl b)
    | false => .pure (.bl false)
theorem chain_t {o o' : Cop} {ma mb mc : M Hd} {r r' : R2} {K : D → Env → Store → Wr → Hp → Prop} {Q : VK} (ok : CmOk W r (cmpV o)) (ok' : CmOk W r' (cmpV o')) (hb : ∀ vx vy k, cmpV o vx vy = some k → ∀ c, vy = .c c → False)
    (R : Rel W w S H σ e) (h : Post W Wx σ w H (chM o o' ma mb mc e S) K) (kq : ∀ b e S w H, Rel W w S H σ e → K (.bl b) e S w H → Q (.bl b) H) : tChain r r' (tHd W Wx ma) (tHd W Wx mb) (tHd W Wx mc) σ H Q :=
  (two R h).mono fun x H1 h1 => h1.mono fun y H2 ⟨vx, vy, w2, e2, S2, R2, x2, rx, ry, p4⟩ => by
    obtain ⟨k, ek, p5⟩ := p4.opt
    refine ok w2 H2 x y vx vy k _ R2.sub rx ry ek ⟨k, rfl, ?_⟩
    cases k with
    | true =>
      rw [if_pos rfl]
      refine (Post.hd R2 p5).mono fun z H3 ⟨hz, w3, e3, S3, R3, x3, r3, p6⟩ => ?_
      obtain ⟨vz, rz, p7⟩ := res_post R3 r3 p6
      obtain ⟨d, ed, p8⟩ := p7.opt
      exact ok' w3 H3 y z vy vz d Q R3.sub (ry.ext x3 (hb vx vy true ek)) rz ed (kq d _ _ _ _ R3 (p8.now R3))
    | false =>
      rw [if_neg Bool.false_ne_true]
      exact kq false _ _ _ _ R2 (p5.now R2)
theorem jv_chain {a b c : Expr} {op op' : CmpOp} {p : Pos} {o o' : Cop} {ma mb mc : M Hd} {r r' : R2} (ja : JH W X a ma) (jb : JH W X b mb) (jc : JH W X c mc) (ho : OpR X (compareOp op) r) (ok : CmOk W r (cmpV o)) (ho' : OpR X (compareOp op') r') (ok' : CmOk W r' (cmpV o'))
    (hb : ∀ vx vy k, cmpV o vx vy = some k → ∀ c, vy = .c c → False) (hm : lastMarks [op, op'] [b, c] = false) : JV W X (.Compare a [op, op'] [b, c] p) (chM o o' ma mb mc) := fun Wx tk =>
  PE.imp (pe_chain ho ho' (ja Wx tk) (jb Wx tk) (jc Wx tk) hm) fun σ H Q ⟨w, e, S, R, h⟩ => chain_t ok ok' hb R h fun b e S w H R k => k _ (.bl b)
theorem jt_chain {a b c : Expr} {op op' : CmpOp} {p : Pos} {o o' : Cop} {ma mb mc : M Hd} {r r' : R2} (ja : JH W X a ma) (jb : JH W X b mb) (jc : JH W X c mc) (ho : OpR X (compareOp op) r) (ok : CmOk W r (cmpV o)) (ho' : OpR X (compareOp op') r') (ok' : CmOk W r' (cmpV o'))
    (hb : ∀ vx vy k, cmpV o vx vy = some k → ∀ c, vy = .c c → False) (hm : lastMarks [op, op'] [b, c] = false) : JT W X (.Compare a [op, op'] [b, c] p) ((chM o o' ma mb mc).bind fun (x : D) => match x with
    | .bl b => .pure b
    | _ => .bad) := fun Wx tk =>
  PT.imp (pt_chain ho ho' (ja Wx tk) (jb Wx tk) (jc Wx tk) hm) fun σ H Q ⟨w, e, S, R, h⟩ => chain_t ok ok' hb R h.bind fun b e S w H R k => ⟨b, rfl, Post.now (Wx := Wx) R k⟩
end
end Vm
namespace Vm
open PySem PySem.Spec L2
open PyProof.Rows hiding St
def inn (w : Wr) : Wr := { w with me := none, ow := fun a => match w.ow a with
  | some (.k k) => some (.k k)
  | _ => none }
def outt (w w' : Wr) : Wr := { w' with me := w.me, ow := fun a => match w.ow a with
  | some (.s i) => some (.s i)
  | _ => w'.ow a }
theorem inn_k {w : Wr} {a : Addr} {k : Nat} (h : w.ow a = some (.k k)) : (inn w).ow a = some (.k k) := by
  show (match w.ow a with | some (.k k) => some (Own.k k) | _ => none) = _
  rw [h]
theorem inn_s {w : Wr} {a : Addr} {i : Nat} (h : w.ow a = some (.s i)) : (inn w).ow a = none := by
  show (match w.ow a with | some (.k k) => some (Own.k k) | _ => none) = _
  rw [h]
theorem inn_n {w : Wr} {a : Addr} (h : w.ow a = none) : (inn w).ow a = none := by
  show (match w.ow a with | some (.k k) => some (Own.k k) | _ => none) = _
  rw [h]
theorem inn_some {w : Wr} {a : Addr} {x : Own} (h : (inn w).ow a = some x) : w.ow a = some x := by
  have h2 : (match w.ow a with | some (.k k) => some (Own.k k) | _ => none) = some x := h
  cases q : w.ow a with
  | none =>
    rw [q] at h2
    cases h2
  | some y =>
    cases y with
    | s i =>
      rw [q] at h2
      cases h2
    | k k =>
      rw [q] at h2
      exact h2
theorem out_s {w w' : Wr} {a : Addr} {i : Nat} (h : w.ow a = some (.s i)) : (outt w w').ow a = some (.s i) := by
  show (match w.ow a with | some (.s i) => some (Own.s i) | _ => w'.ow a) = _
  rw [h]
theorem out_o {w w' : Wr} {a : Addr} (h : ∀ i, w.ow a ≠ some (.s i)) : (outt w w').ow a = w'.ow a := by
  show (match w.ow a with | some (.s i) => some (Own.s i) | _ => w'.ow a) = _
  cases q : w.ow a with
  | none => rfl
  | some y =>
    cases y with
    | s i => exact (h i q).elim
    | k k => rfl
section
variable {W : Wd} {w w' : Wr} {H H' : Hp} {σ : St} {e : Env} {S S' : Store}
theorem Rel.inn (R : Rel W w S H σ e) : Rel W (inn w) S H [] [] :=
  ⟨R.sub, rfl, fun i => True.intro, fun k c q => let ⟨a, h1, h2, h3⟩ := R.cell k c q; ⟨a, h1, h2.to (fun _ z => z) (Le.refl _) (List.prefix_refl _), inn_k h3⟩, R.adl, fun a o q => inn_n (R.fow a o q), fun a x q => R.owl a x (inn_some q), fun i c fs a h1 h2 => nomatch h1⟩
theorem Rel.out (R : Rel W w S H σ e) (x : Ext (Vm.inn w) H w' H') (R' : Rel W w' S' H' [] []) : Ext w H (outt w w') H' ∧ Rel W (outt w w') S' H' σ e := by
  have own : ∀ a i, w.ow a = some (.s i) → ∃ o, H a = some o ∧ H' a = some o ∧ w'.F a = none ∧ w'.ow a = none := fun a i q => by
    obtain ⟨o, ho⟩ := R.owl a _ q
    have fa : w.F a = none := by
      cases z : w.F a with
      | none => rfl
      | some u =>
        have y := R.fow a u z
        rw [q] at y
        cases y
    obtain ⟨h1, h2, h3⟩ := x.fo a o ho fa (inn_s q)
    exact ⟨o, ho, h1, h2, h3⟩
  refine ⟨⟨x.F, x.ad, fun a o h1 h2 h3 => ?_, rfl⟩, ⟨R'.sub, R.len, fun i => ?_, fun k c q => ?_, R'.adl, fun a o q => ?_, fun a y q => ?_, R.self⟩⟩
  · obtain ⟨k1, k2, k3⟩ := x.fo a o h1 h2 (inn_n h3)
    refine ⟨k1, k2, ?_⟩
    rw [out_o (fun i z => by rw [h3] at z; cases z)]
    exact k3
  · exact (R.slot i).to (w' := outt w w') x.F x.ad fun a q => ⟨out_s q, fun o ho => by
      obtain ⟨o', h1, h2, _⟩ := own a i q
      rw [ho] at h1
      cases h1
      exact h2⟩
  · obtain ⟨a, h1, h2, h3⟩ := R'.cell k c q
    refine ⟨a, h1, h2.to (w' := outt w w') (fun _ z => z) (Le.refl _) (List.prefix_refl _), ?_⟩
    rw [out_o (fun i z => by
      obtain ⟨_, _, _, _, h4⟩ := own a i z
      rw [h3] at h4
      cases h4)]
    exact h3
  · rw [out_o (fun i z => by
      obtain ⟨_, _, _, h4, _⟩ := own a i z
      have q2 : w'.F a = some o := q
      rw [h4] at q2
      cases q2)]
    exact R'.fow a o q
  · by_cases z : ∃ i, w.ow a = some (.s i)
    · obtain ⟨i, z⟩ := z
      obtain ⟨o, _, h2, _⟩ := own a i z
      exact ⟨o, h2⟩
    · rw [out_o (fun i y => z ⟨i, y⟩)] at q
      exact R'.owl a y q
end
def PostC (W : Wd) (w : Wr) (H : Hp) (r : COut) (Q : VK) (E : XK) : Prop := match r with
  | .ok d S => ∀ w' H' v, Ext w H w' H' → Rel W w' S H' [] [] → Rp W w'.F w'.ad v d → Q v H'
  | .rz x S => ∀ w' H' cls dd, Ext w H w' H' → Rel W w' S H' [] [] → ExR W w' x cls dd H' → E cls dd H'
  | .bad => False
/-- what a def promises: what its call gives -/
def spF (W : Wd) (call : Call) (key : Str × Str) : Sp := fun vs H Q E => ∃ w S ds, Rel W w S H [] [] ∧ RpL W w.F w.ad vs ds ∧ PostC W w H (call key ds S) Q E
section
variable {W : Wd} {X : Cx} {Wx : L2.WX} {σ : St} {w w' : Wr} {H H' : Hp} {e : Env} {S : Store} {x y v : V}
theorem run_sp {A : Api} {key : Str × Str} {ds : List D} {vs : List V} {K : D → Env → Store → Wr → Hp → Prop} {Q : VK} (R : Rel W w S H σ e) (r : RpL W w.F w.ad vs ds) (p : Post W Wx σ w H (A.run key ds e S) K)
    (k : ∀ d S' w' H' v, Ext w H w' H' → Rel W w' S' H' σ e → K d e S' w' H' → Rp W w'.F w'.ad v d → Q v H') : spF W A.call key vs H Q fun cls dd H' => Wx cls dd σ H' := by
  refine ⟨inn w, S, ds, R.inn, r, ?_⟩
  unfold Api.run at p
  cases q : A.call key ds S with
  | ok d S' =>
    rw [q] at p
    intro w' H' v x R' rv
    obtain ⟨x2, R2⟩ := R.out x R'
    exact k d S' (outt w w') H' v x2 R2 (p (outt w w') H' x2 R2) rv
  | rz z S' =>
    rw [q] at p
    intro w' H' cls dd x R' er
    obtain ⟨x2, R2⟩ := R.out x R'
    refine p (outt w w') H' cls dd x2 R2 ?_
    exact er
  | bad =>
    rw [q] at p
    exact p.elim
end
end Vm
namespace Vm
open PySem PySem.Spec L2
open PyProof.Rows hiding St
section
variable {α β : Type} {W : Wd} {X : Cx} {Wx : L2.WX} {σ : St} {w w' : Wr} {H H' : Hp} {e : Env} {S : Store} {x y v : V}
def tL (W : Wd) (Wx : L2.WX) (m : M (List D)) : TA := fun σ H Q => Run W Wx σ H m fun ds _ _ w H' => ∀ vs, RpL W w.F w.ad vs ds → Q vs H'
def JL (W : Wd) (X : Cx) (es : List Expr) (m : M (List D)) : Prop := ∀ Wx, Takes X Wx → PA X es (tL W Wx m)
inductive HdRs (W : Wd) (w : Wr) (σ : St) : List V → List Hd → Prop
  | nil : HdRs W w σ [] []
  | cons {v : V} {h : Hd} {vs : List V} {hs : List Hd} : HdR W w σ v h → HdRs W w σ vs hs → HdRs W w σ (v :: vs) (h :: hs)
inductive VwRs (W : Wd) (w : Wr) (H : Hp) : List V → List Vw → Prop
  | nil : VwRs W w H [] []
  | cons {v : V} {h : Vw} {vs : List V} {hs : List Vw} : VwR W w H v h → VwRs W w H vs hs → VwRs W w H (v :: vs) (h :: hs)
def tHs (W : Wd) (Wx : L2.WX) (m : M (List Hd)) : TA := fun σ H Q => Run W Wx σ H m fun hs _ _ w H' => ∀ vs, HdRs W w σ vs hs → Q vs H'
def JHs (W : Wd) (X : Cx) (es : List Expr) (m : M (List Hd)) : Prop := ∀ Wx, Takes X Wx → PA X es (tHs W Wx m)
theorem PA.imp {es : List Expr} {t t' : TA} (h : PA X es t) (k : ∀ σ H Q, t' σ H Q → t σ H Q) : PA X es t' := ⟨fun p pins s σ H Q I q => h.run p pins s σ H Q I (k σ H Q q)⟩
theorem tL.mono {m : M (List D)} {Q Q' : List V → Hp → Prop} (h : tL W Wx m σ H Q) (k : ∀ v H', Q v H' → Q' v H') : tL W Wx m σ H Q' := by
  obtain ⟨w, e, S, R, p⟩ := h
  exact ⟨w, e, S, R, p.imp fun a e S w' H' _ _ z v r => k v H' (z v r)⟩
theorem tHs.mono {m : M (List Hd)} {Q Q' : List V → Hp → Prop} (h : tHs W Wx m σ H Q) (k : ∀ v H', Q v H' → Q' v H') : tHs W Wx m σ H Q' := by
  obtain ⟨w, e, S, R, p⟩ := h
  exact ⟨w, e, S, R, p.imp fun a e S w' H' _ _ z v r => k v H' (z v r)⟩
theorem Post.la {m : M (List D)} {f : List D → M β} {K : β → Env → Store → Wr → Hp → Prop} (R : Rel W w S H σ e) (h : Post W Wx σ w H ((M.bind m f) e S) K) :
    tL W Wx m σ H fun vs H1 => ∃ d w1 e1 S1, Rel W w1 S1 H1 σ e1 ∧ Ext w H w1 H1 ∧ RpL W w1.F w1.ad vs d ∧ Post W Wx σ w1 H1 (f d e1 S1) K :=
  ⟨w, e, S, R, h.bind.imp fun a e1 S1 w1 H1 x R1 p v r => ⟨a, w1, e1, S1, R1, x, r, p⟩⟩
theorem Post.hs {m : M (List Hd)} {f : List Hd → M β} {K : β → Env → Store → Wr → Hp → Prop} (R : Rel W w S H σ e) (h : Post W Wx σ w H ((M.bind m f) e S) K) :
    tHs W Wx m σ H fun vs H1 => ∃ d w1 e1 S1, Rel W w1 S1 H1 σ e1 ∧ Ext w H w1 H1 ∧ HdRs W w1 σ vs d ∧ Post W Wx σ w1 H1 (f d e1 S1) K :=
  ⟨w, e, S, R, h.bind.imp fun a e1 S1 w1 H1 x R1 p v r => ⟨a, w1, e1, S1, R1, x, r, p⟩⟩
theorem star_eq {e : Expr} {es : List Expr} {env : PySem.Env} (h : starred e = false) : starEach (e :: es) env = (false, eval e env) :: starEach es env := by
  cases e <;> first | rfl | cases h
theorem plain_eq {env : PySem.Env} {p : Pos} : ∀ {es : List Expr}, es.any starred = false → (backTo p (starEach es env)).any (·.1) = false
  | [], _ => rfl
  | e :: es, h => by
    rw [List.any_cons, Bool.or_eq_false_iff] at h
    rw [star_eq h.1]
    show (false || (backTo p (starEach es env)).any (·.1)) = false
    rw [plain_eq h.2]
    rfl
theorem jl_nil : JL W X [] (.pure []) := fun Wx tk => PA.imp pa_nil fun σ H Q ⟨w, e, S, R, h⟩ => h.now R [] .nil
theorem jl_cons {a : Expr} {es : List Expr} {m : M D} {n : M (List D)} (hs : starred a = false) (ja : JV W X a m) (jr : JL W X es n) : JL W X (a :: es) (m.bind fun x => n.bind fun xs => .pure (x :: xs)) := fun Wx tk =>
  PA.imp (pa_cons (ja Wx tk) (jr Wx tk) (star_eq hs)) fun σ H Q ⟨w, e, S, R, h⟩ => (Post.va R h).mono fun v H1 ⟨d, w1, e1, S1, R1, x1, r1, p1⟩ => (Post.la R1 p1).mono fun vs H2 ⟨ds, w2, e2, S2, R2, x2, r2, p2⟩ => p2.now R2 _ (.cons (r1.le x2.F x2.ad) r2)
theorem jhs_nil : JHs W X [] (.pure []) := fun Wx tk => PA.imp pa_nil fun σ H Q ⟨w, e, S, R, h⟩ => h.now R [] .nil
theorem jhs_cons {a : Expr} {es : List Expr} {m : M Hd} {n : M (List Hd)} (hs : starred a = false) (ja : JH W X a m) (jr : JHs W X es n) : JHs W X (a :: es) (m.bind fun x => n.bind fun xs => .pure (x :: xs)) := fun Wx tk =>
  PA.imp (pa_cons (ja Wx tk) (jr Wx tk) (star_eq hs)) fun σ H Q ⟨w, e, S, R, h⟩ => (Post.hd R h).mono fun v H1 ⟨d, w1, e1, S1, R1, x1, r1, p1⟩ => (Post.hs R1 p1).mono fun vs H2 ⟨ds, w2, e2, S2, R2, x2, r2, p2⟩ => p2.now R2 _ (.cons (r1.ext x2) r2)
theorem ress_post {hs : List Hd} : ∀ {vs : List V} {f : List Vw → M β} {K : β → Env → Store → Wr → Hp → Prop}, Rel W w S H σ e → HdRs W w σ vs hs → Post W Wx σ w H ((M.bind (ress hs) f) e S) K → ∃ vw, VwRs W w H vs vw ∧ Post W Wx σ w H (f vw e S) K := by
  induction hs with
  | nil =>
    intro vs f K R r h
    cases r
    exact ⟨[], .nil, h⟩
  | cons a r ih =>
    intro vs f K R r1 h
    cases r1 with
    | cons ha hr =>
      have h1 : Post W Wx σ w H ((M.bind (M.bind (res a) fun v => M.bind (ress r) fun vs => M.pure (v :: vs)) f) e S) K := h
      rw [M.bind_assoc] at h1
      obtain ⟨vw, rv, h2⟩ := res_post R ha h1
      rw [M.bind_assoc] at h2
      have h3 : Post W Wx σ w H ((M.bind (ress r) fun vs => f (vw :: vs)) e S) K := h2
      obtain ⟨vws, rvs, h4⟩ := ih R hr h3
      exact ⟨vw :: vws, .cons rv rvs, h4⟩
def tAl (W : Wd) (Wx : L2.WX) (m : M D) : TE := fun σ H Q => Run W Wx σ H m fun d _ _ w H' => ∃ ds, d = .lst ds ∧ ∀ p vs, H' p = none → RpL W w.F w.ad vs ds → Q (.ref p) (upd H' p (.lst vs))
/-- a new list, nobody's yet -/
def JN (W : Wd) (X : Cx) (t : Expr) (m : M D) : Prop := ∀ Wx, Takes X Wx → PE X t (tAl W Wx m)
theorem tV_al {m : M D} {Q : VK} (hl : ∀ e S d e' S', m e S = .ok d e' S' → ∃ ds, d = .lst ds) (h : tV W Wx m σ H Q) : tAl W Wx m σ H Q := by
  obtain ⟨w, e, S, R, p⟩ := h
  refine ⟨w, e, S, R, ?_⟩
  cases q : m e S with
  | ok d e' S' =>
    rw [q] at p
    obtain ⟨ds, rfl⟩ := hl e S d e' S' q
    intro w' H' x R'
    refine ⟨ds, rfl, fun pp vs hp r => ?_⟩
    exact lay_lst R' r (fun v w2 H2 x2 R2 rv => p w2 H2 (x.trans x2) R2 v rv) pp hp
  | rz z e' S' =>
    rw [q] at p
    exact p
  | bad =>
    rw [q] at p
    exact p
theorem JN.val {t : Expr} {m : M D} (h : JN W X t m) (hl : ∀ e S d e' S', m e S = .ok d e' S' → ∃ ds, d = .lst ds) : JV W X t m := fun Wx tk => PE.imp (h Wx tk) fun σ H Q q => tV_al hl q
def cellM (m : M D) : M D := m.bind fun x => match x with
      | .lst xs => newC (.lst xs)
      | _ => .bad
theorem tV_cell {m : M D} {Q : VK} (h : tV W Wx (cellM m) σ H Q) : tAl W Wx m σ H Q := by
  obtain ⟨w, e, S, R, p⟩ := h
  refine ⟨w, e, S, R, p.bind.imp fun d e1 S1 w1 H1 x1 R1 p1 => ?_⟩
  cases d with
  | lst ds =>
    refine ⟨ds, rfl, fun pp vs hp r => ?_⟩
    obtain ⟨x2, R2, r2⟩ := R1.newC (c := .lst ds) (o := .lst vs) hp ⟨vs, upd_same, r⟩
    exact p1 _ _ x2 R2 _ r2
  | _ => exact p1.elim
theorem jv_tup {es : List Expr} {k : Nat} {p : Pos} {m : M (List D)} (jl : JL W X es m) : JV W X (.Tuple es k p) (m.bind fun xs => if xs.length ≤ 2 ^ 24 then .pure (.tup xs) else .bad) := fun Wx tk =>
  PE.imp (pe_tupF (jl Wx tk)) fun σ H Q ⟨w, e, S, R, h⟩ => (Post.la R h).mono fun vs H1 ⟨ds, w1, e1, S1, R1, x1, r1, p1⟩ => by
    by_cases hz : ds.length ≤ 2 ^ 24
    · rw [if_pos hz] at p1
      exact ⟨by rw [r1.len]; exact hz, lay_tup R1 r1 (fun v w2 H2 x2 R2 rv => p1 w2 H2 x2 R2 v rv)⟩
    · rw [if_neg hz] at p1
      exact p1.elim
theorem jn_lst {es : List Expr} {p : Pos} {m : M (List D)} (jl : JL W X es m) : JN W X (.List es p) (m.bind fun xs => if xs.length ≤ 2 ^ 24 then .pure (.lst xs) else .bad) := fun Wx tk =>
  PE.imp (pe_lst (jl Wx tk)) fun σ H Q ⟨w, e, S, R, h⟩ => (Post.la R h).mono fun vs H1 ⟨ds, w1, e1, S1, R1, x1, r1, p1⟩ => by
    by_cases hz : ds.length ≤ 2 ^ 24
    · rw [if_pos hz] at p1
      obtain ⟨ds', e1, k⟩ := p1.now R1
      cases e1
      exact ⟨by rw [r1.len]; exact hz, fun pp hp => k pp vs hp r1⟩
    · rw [if_neg hz] at p1
      exact p1.elim
theorem lst_lst {m : M (List D)} : ∀ e S d e' S', (m.bind fun xs => if xs.length ≤ 2 ^ 24 then M.pure (D.lst xs) else .bad) e S = .ok d e' S' → ∃ ds, d = .lst ds := by
  intro e S d e' S' h
  unfold M.bind at h
  split at h
  · dsimp only at h
    split at h
    · cases h
      exact ⟨_, rfl⟩
    · cases h
  · cases h
  · cases h
/-- xs + ys, xs * k as new lists -/
theorem jn_add {a b : Expr} {p : Pos} {ma mb : M Hd} (ja : JH W X a ma) (jb : JH W X b mb) : JN W X (.BinOp a .Add b p) (ma.bind fun x => mb.bind fun y => (res x).bind fun x => (res y).bind fun y => M.opt (bop .add x y)) := fun Wx tk =>
  PE.imp (pe_op op_cat (ja Wx tk) (jb Wx tk)) fun σ H Q ⟨w, e, S, R, h⟩ => (two R h).mono fun x H1 h1 => h1.mono fun y H2 ⟨vx, vy, w2, e2, S2, R2, x2, rx, ry, p4⟩ => by
    obtain ⟨d, ed, p5⟩ := p4.opt1
    obtain ⟨ds, rfl, k⟩ := p5.now R2
    rcases bop_cases ed with ⟨i, j, n, _, _, _, hh⟩ | ⟨_, a, b, _, _, _, hh⟩ | ⟨_, a, b, _, _, _, hh⟩ | ⟨_, a, b, ha, hb, hz, hh⟩ | ⟨hh, _⟩ <;> cases hh
    obtain ⟨p, vs, rfl, h1, r1⟩ := lstOf_r R2.sub rx ha
    obtain ⟨q, us, rfl, h2, r2⟩ := lstOf_r R2.sub ry hb
    exact ⟨_, _, _, _, rfl, rfl, h1, h2, by rw [r1.len, r2.len]; exact hz, fun pp hp => k pp _ hp (r1.append r2)⟩
theorem jn_mul {a b : Expr} {p : Pos} {ma mb : M Hd} (ja : JH W X a ma) (jb : JH W X b mb) : JN W X (.BinOp a .Mult b p) (ma.bind fun x => mb.bind fun y => (res x).bind fun x => (res y).bind fun y => M.opt (bop .mul x y)) := fun Wx tk =>
  PE.imp (pe_op op_rep (ja Wx tk) (jb Wx tk)) fun σ H Q ⟨w, e, S, R, h⟩ => (two R h).mono fun x H1 h1 => h1.mono fun y H2 ⟨vx, vy, w2, e2, S2, R2, x2, rx, ry, p4⟩ => by
    obtain ⟨d, ed, p5⟩ := p4.opt1
    obtain ⟨ds, rfl, k⟩ := p5.now R2
    rcases bop_cases ed with ⟨i, j, n, _, _, _, hh⟩ | ⟨hh, _⟩ | ⟨hh, _⟩ | ⟨hh, _⟩ | ⟨_, a, n, ha, rfl, hz, hh⟩ <;> cases hh
    cases ry
    obtain ⟨p, vs, rfl, h1, r1⟩ := lstOf_r R2.sub rx ha
    exact ⟨_, _, _, rfl, rfl, h1, hz.1, hz.2.1, by rw [r1.len]; exact hz.2.2, fun pp hp => k pp _ hp (r1.rep _)⟩
/-- a new list, put into a cell -/
theorem jv_cell {t : Expr} {m : M D} (h : JN W X t m) : JV W X t (cellM m) := fun Wx tk => PE.imp (h Wx tk) fun σ H Q q => tV_cell q
/-- a def at an address, called so deep -/
def FnAt (W : Wd) (X : Cx) (call : Call) (key : Str × Str) (n : Nat) (f : Addr) : Prop := ∃ fd ps, FnOk X.prog X.w X.K X.mg X.base (L2.CX X.prog X.w) n f fd ps (spF W call key) ∧ Binds X.K fd ps []
/-- what an __init__ promises: the object, made -/
def spI (W : Wd) (call : Call) (c : Str) : Sp := fun vs H Q E => ∃ x rest dx C H0 w S ds, vs = .ref x :: rest ∧ H = upd (upd H0 dx (.own x)) x (.ins C dx []) ∧ H0 x = none ∧ H0 dx = none ∧ dx ≠ x ∧ W.cls c = some C ∧
  Rel W w S H0 [] [] ∧ RpL W w.F w.ad rest ds ∧ PostC W w H0 (call (c, "__init__") ds S) (fun v H' => v = .ref x → Q .non H') E
def FnMk (W : Wd) (X : Cx) (call : Call) (c : Str) (n : Nat) (f : Addr) : Prop := ∃ fd ps, FnOk X.prog X.w X.K X.mg X.base (L2.CX X.prog X.w) n f fd ps (spI W call c) ∧ Binds X.K fd ps []
/-- what the classes must say of fields, properties, methods -/
structure ClsOk (W : Wd) (X : Cx) (A : Api) (n : Nat) : Prop where
  K : W.K = X.K
  room : Room (n + 2) X.A
  fld : ∀ c f C, A.fld c f = true → W.cls c = some C → Cls X.K C ∧ NoAttr X.K C f
  prop : ∀ c f C, A.prop c f = true → W.cls c = some C → Cls X.K C ∧ ∃ p g, PropOf X.K C f p g ∧ FnAt W X A.call (c, f) n g
  meth : ∀ c m C, (m == ("__init__" : Str)) = false → A.prop c m = false → A.has (c, m) = true → W.cls c = some C → Cls X.K C ∧ ∃ g, Meth X.K C m g ∧ FnAt W X A.call (c, m) n g
  fn : ∀ f, A.has ("", f) = true → ∃ g, X.mg f = some (.ref g) ∧ PySem.W.keepIn X.K (.ref g) = true ∧ FnAt W X A.call ("", f) n g
  made : ∀ c, A.has (c, "__init__") = true → ∃ C g, W.cls c = some C ∧ X.mg c = some (.ref C) ∧ Mk X.K C g ∧ FnMk W X A.call c n g
theorem jv_fld {a : Expr} {p : Pos} {f : Str} {m : M Hd} {A : Api} {n : Nat} (C : ClsOk W X A n) (ja : JH W X a m) (hb : attributeBase a f X.env (eval a X.env) = eval a X.env) :
    JV W X (.Attribute a f p) (m.bind fun h => (res h).bind fun v => fldV A v f) := fun Wx tk => by
  refine ⟨fun pins s σ H Q I ⟨w, e, S, R, h⟩ => ?_⟩
  refine attr_of hb (thn ((ja Wx tk).run pins s σ H _ I (Post.hd R h)) fun u s1 ⟨x, H1, I1, rx, d, w1, e1, S1, R1, x1, r1, p1⟩ => ?_)
  obtain ⟨vw, rv, p2⟩ := res_post R1 r1 p1
  have hfld : ∀ {c : Str} {fs : List (Str × D)} {aa CC dx : Addr} {vf : List (Str × V)}, x = .ref aa → H1 aa = some (.ins CC dx vf) → W.cls c = some CC → RpF W w1.F w1.ad vf fs → Post W Wx σ w1 H1 ((if A.fld c f = true then M.opt (fs.lookup f) else M.bad) e1 S1) (fun d _ _ w H' => ∀ v, Rp W w.F w.ad v d → Q v H') →
      wpAny (model X.prog X.w) X.A (getAttr u f true) (EP X pins σ Q) X.xe s1 := by
    intro c fs aa CC dx vf ex ha hc rf p3
    subst ex
    obtain rfl : u = Value.ref aa := rx
    by_cases hf : A.fld c f = true
    · rw [if_pos hf] at p3
      obtain ⟨d, ed, p4⟩ := p3.opt1
      obtain ⟨vv, lv, rvv⟩ := rf.look ed
      obtain ⟨k1, k2⟩ := C.fld c f CC hf hc
      exact getattr_ok I1 ha k1 k2 lv fun u' s2 I2 ru => ⟨vv, H1, I2, ru, p4.now R1 vv rvv⟩
    · rw [if_neg hf] at p3
      exact p3.elim
  cases vw with
  | d z =>
    cases z with
    | obj c fs =>
      have rv' : Rp W w1.F w1.ad x (.obj c fs) := rv
      have hx := rv'
      cases rv' with
      | obj ha hc rf =>
        have p3 : Post W Wx σ w1 H1 ((if A.prop c f = true then M.noRz (A.run (c, f) [.obj c fs]) else if A.fld c f = true then M.opt (fs.lookup f) else M.bad) e1 S1) (fun d _ _ w H' => ∀ v, Rp W w.F w.ad v d → Q v H') := p2
        by_cases hp : A.prop c f = true
        · rw [if_pos hp] at p3
          obtain ⟨k1, pp, g, k2, fd, ps, F, B⟩ := C.prop c f _ hp hc
          obtain rfl : u = Value.ref _ := rx
          have p4 : Post W (fun _ _ _ _ => False) σ w1 H1 (A.run (c, f) [.obj c fs] e1 S1) (fun d _ _ w H' => ∀ v, Rp W w.F w.ad v d → Q v H') := by
            unfold M.noRz at p3
            cases q : A.run (c, f) [.obj c fs] e1 S1 with
            | ok d e2 S2 =>
              rw [q] at p3
              exact p3
            | rz z e2 S2 =>
              rw [q] at p3
              exact p3.elim
            | bad =>
              rw [q] at p3
              exact p3.elim
          exact getprop_ok I1 (R1.sub _ _ ha) k1 k2 F (C.room.mono (by omega)) B .nil (fun pins σ H s e s' I c => by
            obtain ⟨_, _, _, _, _, _, _, _, _, _, _, _, z⟩ := c
            exact z) (run_sp R1 (.cons hx .nil) p4 fun d S' w' H' v x2 R2 k rv2 => k v rv2)
        · rw [if_neg hp] at p3
          exact hfld rfl (R1.sub _ _ ha) hc rf p3
    | _ => exact p2.elim
  | c z =>
    cases z with
    | lst xs => exact p2.elim
    | ob c fs =>
      obtain ⟨aa, rfl, CC, dx, vf, ha, hc, rf⟩ := rv
      exact hfld rfl ha hc rf p2
theorem ix_r {vw : Vw} {i : Int} {d : D} (l : Le w.F H) (r : VwR W w H v vw) (h : ixV vw i = some d) : ∃ a vs u, v = .ref a ∧ (SqL W.K H a vs ∨ SqT W.K H a vs) ∧ atI vs i = some u ∧ Rp W w.F w.ad u d := by
  obtain ⟨p, hp, h2⟩ := Option.bind_eq_some_iff.mp h
  obtain ⟨a, vs, rfl, r1, hs⟩ := r.items l hp
  obtain ⟨j, hj, h3⟩ := Option.bind_eq_some_iff.mp h2
  obtain ⟨u, hu, ru⟩ := r1.get h3
  refine ⟨a, vs, u, rfl, ?_, ?_, ru⟩
  · split at hs
    · exact .inr hs
    · exact .inl hs
  · exact Option.bind_eq_some_iff.mpr ⟨j, by rw [r1.len]; exact hj, hu⟩
theorem jv_ix {a b : Expr} {p : Pos} {m : M Hd} {n : M D} (hK : W.K = X.K) (ja : JH W X a m) (jb : JV W X b n) (hs : PlainIx b) :
    JV W X (.Subscript a b p) (m.bind fun h => n.bind fun i => match i with
    | .int i => (res h).bind fun v => M.opt (ixV v i)
    | _ => .bad) := fun Wx tk =>
  PE.imp (pe_ix (IxR.or ix_list ix_tup) (ja Wx tk) (jb Wx tk) hs) fun σ H Q ⟨w, e, S, R, h⟩ => (Post.hd R h).mono fun x H1 ⟨hd, w1, e1, S1, R1, x1, r1, p1⟩ => (Post.va R1 p1).mono fun y H2 ⟨d, w2, e2, S2, R2, x2, r2, p2⟩ => by
    cases d with
    | int i =>
      obtain rfl := int_inv r2
      obtain ⟨vw, rv, p3⟩ := res_post R2 (r1.ext x2) p2
      obtain ⟨d, ed, p4⟩ := p3.opt1
      obtain ⟨aa, vs, u, rfl, hq, hu, ru⟩ := ix_r R2.sub rv ed
      rw [hK] at hq
      rcases hq with hq | hq
      · exact .inl ⟨aa, vs, i, u, rfl, rfl, hq, hu, p4.now R2 u ru⟩
      · exact .inr ⟨aa, vs, i, u, rfl, rfl, hq, hu, p4.now R2 u ru⟩
    | _ => exact p2.elim
end
end Vm
namespace Vm
open PySem PySem.Spec L2
open PyProof.Rows hiding St
section
variable {α β : Type} {W : Wd} {X : Cx} {Wx : L2.WX} {σ : St} {w w' : Wr} {H H' : Hp} {e : Env} {S : Store} {x y v : V}
def tO (W : Wd) (Wx : L2.WX) (m : M (Option Int)) : TO := fun σ H Q => Run W Wx σ H m fun o _ _ _ H' => Q o H'
def JO (W : Wd) (X : Cx) (t : Option Expr) (m : M (Option Int)) : Prop := ∀ Wx, Takes X Wx → PO X t (tO W Wx m)
theorem PO.imp {e : Option Expr} {t t' : TO} (h : PO X e t) (k : ∀ σ H Q, t' σ H Q → t σ H Q) : PO X e t' := ⟨fun pins s σ H Q I q => h.run pins s σ H Q I (k σ H Q q)⟩
theorem tO.mono {m : M (Option Int)} {Q Q' : Option Int → Hp → Prop} (h : tO W Wx m σ H Q) (k : ∀ v H', Q v H' → Q' v H') : tO W Wx m σ H Q' := by
  obtain ⟨w, e, S, R, p⟩ := h
  exact ⟨w, e, S, R, p.imp fun a e S w' H' _ _ z => k a H' z⟩
theorem Post.oa {m : M (Option Int)} {f : Option Int → M β} {K : β → Env → Store → Wr → Hp → Prop} (R : Rel W w S H σ e) (h : Post W Wx σ w H ((M.bind m f) e S) K) :
    tO W Wx m σ H fun b H1 => ∃ w1 e1 S1, Rel W w1 S1 H1 σ e1 ∧ Ext w H w1 H1 ∧ Post W Wx σ w1 H1 (f b e1 S1) K :=
  ⟨w, e, S, R, h.bind.imp fun a e1 S1 w1 H1 x R1 p => ⟨w1, e1, S1, R1, x, p⟩⟩
theorem jo_none : JO W X none (.pure none) := fun Wx tk => PO.imp po_none fun σ H Q ⟨w, e, S, R, h⟩ => h.now R
theorem jo_some {a : Expr} {m : M D} (ja : JV W X a m) : JO W X (some a) (m.bind fun d => match d with
    | .int i => .pure (some i)
    | _ => .bad) := fun Wx tk =>
  PO.imp (po_some (ja Wx tk)) fun σ H Q ⟨w, e, S, R, h⟩ => (Post.va R h).mono fun v H1 ⟨d, w1, e1, S1, R1, x1, r1, p1⟩ => by
    cases d with
    | int i =>
      obtain rfl := int_inv r1
      exact ⟨i, rfl, p1.now R1⟩
    | _ => exact p1.elim
theorem cut_r {vs : List V} {ds : List D} {F : Hp} {ad : List Addr} (lo hi : Option Int) (r : RpL W F ad vs ds) : RpL W F ad (cutV vs lo hi) (slV.cut lo hi ds) := by
  unfold cutV slV.cut
  rw [r.len]
  exact (r.drop _).take _
theorem sl_inv {vw : Vw} {lo hi : Option Int} {d : D} (h : slV vw lo hi = some d) : ∃ p, vw.items = some p ∧ d = if p.1 = true then .tup (slV.cut lo hi p.2) else .lst (slV.cut lo hi p.2) := by
  obtain ⟨p, hp, rfl⟩ := Option.map_eq_some_iff.mp h
  exact ⟨p, hp, rfl⟩
theorem cutV_all {vs : List V} {lo hi : Option Int} (h : HT.sIx vs.length 0 lo = 0 ∧ HT.sIx vs.length vs.length hi = vs.length) : cutV vs lo hi = vs := by
  unfold cutV
  rw [h.1, h.2]
  simp
theorem tup_r {vw : Vw} {p : Bool × List D} (r : VwR W w H v vw) (h : vw.items = some p) (hb : p.1 = true) : Rp W w.F w.ad v (.tup p.2) := by
  cases vw with
  | d z =>
    cases z with
    | tup zs =>
      cases h
      exact r
    | lst _ => cases h; cases hb
    | scr _ => cases h; cases hb
    | _ => cases h
  | c z =>
    cases z with
    | lst _ => cases h; cases hb
    | ob _ _ => cases h
/-- the slice's parts -/
theorem three {ma : M Hd} {ml mh : M (Option Int)} {β : Type} {f : Vw → Option Int → Option Int → M β} {K : β → Env → Store → Wr → Hp → Prop} (R : Rel W w S H σ e)
    (h : Post W Wx σ w H ((ma.bind fun x => ml.bind fun l => mh.bind fun r => (res x).bind fun v => f v l r) e S) K) :
    tHd W Wx ma σ H fun x H1 => tO W Wx ml σ H1 fun l H2 => tO W Wx mh σ H2 fun r H3 => ∃ vx w2 e2 S2, Rel W w2 S2 H3 σ e2 ∧ Ext w H w2 H3 ∧ VwR W w2 H3 x vx ∧ Post W Wx σ w2 H3 (f vx l r e2 S2) K :=
  (Post.hd R h).mono fun x H1 ⟨hx, w1, e1, S1, R1, x1, r1, p1⟩ => (Post.oa R1 p1).mono fun l H2 ⟨w2, e2, S2, R2, x2, p2⟩ => (Post.oa R2 p2).mono fun r H3 ⟨w3, e3, S3, R3, x3, p3⟩ => by
    obtain ⟨vx, rx, p4⟩ := res_post R3 ((r1.ext x2).ext x3) p3
    exact ⟨vx, w3, e3, S3, R3, (x1.trans x2).trans x3, rx, p4⟩
theorem jv_sl {a : Expr} {lo hi : Option Expr} {p p2 : Pos} {m : M Hd} {ml mh : M (Option Int)} (hK : W.K = X.K) (ja : JH W X a m) (jl : JO W X lo ml) (jh : JO W X hi mh) :
    JV W X (.Subscript a (.Slice lo hi none p2) p) (m.bind fun h => ml.bind fun l => mh.bind fun r => (res h).bind fun v => M.opt (slV v l r)) := fun Wx tk =>
  PE.imp (pe_slice (SlR.or sl_list sl_tupF) (ja Wx tk) (jl Wx tk) (jh Wx tk)) fun σ H Q ⟨w, e, S, R, h⟩ => (three R h).mono fun x H1 h1 => h1.mono fun l H2 h2 => h2.mono fun r H3 ⟨vx, w2, e2, S2, R2, x2, rx, p4⟩ => by
    obtain ⟨d, ed, p5⟩ := p4.opt1
    obtain ⟨pr, hp, rfl⟩ := sl_inv ed
    obtain ⟨aa, vs, rfl, r1, hs⟩ := rx.items R2.sub hp
    rw [hK] at hs
    have rc := cut_r l r r1
    by_cases hb : pr.1 = true
    · rw [if_pos hb] at hs p5
      refine .inr ⟨aa, vs, rfl, hs, fun hall => ?_, fun _ => lay_tup R2 rc (fun v w3 H4 x3 R3 rv => p5 w3 H4 x3 R3 v rv)⟩
      have e3 : slV.cut l r pr.2 = pr.2 := by
        have hl : vs.length = pr.2.length := r1.len
        unfold slV.cut
        rw [hl] at hall
        rw [hall.1, hall.2]
        simp
      rw [e3] at p5
      exact p5.now R2 _ (tup_r rx hp hb)
    · rw [if_neg hb] at hs p5
      exact .inl ⟨aa, vs, rfl, hs, fun pp hpp => lay_lst R2 rc (fun v w3 H4 x3 R3 rv => p5 w3 H4 x3 R3 v rv) pp hpp⟩
theorem jn_sl {a : Expr} {lo hi : Option Expr} {p p2 : Pos} {m : M Hd} {ml mh : M (Option Int)} (hK : W.K = X.K) (ja : JH W X a m) (jl : JO W X lo ml) (jh : JO W X hi mh) :
    JN W X (.Subscript a (.Slice lo hi none p2) p) (m.bind fun h => ml.bind fun l => mh.bind fun r => (res h).bind fun v => M.opt (slV v l r)) := fun Wx tk =>
  PE.imp (pe_slice sl_list (ja Wx tk) (jl Wx tk) (jh Wx tk)) fun σ H Q ⟨w, e, S, R, h⟩ => (three R h).mono fun x H1 h1 => h1.mono fun l H2 h2 => h2.mono fun r H3 ⟨vx, w2, e2, S2, R2, x2, rx, p4⟩ => by
    obtain ⟨d, ed, p5⟩ := p4.opt1
    obtain ⟨pr, hp, rfl⟩ := sl_inv ed
    obtain ⟨aa, vs, rfl, r1, hs⟩ := rx.items R2.sub hp
    rw [hK] at hs
    have rc := cut_r l r r1
    obtain ⟨ds, eq, k⟩ := p5.now R2
    by_cases hb : pr.1 = true
    · rw [if_pos hb] at eq
      cases eq
    · rw [if_neg hb] at hs eq
      cases eq
      exact ⟨aa, vs, rfl, hs, fun pp hpp => k pp _ hpp rc⟩
/-- what a built-in's rule owes -/
def BtOk (W : Wd) (r : List V → Hp → VK → Prop) (b : Bt) : Prop :=
  ∀ (σ : St) (w : Wr) (H : Hp) (e : Env) (S : Store) (vs : List V) (vws : List Vw) (d : D) (Q : VK), Rel W w S H σ e → VwRs W w H vs vws → btF b vws = some d →
    (∀ v w' H', Ext w H w' H' → Rel W w' S H' σ e → Rp W w'.F w'.ad v d → Q v H') → r vs H Q
theorem blt_run {es : List Expr} {mhs : M (List Hd)} {b : Bt} {r : List V → Hp → VK → Prop} {t : Expr} (jh : JHs W X es mhs) (ok : BtOk W r b) (pe : ∀ ta : TA, PA X es ta → PE X t (tCB r ta)) :
    JV W X t (mhs.bind fun hs => (ress hs).bind fun vs => M.opt (btF b vs)) := fun Wx tk =>
  PE.imp (pe _ (jh Wx tk)) fun σ H Q ⟨w, e, S, R, h⟩ => (Post.hs R h).mono fun vs H1 ⟨hs, w1, e1, S1, R1, x1, r1, p1⟩ => by
    obtain ⟨vws, rv, p2⟩ := ress_post R1 r1 p1
    obtain ⟨d, ed, p3⟩ := p2.opt1
    exact ok σ w1 H1 e1 S1 vs vws d Q R1 rv ed fun v w' H' x' R' rv' => p3 w' H' x' R' v rv'
theorem allI_r {F : Hp} {ad : List Addr} : ∀ {ds : List D} {vs : List V} {ns : List Int}, RpL W F ad vs ds → allI ds = some ns → vs = ns.map V.int
  | [], _, _, .nil, h => by cases h; rfl
  | .int i :: ds, _, _, .cons a r, h => by
    obtain ⟨ms, hm, rfl⟩ := Option.map_eq_some_iff.mp (show (allI ds).map (i :: ·) = some _ from h)
    obtain rfl := int_inv a
    rw [allI_r r hm]
    rfl
  | .non :: _, _, _, _, h => by cases h
  | .bl _ :: _, _, _, _, h => by cases h
  | .str _ :: _, _, _, _, h => by cases h
  | .tup _ :: _, _, _, _, h => by cases h
  | .lst _ :: _, _, _, _, h => by cases h
  | .scr _ :: _, _, _, _, h => by cases h
  | .obj _ _ :: _, _, _, _, h => by cases h
  | .ref _ :: _, _, _, _, h => by cases h
theorem allB_r {F : Hp} {ad : List Addr} : ∀ {ds : List D} {vs : List V} {ns : List Bool}, RpL W F ad vs ds → allB ds = some ns → vs = ns.map V.bl
  | [], _, _, .nil, h => by cases h; rfl
  | .bl i :: ds, _, _, .cons a r, h => by
    obtain ⟨ms, hm, rfl⟩ := Option.map_eq_some_iff.mp (show (allB ds).map (i :: ·) = some _ from h)
    obtain rfl := bl_inv a
    rw [allB_r r hm]
    rfl
  | .non :: _, _, _, _, h => by cases h
  | .int _ :: _, _, _, _, h => by cases h
  | .str _ :: _, _, _, _, h => by cases h
  | .tup _ :: _, _, _, _, h => by cases h
  | .lst _ :: _, _, _, _, h => by cases h
  | .scr _ :: _, _, _, _, h => by cases h
  | .obj _ _ :: _, _, _, _, h => by cases h
  | .ref _ :: _, _, _, _, h => by cases h
theorem one_inv {vs : List V} {v : Vw} (r : VwRs W w H vs [v]) : ∃ x, vs = [x] ∧ VwR W w H x v := by
  cases r with
  | cons a r =>
    cases r
    exact ⟨_, rfl, a⟩
theorem two_inv {vs : List V} {v u : Vw} (r : VwRs W w H vs [v, u]) : ∃ x y, vs = [x, y] ∧ VwR W w H x v ∧ VwR W w H y u := by
  cases r with
  | cons a r =>
    obtain ⟨y, rfl, b⟩ := one_inv r
    exact ⟨_, _, rfl, a, b⟩
theorem blt_len : BtOk W (fun xs H Q => ∃ x n, xs = [x] ∧ LenV W.K x H n ∧ Q (.int n) H) .len := by
  intro σ w H e S vs vws d Q R r h k
  have h2 : bLen vws = some d := h
  unfold bLen at h2
  split at h2
  · split at h2
    · cases h2
      obtain ⟨x, rfl, rx⟩ := one_inv r
      cases rx
      exact ⟨_, _, rfl, ⟨by assumption, rfl⟩, k _ w H (Ext.refl _ _) R (.int _)⟩
    · cases h2
  · obtain ⟨p, hp, rfl⟩ := Option.map_eq_some_iff.mp h2
    obtain ⟨x, rfl, rx⟩ := one_inv r
    obtain ⟨a, us, rfl, r1, hs⟩ := rx.items R.sub hp
    refine ⟨_, p.2.length, rfl, ?_, k _ w H (Ext.refl _ _) R (.int _)⟩
    split at hs
    · exact .inr ⟨us, hs, r1.len.symm⟩
    · exact .inl ⟨us, hs, r1.len.symm⟩
  · cases h2
theorem blt_abs : BtOk W (fun xs H Q => ∃ i, xs = [.int i] ∧ Q (.int (if i < 0 then -i else i)) H) .abs := by
  intro σ w H e S vs vws d Q R r h k
  have h2 : bAbs vws = some d := h
  unfold bAbs at h2
  split at h2
  · cases h2
    obtain ⟨x, rfl, rx⟩ := one_inv r
    cases rx
    exact ⟨_, rfl, k _ w H (Ext.refl _ _) R (.int _)⟩
  · cases h2
theorem blt_int : BtOk W (fun xs H Q => (∃ i, xs = [.int i] ∧ Q (.int i) H) ∨ ∃ k, xs = [.bl k] ∧ Q (.int (if k then 1 else 0)) H) .int := by
  intro σ w H e S vs vws d Q R r h k
  have h2 : bInt vws = some d := h
  unfold bInt at h2
  split at h2
  · cases h2
    obtain ⟨x, rfl, rx⟩ := one_inv r
    cases rx
    exact .inl ⟨_, rfl, k _ w H (Ext.refl _ _) R (.int _)⟩
  · cases h2
    obtain ⟨x, rfl, rx⟩ := one_inv r
    cases rx
    exact .inr ⟨_, rfl, k _ w H (Ext.refl _ _) R (.int _)⟩
  · cases h2
theorem blt_min2 : BtOk W (fun xs H Q => ∃ i j, xs = [.int i, .int j] ∧ Q (.int (if j < i then j else i)) H) .min2 := by
  intro σ w H e S vs vws d Q R r h k
  have h2 : bMin2 vws = some d := h
  unfold bMin2 at h2
  split at h2
  · cases h2
    obtain ⟨x, y, rfl, rx, ry⟩ := two_inv r
    cases rx
    cases ry
    exact ⟨_, _, rfl, k _ w H (Ext.refl _ _) R (.int _)⟩
  · cases h2
theorem blt_max2 : BtOk W (fun xs H Q => ∃ i j, xs = [.int i, .int j] ∧ Q (.int (if j > i then j else i)) H) .max2 := by
  intro σ w H e S vs vws d Q R r h k
  have h2 : bMax2 vws = some d := h
  unfold bMax2 at h2
  split at h2
  · cases h2
    obtain ⟨x, y, rfl, rx, ry⟩ := two_inv r
    cases rx
    cases ry
    exact ⟨_, _, rfl, k _ w H (Ext.refl _ _) R (.int _)⟩
  · cases h2
/-- sum of a list, a tuple of ints -/
def rSumA (K : PySem.W.Frag) : List V → Hp → VK → Prop := fun vs H Q => ∃ (a : Addr) (ns : List Int), vs = [V.ref a] ∧ (SqL K H a (ns.map V.int) ∨ SqT K H a (ns.map V.int)) ∧ Q (.int ns.sum) H
theorem cr_sumA (hc : X.calm = true) : CallR X (.builtin "sum") (rSumA X.K) := by
  intro pins s σ H vs us Q I r h
  obtain ⟨a, ns, rfl, hs, q⟩ := h
  rcases hs with hs | hs
  · exact cr_sum hc pins s σ H _ us Q I r ⟨a, ns, rfl, hs, q⟩
  · obtain ⟨its, rv, hl, _⟩ := I.tuple hs
    rw [Vals.ref1 r]
    obtain ⟨xs, ex⟩ := rv.ints.allInts.items
    have hn : numsOf (intItems xs).toList = ns := by
      rw [← ex]
      exact rv.ints.numsOf
    rw [nums_intItems] at hn
    rw [ex] at hl
    refine PySem.W.ktm_sumG (I.ok.hd hc) hl fun h' tk t' hk => ?_
    rw [preSum_eq, List.take_of_length_le (by simp), hn]
    exact ⟨.int _, H, I.kept hk, ⟨_, rfl⟩, q⟩
theorem blt_sum : BtOk W (rSumA W.K) .sum := by
  intro σ w H e S vs vws d Q R r h k
  have h2 : bSum vws = some d := h
  unfold bSum at h2
  split at h2
  · obtain ⟨p, hp, h3⟩ := Option.bind_eq_some_iff.mp h2
    obtain ⟨ns, hn, rfl⟩ := Option.map_eq_some_iff.mp h3
    obtain ⟨x, rfl, rx⟩ := one_inv r
    obtain ⟨a, us, rfl, r1, hs⟩ := rx.items R.sub hp
    obtain rfl := allI_r r1 hn
    refine ⟨_, ns, rfl, ?_, k _ w H (Ext.refl _ _) R (.int _)⟩
    split at hs
    · exact .inr hs
    · exact .inl hs
  · cases h2
theorem blt_any : BtOk W (rAny W.K) .any := by
  intro σ w H e S vs vws d Q R r h k
  have h2 : bAny vws = some d := h
  unfold bAny at h2
  split at h2
  · obtain ⟨p, hp, h3⟩ := Option.bind_eq_some_iff.mp h2
    obtain ⟨x, rfl, rx⟩ := one_inv r
    obtain ⟨a, us, rfl, r1, hs⟩ := rx.items R.sub hp
    split at h3
    · cases h3
    · rename_i hb
      obtain ⟨ns, hn, rfl⟩ := Option.map_eq_some_iff.mp h3
      obtain rfl := allB_r r1 hn
      rw [if_neg hb] at hs
      exact ⟨_, ns, rfl, hs, k _ w H (Ext.refl _ _) R (.bl _)⟩
  · cases h2
theorem blt_all : BtOk W (rAll W.K) .all := by
  intro σ w H e S vs vws d Q R r h k
  have h2 : bAll vws = some d := h
  unfold bAll at h2
  split at h2
  · obtain ⟨p, hp, h3⟩ := Option.bind_eq_some_iff.mp h2
    obtain ⟨x, rfl, rx⟩ := one_inv r
    obtain ⟨a, us, rfl, r1, hs⟩ := rx.items R.sub hp
    split at h3
    · cases h3
    · rename_i hb
      obtain ⟨ns, hn, rfl⟩ := Option.map_eq_some_iff.mp h3
      obtain rfl := allB_r r1 hn
      rw [if_neg hb] at hs
      exact ⟨_, ns, rfl, hs, k _ w H (Ext.refl _ _) R (.bl _)⟩
  · cases h2
theorem blt_tuple : BtOk W (fun xs H Q => ∃ p ys, xs = [.ref p] ∧ ((SqL W.K H p ys ∧ NewT ys H Q) ∨ (SqT W.K H p ys ∧ Q (.ref p) H))) .tuple := by
  intro σ w H e S vs vws d Q R r h k
  have h2 : bTuple vws = some d := h
  unfold bTuple at h2
  split at h2
  · obtain ⟨p, hp, rfl⟩ := Option.map_eq_some_iff.mp h2
    obtain ⟨x, rfl, rx⟩ := one_inv r
    obtain ⟨a, us, rfl, r1, hs⟩ := rx.items R.sub hp
    refine ⟨_, us, rfl, ?_⟩
    by_cases hb : p.1 = true
    · rw [if_pos hb] at hs
      exact .inr ⟨hs, k _ w H (Ext.refl _ _) R (tup_r rx hp hb)⟩
    · rw [if_neg hb] at hs
      exact .inl ⟨hs, lay_tup R r1 k⟩
  · cases h2
theorem blt_list : BtOk W (fun xs H Q => ∃ p ys, xs = [.ref p] ∧ (SqL W.K H p ys ∨ SqT W.K H p ys) ∧ ∀ l, H l = none → Q (.ref l) (upd H l (.lst ys))) .list := by
  intro σ w H e S vs vws d Q R r h k
  have h2 : bList vws = some d := h
  unfold bList at h2
  split at h2
  · obtain ⟨p, hp, rfl⟩ := Option.map_eq_some_iff.mp h2
    obtain ⟨x, rfl, rx⟩ := one_inv r
    obtain ⟨a, us, rfl, r1, hs⟩ := rx.items R.sub hp
    refine ⟨_, us, rfl, ?_, fun l hl => lay_lst R r1 k l hl⟩
    split at hs
    · exact .inr hs
    · exact .inl hs
  · cases h2
/-- list(x) as a new list -/
theorem jn_list {es : List Expr} {mhs : M (List Hd)} {t : Expr} (hK : W.K = X.K) (jh : JHs W X es mhs) (pe : ∀ ta : TA, PA X es ta → PE X t (tCB (fun xs H Q => ∃ p ys, xs = [.ref p] ∧ (SqL X.K H p ys ∨ SqT X.K H p ys) ∧ ∀ l, H l = none → Q (.ref l) (upd H l (.lst ys))) ta)) :
    JN W X t (mhs.bind fun hs => (ress hs).bind fun vs => M.opt (btF .list vs)) := fun Wx tk =>
  PE.imp (pe _ (jh Wx tk)) fun σ H Q ⟨w, e, S, R, h⟩ => (Post.hs R h).mono fun vs H1 ⟨hs, w1, e1, S1, R1, x1, r1, p1⟩ => by
    obtain ⟨vws, rv, p2⟩ := ress_post R1 r1 p1
    obtain ⟨d, ed, p3⟩ := p2.opt1
    obtain ⟨ds, rfl, k⟩ := p3.now R1
    have h2 : bList vws = some (.lst ds) := ed
    unfold bList at h2
    split at h2
    · obtain ⟨p, hp, hd⟩ := Option.map_eq_some_iff.mp h2
      cases hd
      obtain ⟨x, rfl, rx⟩ := one_inv rv
      obtain ⟨a, us, rfl, r2, hs⟩ := rx.items R1.sub hp
      rw [hK] at hs
      refine ⟨_, us, rfl, ?_, fun l hl => k l _ hl r2⟩
      split at hs
      · exact .inr hs
      · exact .inl hs
    · cases h2
theorem kit_tab {K : PySem.W.Frag} : ∀ t ∈ ["NoneType", "bool", "int", "str", "tuple", "list"], ∀ c ∈ ["int", "bool", "str", "list", "tuple"], PySem.W.kitOne K (.type t) (.type c) = some (isi1 t c) := by
  intro t ht c hc
  have q : ∀ t ∈ ["NoneType", "bool", "int", "str", "tuple", "list"], ∀ c ∈ ["int", "bool", "str", "list", "tuple"], kitB t c = some (isi1 t c) := by decide +kernel
  exact kit_ty (q t ht c hc)
theorem sqT_ty {K : PySem.W.Frag} {a : Addr} {xs : List V} (h : SqT K H a xs) : TyX K H (.ref a) (.type "tuple") := by
  rcases h with h | ⟨o, its, n, h1, h2, _⟩
  · rcases h with h | ⟨o, h⟩
    · exact .base (.tup h)
    · exact .fTuple h
  · exact .kTuple h1 h2
theorem ty_r {vw : Vw} {t : String} (l : Le w.F H) (r : VwR W w H v vw) (h : tyOf vw = some t) : TyX W.K H v (.type t) ∧ t ∈ ["NoneType", "bool", "int", "str", "tuple", "list"] := by
  unfold tyOf at h
  split at h
  · cases h; cases r; exact ⟨.base .non, by decide⟩
  · cases h; cases r; exact ⟨.base (.bl _), by decide⟩
  · cases h; cases r; exact ⟨.base (.int _), by decide⟩
  · cases h; cases r; exact ⟨.base (.str _), by decide⟩
  · cases h
    cases r with
    | tup q1 q2 => exact ⟨sqT_ty (TupF.sq l q1), by decide⟩
  · cases h
    cases r with
    | lst q1 q2 => exact ⟨.base (.lst (l _ _ q1)), by decide⟩
  · cases h
    obtain ⟨a, rfl, vs, q1, q2⟩ := r
    exact ⟨.base (.lst q1), by decide⟩
  · cases h
theorem jv_isi {a : Expr} {T : Str} {t : String} {p p1 p2 : Pos} {m : M Hd} (hK : W.K = X.K) (ja : JH W X a m) (hs : starred a = false) (ht : t ∈ ["int", "bool", "str", "list", "tuple"]) (pT : PE X (.Name T p2) (tC (.ty t))) (hg : Gl X "isinstance") (hm : X.mg "isinstance" = none) :
    JV W X (.Call (.Name "isinstance" p1) [a, .Name T p2] [] p) ((m.bind fun x => (M.pure []).bind fun xs => .pure (x :: xs)).bind fun hs => (ress hs).bind fun vs => M.opt (btF (.isi [t]) vs)) := fun Wx tk =>
  PE.imp (pe_callB call_isi hg hm PyProof.Rows.Boot.«isinstance» (pa_cons (ja Wx tk) (pa_cons pT pa_nil rfl) (star_eq hs)) (by decide) (by decide) (star_eq hs) rfl) fun σ H Q ⟨w, e, S, R, h⟩ => by
    rw [M.bind_assoc] at h
    refine (Post.hd R h).mono fun v H1 ⟨hd, w1, e1, S1, R1, x1, r1, p1⟩ => ?_
    obtain ⟨vws, rv, p2⟩ := ress_post (hs := [hd]) R1 (.cons r1 .nil) p1
    obtain ⟨d, ed, p3⟩ := p2.opt1
    have h2 : bIsi [t] vws = some d := ed
    unfold bIsi at h2
    split at h2
    · obtain ⟨ty, hty, rfl⟩ := Option.map_eq_some_iff.mp h2
      obtain ⟨x, ex, rx⟩ := one_inv rv
      cases ex
      obtain ⟨q1, q2⟩ := ty_r R1.sub rx hty
      rw [hK] at q1
      refine ⟨_, _, .type ty, .type t, isi1 ty t, rfl, .ty t, q1, kit_tab ty q2 t ht, ?_⟩
      have p4 := p3.now R1 (.bl (isi1 ty t))
      simp only [List.any_cons, List.any_nil, Bool.or_false] at p4
      exact p4 (.bl _)
    · cases h2
end
end Vm
namespace Vm
open PySem PySem.Spec L2
open PyProof.Rows hiding St
section
variable {α β : Type} {W : Wd} {X : Cx} {Wx : L2.WX} {σ : St} {w w' : Wr} {H H' : Hp} {e : Env} {S : Store} {x y v : V}
theorem PE.or {t : Expr} {a b : TE} (h : PE X t a) (k : PE X t b) : PE X t (fun σ H Q => a σ H Q ∨ b σ H Q) := ⟨fun pins s σ H Q I q => q.elim (h.run pins s σ H Q I) (k.run pins s σ H Q I)⟩
theorem few_eq {es : List Expr} {env : PySem.Env} {p : Pos} (h : es.any starred = false) (hn : es.length < 30) : ((backTo p (starEach es env)).all (fun x => !x.1) && (backToKw p (keywordEach [] env)).all (fun x => x.1.isSome)
      && decide (es.length + ([] : List Keyword).length + (if ([] : List Keyword).isEmpty then 0 else 1) < 30)) = true := by
  have h1 : (backTo p (starEach es env)).all (fun x => !x.1) = true := by
    have := plain_eq (env := env) (p := p) h
    rw [List.all_eq_not_any_not]
    simp only [Bool.not_not]
    rw [this]
    rfl
  rw [h1]
  have h2 : decide (es.length + ([] : List Keyword).length + (if ([] : List Keyword).isEmpty then 0 else 1) < 30) = true := by
    simp
    exact hn
  rw [h2]
  rfl
/-- the place of a handle -/
theorem plOf_post {h : Hd} {a : Addr} {f : Pl → M β} {K : β → Env → Store → Wr → Hp → Prop} (R : Rel W w S H σ e) (r : HdR W w σ (.ref a) h) (p : Post W Wx σ w H ((M.bind (plOf h) f) e S) K) :
    ∃ pl, Post W Wx σ w H (f pl e S) K ∧ (∀ c, (∃ i, pl = .s i ∧ e.getD i .emp = .own c) ∨ (∃ k, pl = .k k ∧ S.getD k none = some c) → PlAt W w H S σ e a c pl) := by
  cases h with
  | s i =>
    have hs := R.slot i
    have r' : σ[i]? = some (some (.ref a)) := r
    cases q : e.getD i .emp with
    | emp =>
      have z : plOf (.s i) e S = .bad := by unfold plOf; dsimp only; rw [q]
      rw [bind_bad z] at p
      exact p.elim
    | own c =>
      have z : plOf (.s i) e S = .ok (.s i) e S := by unfold plOf; dsimp only; rw [q]
      rw [bind_ok z] at p
      rw [q] at hs
      obtain ⟨b, h1, h2, h3⟩ := hs
      rw [r'] at h1
      cases h1
      refine ⟨.s i, p, fun c' hc => ?_⟩
      rcases hc with ⟨j, ej, hj⟩ | ⟨k, ek, _⟩
      · cases ej
        rw [q] at hj
        cases hj
        exact ⟨q, h2, h3, r'⟩
      · cases ek
    | val d =>
      cases d with
      | ref k =>
        have z : plOf (.s i) e S = .ok (.k k) e S := by unfold plOf; dsimp only; rw [q]
        rw [bind_ok z] at p
        rw [q] at hs
        obtain ⟨b, h1, h2⟩ := hs
        rw [r'] at h1
        cases h1
        cases h2 with
        | ref ha =>
          refine ⟨.k k, p, fun c' hc => ?_⟩
          rcases hc with ⟨j, ej, hj⟩ | ⟨k', ek, hk⟩
          · cases ej
          · cases ek
            obtain ⟨b, k1, k2, k3⟩ := R.cell k c' hk
            rw [ha] at k1
            cases k1
            exact ⟨hk, k2, k3, ha⟩
      | _ =>
        have z : plOf (.s i) e S = .bad := by unfold plOf; dsimp only; rw [q]
        rw [bind_bad z] at p
        exact p.elim
  | d d =>
    cases d with
    | ref k =>
      have z : plOf (.d (.ref k)) e S = .ok (.k k) e S := rfl
      rw [bind_ok z] at p
      cases (show Rp W w.F w.ad (.ref a) (.ref k) from r) with
      | ref ha =>
        refine ⟨.k k, p, fun c' hc => ?_⟩
        rcases hc with ⟨j, ej, hj⟩ | ⟨k', ek, hk⟩
        · cases ej
        · cases ek
          obtain ⟨b, k1, k2, k3⟩ := R.cell k c' hk
          rw [ha] at k1
          cases k1
          exact ⟨hk, k2, k3, ha⟩
    | _ => exact p.elim
theorem getC_post {pl : Pl} {f : Cell → M β} {K : β → Env → Store → Wr → Hp → Prop} (p : Post W Wx σ w H ((M.bind (getC pl) f) e S) K) :
    ∃ c, Post W Wx σ w H (f c e S) K ∧ ((∃ i, pl = .s i ∧ e.getD i .emp = .own c) ∨ (∃ k, pl = .k k ∧ S.getD k none = some c)) := by
  cases pl with
  | s i =>
    cases q : e.getD i .emp with
    | own c =>
      have z : getC (.s i) e S = .ok c e S := by unfold getC; dsimp only; rw [q]
      rw [bind_ok z] at p
      exact ⟨c, p, .inl ⟨i, rfl, q⟩⟩
    | emp =>
      have z : getC (.s i) e S = .bad := by unfold getC; dsimp only; rw [q]
      rw [bind_bad z] at p
      exact p.elim
    | val d =>
      have z : getC (.s i) e S = .bad := by unfold getC; dsimp only; rw [q]
      rw [bind_bad z] at p
      exact p.elim
  | k k =>
    cases q : S.getD k none with
    | some c =>
      have z : getC (.k k) e S = .ok c e S := by unfold getC; dsimp only; rw [q]
      rw [bind_ok z] at p
      exact ⟨c, p, .inr ⟨k, rfl, q⟩⟩
    | none =>
      have z : getC (.k k) e S = .bad := by unfold getC; dsimp only; rw [q]
      rw [bind_bad z] at p
      exact p.elim
theorem setC_eq (pl : Pl) (c : Cell) : setC pl c e S = .ok () (setE pl c e) (setSt pl c S) := by
  cases pl <;> rfl
/-- a handle's address -/
theorem hd_ref {h : Hd} {f : Unit → M β} {K : β → Env → Store → Wr → Hp → Prop} (R : Rel W w S H σ e) (r : HdR W w σ v h) (p : Post W Wx σ w H ((M.bind (isLst h) f) e S) K) :
    ∃ a vs, v = .ref a ∧ H a = some (.lst vs) ∧ Post W Wx σ w H (f () e S) K := by
  unfold isLst at p
  rw [M.bind_assoc] at p
  obtain ⟨vw, rv, p2⟩ := res_post R r p
  cases vw with
  | d d => exact p2.elim
  | c c =>
    cases c with
    | lst xs =>
      obtain ⟨a, rfl, vs, h1, h2⟩ := rv
      exact ⟨a, vs, rfl, h1, p2⟩
    | ob c fs => exact p2.elim
/-- a value that a method takes: as it is, or (extend) a list to be read -/
def ArgR (W : Wd) (w : Wr) (H : Hp) (m : Mt) (vs : List V) (ds : List D) : Prop := match m with
  | .extend => ∃ b us ys, vs = [.ref b] ∧ ds = [.lst ys] ∧ H b = some (.lst us) ∧ RpL W w.F w.ad us ys
  | _ => RpL W w.F w.ad vs ds
theorem args_post {m : Mt} {vs : List V} {ds : List D} {f : List D → M β} {K : β → Env → Store → Wr → Hp → Prop} (R : Rel W w S H σ e) (r : RpL W w.F w.ad vs ds) (p : Post W Wx σ w H ((M.bind (mtArgs m ds) f) e S) K) :
    ∃ ds', ArgR W w H m vs ds' ∧ Post W Wx σ w H (f ds' e S) K := by
  cases m with
  | extend =>
    cases ds with
    | nil => exact p.elim
    | cons d ds =>
      cases ds with
      | cons _ _ => exact p.elim
      | nil =>
        cases r with
        | cons ra rr =>
          cases rr
          have p1 : Post W Wx σ w H ((M.bind (M.bind (resD d) fun v => M.bind (M.opt (lstOf v)) fun ys => M.pure [D.lst ys]) f) e S) K := p
          rw [M.bind_assoc] at p1
          obtain ⟨vw, rv, p2⟩ := resD_post R ra p1
          rw [M.bind_assoc] at p2
          obtain ⟨ys, hy, p3⟩ := p2.opt
          obtain ⟨b, us, rfl, h1, h2⟩ := lstOf_r R.sub rv hy
          exact ⟨[.lst ys], ⟨b, us, ys, rfl, rfl, h1, h2⟩, p3⟩
  | append => exact ⟨ds, r, p⟩
  | pop => exact ⟨ds, r, p⟩
  | popAt => exact ⟨ds, r, p⟩
  | insert => exact ⟨ds, r, p⟩
  | clear => exact ⟨ds, r, p⟩
  | reverse => exact ⟨ds, r, p⟩
/-- what a method's rule owes -/
def MtOk (W : Wd) (r : V → List V → Hp → VK → Prop) (m : Mt) : Prop :=
  ∀ (w : Wr) (H : Hp) (a : Addr) (us vs : List V) (xs ds : List D) (d : D) (ys : List D) (Q : VK), H a = some (.lst us) → us.length ≤ sizeLine → RpL W w.F w.ad us xs → ArgR W w H m vs ds → mtF m xs ds = some (d, ys) →
    (∀ v us', RpL W w.F w.ad us' ys → Rp W w.F w.ad v d → Q v (upd H a (.lst us'))) → r (.ref a) vs H Q
theorem mk_append : MtOk W rAppend .append := by
  intro w H a us vs xs ds d ys Q ha hz r ra h k
  have h2 : mAppend xs ds = some (d, ys) := h
  unfold mAppend at h2
  split at h2
  · split at h2
    · cases h2
      cases (show RpL W w.F w.ad vs [_] from ra) with
      | cons r1 r2 =>
        cases r2
        exact ⟨a, us, _, rfl, rfl, ha, by rw [r.len]; assumption, k _ _ (r.append (.cons r1 .nil)) .non⟩
    · cases h2
  · cases h2
theorem mk_extend : MtOk W rExtend .extend := by
  intro w H a us vs xs ds d ys Q ha hz r ra h k
  have h2 : mExtend xs ds = some (d, ys) := h
  unfold mExtend at h2
  split at h2
  · split at h2
    · cases h2
      obtain ⟨b, zs, ys, rfl, e, hb, r2⟩ := (show ∃ b us ys, vs = [.ref b] ∧ [D.lst _] = [.lst ys] ∧ H b = some (.lst us) ∧ RpL W w.F w.ad us ys from ra)
      cases e
      exact ⟨a, b, us, zs, rfl, rfl, ha, hb, by rw [r.len, r2.len]; assumption, k _ _ (r.append r2) .non⟩
    · cases h2
  · cases h2
theorem mk_pop : MtOk W rPop .pop := by
  intro w H a us vs xs ds d ys Q ha hz r ra h k
  have h2 : mPop xs ds = some (d, ys) := h
  unfold mPop at h2
  split at h2
  · obtain ⟨y, hy, e⟩ := Option.map_eq_some_iff.mp h2
    cases e
    cases (show RpL W w.F w.ad vs [] from ra)
    obtain ⟨u, hu, ru⟩ := r.get hy
    exact ⟨a, us, u, rfl, rfl, ha, by rw [r.len]; exact hu, k _ _ r.dropLast ru⟩
  · cases h2
theorem mk_popAt : MtOk W rPopAt .popAt := by
  intro w H a us vs xs ds d ys Q ha hz r ra h k
  have h2 : mPopAt xs ds = some (d, ys) := h
  unfold mPopAt at h2
  split at h2
  · obtain ⟨j, hj, h3⟩ := Option.bind_eq_some_iff.mp h2
    obtain ⟨y, hy, e⟩ := Option.map_eq_some_iff.mp h3
    cases e
    cases (show RpL W w.F w.ad vs [_] from ra) with
    | cons r1 r2 =>
      cases r2
      obtain rfl := int_inv r1
      obtain ⟨u, hu, ru⟩ := r.get hy
      obtain ⟨q1, q2, q3, q4⟩ := ixN_seq hj
      have hl : xs.length ≤ 2 ^ 24 := by
        rw [← r.len]
        exact hz
      exact ⟨a, us, _, j, u, rfl, rfl, ha, by omega, by omega, by rw [r.len]; exact q1, hu, k _ _ (r.erase j) ru⟩
  · cases h2
theorem mk_insert : MtOk W (fun x vs H Q => ∃ (l : Addr) (xs : List V) (i : Int) (y : V), x = .ref l ∧ vs = [.int i, y] ∧ H l = some (.lst xs) ∧ xs.length < sizeLine ∧ 0 ≤ i ∧ i < 2 ^ 63 ∧ Q .non (upd H l (.lst (xs.take i.toNat ++ [y] ++ xs.drop i.toNat)))) .insert := by
  intro w H a us vs xs ds d ys Q ha hz r ra h k
  have h2 : mInsert xs ds = some (d, ys) := h
  unfold mInsert at h2
  split at h2
  · split at h2
    · rename_i hc
      cases h2
      cases (show RpL W w.F w.ad vs [_, _] from ra) with
      | cons r1 r2 =>
        cases r2 with
        | cons r2 r3 =>
          cases r3
          obtain rfl := int_inv r1
          exact ⟨a, us, _, _, rfl, rfl, ha, by rw [r.len]; exact hc.2.2, hc.1, hc.2.1, k _ _ (((r.take _).append (.cons r2 .nil)).append (r.drop _)) .non⟩
    · cases h2
  · cases h2
theorem mk_clear : MtOk W rClear .clear := by
  intro w H a us vs xs ds d ys Q ha hz r ra h k
  have h2 : mClear ds = some (d, ys) := h
  unfold mClear at h2
  split at h2
  · cases h2
    cases (show RpL W w.F w.ad vs [] from ra)
    exact ⟨a, us, rfl, rfl, ha, k _ _ .nil .non⟩
  · cases h2
theorem mk_reverse : MtOk W rReverse .reverse := by
  intro w H a us vs xs ds d ys Q ha hz r ra h k
  have h2 : mReverse xs ds = some (d, ys) := h
  unfold mReverse at h2
  split at h2
  · cases h2
    cases (show RpL W w.F w.ad vs [] from ra)
    exact ⟨a, us, rfl, rfl, ha, k _ _ r.rev .non⟩
  · cases h2
/-- the change itself, behind the arguments -/
theorem mut_fin {m : Mt} {h : Hd} {a : Addr} {vs : List V} {ds : List D} {r : V → List V → Hp → VK → Prop} {Q : VK} (ok : MtOk W r m) (R : Rel W w S H σ e) (rh : HdR W w σ (.ref a) h) (rv : RpL W w.F w.ad vs ds) (hsz : ∀ us, H a = some (.lst us) → us.length ≤ sizeLine)
    (p : Post W Wx σ w H (((mtArgs m ds).bind fun ds => (plOf h).bind fun p => (getC p).bind fun c => match c with
    | .lst xs => (M.opt (mtF m xs ds)).bind fun r => (setC p (.lst r.2)).bind fun _ => .pure r.1
    | _ => .bad) e S) fun d _ _ w H' => ∀ v, Rp W w.F w.ad v d → Q v H') : r (.ref a) vs H Q := by
  obtain ⟨ds', ra, p1⟩ := args_post R rv p
  obtain ⟨pl, p2, hpl⟩ := plOf_post R rh p1
  obtain ⟨c, p3, hc⟩ := getC_post p2
  have at_ := hpl c hc
  cases c with
  | ob _ _ => exact p3.elim
  | lst xs =>
    obtain ⟨⟨d, ys⟩, hf, p4⟩ := p3.opt
    have hcell : CellAt W w H a (.lst xs) := by
      cases pl with
      | s i => exact at_.2.1
      | k k => exact at_.2.1
    obtain ⟨us, h1, h2⟩ := hcell
    refine ok w H a us vs xs ds' d ys Q h1 (hsz us h1) h2 ra hf fun v us' ru rd => ?_
    obtain ⟨x2, R2⟩ := R.change (o := .lst us') (c' := .lst ys) at_ ⟨us', upd_same, ru⟩ nofun
    rw [bind_ok (setC_eq pl (.lst ys))] at p4
    exact p4 w _ x2 R2 v rd
end
section
variable {W : Wd} {X : Cx} {Wx : L2.WX} {σ : St} {w : Wr} {H : Hp} {e : Env} {S : Store}
def tBZ (r : V → List V → Hp → VK → Prop) (to : TE) (t : TA) : TE := fun σ H Q => to σ H fun x H1 => (∃ a us, x = .ref a ∧ H1 a = some (.lst us)) ∧ t σ H1 fun xs H2 => (∀ us a, H2 a = some (.lst us) → us.length ≤ sizeLine) → r x xs H2 Q
/-- o.m(e, ..), o a list that may be changed -/
theorem pe_bZ {o e : Expr} {es : List Expr} {name : Str} {apos cpos : Pos} {id : String} {r : V → List V → Hp → VK → Prop} {to : TE} {t : TA} (slot : PySem.Slot "list" name id) (hty : typeOf (.builtin id) = pure (.type "method_descriptor")) (hm : MtR X id r) (ho : PE X o to) (ha : PA X (e :: es) t)
    (hbase : attributeBase o name X.env (eval o X.env) = eval o X.env) (hst : (e :: es).any starred = false) (hn : (e :: es).length < 30) (hline : (apos.endLine == cpos.line) = true) : PE X (.Call (.Attribute o name apos) (e :: es) [] cpos) (tBZ r to t) := by
  have h1 : starred e = false ∧ es.any starred = false := by
    rw [List.any_cons, Bool.or_eq_false_iff] at hst
    exact hst
  refine ⟨fun pins s σ H Q I h => ?_⟩
  refine wpAny_Call_method_late hbase (few_eq hst hn) hline rfl (thn (ho.run pins s σ H _ I h) fun v s1 ⟨x, H1, I1, r1, ty, q1⟩ => ?_)
  obtain ⟨a, us, ex, hu⟩ := ty
  obtain ⟨h2, h3⟩ := tyV_is I1 r1 (show tyV X.K "list" x H1 by rw [ex]; exact .inl ⟨rfl, us, SqL.of hu⟩)
  refine ⟨"list", id, PySem.F.plainAttrs_list, slot, hty, h2, h3, ?_⟩
  have hA := ha.run cpos pins s1 σ H1 _ I1 q1
  rw [star_eq h1.1] at hA ⊢
  refine Calls.callWith_builtin (by show (false || (backTo cpos (starEach es X.env)).any (·.1)) = false; rw [plain_eq h1.2] <;> rfl) (Calls.evalArgs_plain ?_)
  exact thn hA fun us s2 ⟨vs, H2, I2, r2, q2⟩ => hm pins s2 σ H2 x vs v us Q I2 r1 r2 (q2 fun us a q => (I2.hok a _ q).1)
theorem pe_bZ0 {o : Expr} {name : Str} {apos cpos : Pos} {id : String} {r : V → List V → Hp → VK → Prop} {to : TE} (slot : PySem.Slot "list" name id) (hty : typeOf (.builtin id) = pure (.type "method_descriptor")) (hm : MtR X id r) (ho : PE X o to)
    (hbase : attributeBase o name X.env (eval o X.env) = eval o X.env) (hline : (apos.endLine == cpos.line) = true) : PE X (.Call (.Attribute o name apos) [] [] cpos) (tBZ r to tNil) := by
  refine ⟨fun pins s σ H Q I h => ?_⟩
  refine wpAny_Call_method0_late hbase hline (thn (ho.run pins s σ H _ I h) fun v s1 ⟨x, H1, I1, r1, ty, q1⟩ => ?_)
  obtain ⟨a, us, ex, hu⟩ := ty
  obtain ⟨h2, h3⟩ := tyV_is I1 r1 (show tyV X.K "list" x H1 by rw [ex]; exact .inl ⟨rfl, us, SqL.of hu⟩)
  exact ⟨"list", id, PySem.F.plainAttrs_list, slot, hty, h2, h3, Calls.callWith_builtin rfl (PySem.evalArgs_none (hm pins s1 σ H1 x [] v [] Q I1 r1 .nil (q1 fun us a q => (I1.hok a _ q).1)))⟩
/-- the library's names of a method -/
structure MtId (m : Mt) (name : Str) (id : String) : Prop where
  slot : PySem.Slot "list" name id
  ty : typeOf (.builtin id) = pure (.type "method_descriptor")
def mutM (mh : M Hd) (ml : M (List D)) (m : Mt) : M D := mh.bind fun h => (isLst h).bind fun _ => ml.bind fun ds => (mtArgs m ds).bind fun ds => (plOf h).bind fun p => (getC p).bind fun c => match c with
    | .lst xs => (M.opt (mtF m xs ds)).bind fun r => (setC p (.lst r.2)).bind fun _ => .pure r.1
    | _ => .bad
theorem mut_main {o : Expr} {es : List Expr} {name : Str} {apos cpos : Pos} {m : Mt} {mh : M Hd} {ml : M (List D)} {r : V → List V → Hp → VK → Prop} (ok : MtOk W r m) (t : TA) (ht : ∀ σ H Q, tL W Wx ml σ H Q → t σ H Q)
    (pe : PE X (.Call (.Attribute o name apos) es [] cpos) (tBZ r (tHd W Wx mh) t)) : PE X (.Call (.Attribute o name apos) es [] cpos) (tV W Wx (mutM mh ml m)) :=
  PE.imp pe fun σ H Q ⟨w, e, S, R, h⟩ => (Post.hd R h).mono fun x H1 ⟨hd, w1, e1, S1, R1, x1, r1, p1⟩ => by
    obtain ⟨a, us, rfl, hu, p2⟩ := hd_ref R1 r1 p1
    refine ⟨⟨a, us, rfl, hu⟩, ht _ _ _ ((Post.la R1 p2).mono fun vs H2 ⟨ds, w2, e2, S2, R2, x2, r2, p3⟩ hsz => ?_)⟩
    exact mut_fin ok R2 (r1.ext x2) r2 (fun us q => hsz us a q) p3
theorem jv_mut {o e : Expr} {es : List Expr} {name : Str} {apos cpos : Pos} {id : String} {m : Mt} {mh : M Hd} {ml : M (List D)} {r : V → List V → Hp → VK → Prop} (i : MtId m name id) (hm : MtR X id r) (ok : MtOk W r m) (jo : JH W X o mh) (jl : JL W X (e :: es) ml)
    (hbase : attributeBase o name X.env (eval o X.env) = eval o X.env) (hst : (e :: es).any starred = false) (hn : (e :: es).length < 30) (hline : (apos.endLine == cpos.line) = true) :
    JV W X (.Call (.Attribute o name apos) (e :: es) [] cpos) (mutM mh ml m) := fun Wx tk =>
  mut_main ok _ (fun _ _ _ q => q) (pe_bZ i.slot i.ty hm (jo Wx tk) (jl Wx tk) hbase hst hn hline)
theorem jv_mut0 {o : Expr} {name : Str} {apos cpos : Pos} {id : String} {m : Mt} {mh : M Hd} {r : V → List V → Hp → VK → Prop} (i : MtId m name id) (hm : MtR X id r) (ok : MtOk W r m) (jo : JH W X o mh)
    (hbase : attributeBase o name X.env (eval o X.env) = eval o X.env) (hline : (apos.endLine == cpos.line) = true) :
    JV W X (.Call (.Attribute o name apos) [] [] cpos) (mutM mh (.pure []) m) := fun Wx tk =>
  mut_main ok tNil (fun σ H Q ⟨w, e, S, R, p⟩ => p.now R [] .nil) (pe_bZ0 i.slot i.ty hm (jo Wx tk) hbase hline)
end
end Vm
namespace Vm
open PySem PySem.Spec L2
open PyProof.Rows hiding St
section
variable {α β : Type} {W : Wd} {X : Cx} {Wx : L2.WX} {σ : St} {w w' : Wr} {H H' : Hp} {e : Env} {S : Store} {x y v : V}
theorem items_tyM {vw : Vw} {p : Bool × List D} (hK : W.K = X.K) (l : Le w.F H) (r : VwR W w H v vw) (h : vw.items = some p) : TyM X.K (if p.1 then "tuple" else "list") v H := by
  cases vw with
  | d z =>
    cases z with
    | tup zs =>
      cases h
      cases r with
      | tup h1 r1 =>
        rw [hK] at h1
        exact ⟨_, rfl, .inr ⟨rfl, _, TupF.le l h1⟩⟩
    | lst _ =>
      cases h
      cases r with
      | lst h1 r1 => exact ⟨_, rfl, .inl ⟨rfl, _, SqL.of (l _ _ h1)⟩⟩
    | scr _ =>
      cases h
      cases r with
      | scr h1 =>
        rw [hK] at h1
        exact ⟨_, rfl, .inl ⟨rfl, _, sqL_le l h1⟩⟩
    | _ => cases h
  | c z =>
    cases z with
    | lst _ =>
      cases h
      obtain ⟨a, rfl, vs, h1, _⟩ := r
      exact ⟨_, rfl, .inl ⟨rfl, vs, SqL.of h1⟩⟩
    | ob _ _ => cases h
theorem cnt_inv {k : Bool} {vw vx : Vw} {d : D} (h : bCount k vw vx = some d) : ∃ p a, vw.items = some p ∧ p.1 = k ∧ vx.toD = some a ∧ okP a.py = true ∧ okP (PyData.list (D.pys p.2)) = true ∧ d = .int ((D.pys p.2).countP fun z => PyData.eqv z a.py : Nat) := by
  obtain ⟨p, hp, h2⟩ := Option.bind_eq_some_iff.mp h
  by_cases hk : (p.1 == k) = true
  · rw [if_pos hk] at h2
    obtain ⟨a, ha, h3⟩ := Option.bind_eq_some_iff.mp h2
    by_cases ho : (okP a.py && okP (PyData.list (D.pys p.2))) = true
    · rw [if_pos ho] at h3
      cases h3
      have ho2 := Bool.and_eq_true_iff.mp ho
      exact ⟨p, a, hp, beq_iff_eq.mp hk, ha, ho2.1, ho2.2, rfl⟩
    · rw [if_neg ho] at h3
      cases h3
  · rw [if_neg hk] at h2
    cases h2
theorem cnt_r {vw vx : Vw} {k : Bool} {u : V} {d : D} {Q : VK} (hK : W.K = X.K) (l : Le w.F H) (r : VwR W w H v vw) (rx : VwR W w H u vx) (h : bCount k vw vx = some d) (q : ∀ v, Rp W w.F w.ad v d → Q v H) : rCntP X.K k v [u] H Q := by
  obtain ⟨p, a, hp, hk, ha, o1, o2, rfl⟩ := cnt_inv h
  have pl2 : PyData.plainAll (D.pys p.2) = true := by simpa only [PyData.plain] using okP_plain o2
  have dx := rx.dp l ha (okP_plain o1)
  obtain ⟨aa, vs, rfl, r1, hs⟩ := r.items l hp
  have hd := RpL.dp l r1 pl2
  rw [hK] at dx hs hd
  subst hk
  refine ⟨aa, u, _, D.pys p.2, rfl, rfl, ?_, dx, pl2, okP_plain o1, okP_depth o1, q _ (.int _)⟩
  by_cases hb : p.1 = true
  · rw [if_pos hb] at hs ⊢
    exact .tup hs hd
  · rw [if_neg hb] at hs ⊢
    exact .lst hs hd
theorem jv_cnt {o a : Expr} {apos cpos : Pos} {mo ma : M Hd} (hK : W.K = X.K) (hu : X.A.units + 66 < cLine) (jo : JH W X o mo) (ja : JH W X a ma) (hs : starred a = false)
    (hbase : attributeBase o "count" X.env (eval o X.env) = eval o X.env) (hline : (apos.endLine == cpos.line) = true) :
    JV W X (.Call (.Attribute o "count" apos) [a] [] cpos) (mo.bind fun h => (res h).bind fun v => (M.opt (v.items.map fun p => p.1)).bind fun k => ma.bind fun g => (res h).bind fun v => (res g).bind fun x => M.opt (bCount k v x)) := fun Wx tk => by
  have hst : [a].any starred = false := by simp [hs]
  refine ⟨fun pins s σ H Q I ⟨w, e, S, R, h⟩ => ?_⟩
  refine wpAny_Call_method_late hbase (few_eq hst (by show 1 < 30; decide)) hline rfl (thn ((jo Wx tk).run pins s σ H _ I (Post.hd R h)) fun v s1 ⟨x, H1, I1, r1, hd, w1, e1, S1, R1, x1, rh, p1⟩ => ?_)
  obtain ⟨vw, rv, p2⟩ := res_post R1 rh p1
  obtain ⟨k, hk, p3⟩ := p2.opt
  obtain ⟨p, hp, ek⟩ := Option.map_eq_some_iff.mp hk
  have tm := items_tyM (X := X) hK R1.sub rv hp
  rw [ek] at tm
  obtain ⟨t1, t2⟩ := tm.is I1 r1
  have fin : ∀ id, MtR X id (rCntP X.K k) → wpAny (model X.prog X.w) X.A (callWith cpos (.builtin id) [v] (backTo cpos (starEach [a] X.env)) []) (EP X pins σ Q) X.xe s1 := fun id hm => by
    have hA := (pa_cons (ja Wx tk) pa_nil (star_eq hs)).run cpos pins s1 σ H1 (fun us H2 => rCntP X.K k x us H2 Q) I1 ((Post.hd R1 p3).mono fun u H2 ⟨g, w2, e2, S2, R2, x2, rg, p4⟩ => by
      obtain ⟨vw2, rv2, p5⟩ := res_post R2 (rh.ext x2) p4
      obtain ⟨vx, rx, p6⟩ := res_post R2 rg p5
      obtain ⟨d, ed, p7⟩ := p6.opt1
      exact cnt_r hK R2.sub rv2 rx ed (p7.now R2))
    rw [star_eq hs] at hA ⊢
    exact Calls.callWith_builtin (by rfl) (Calls.evalArgs_plain (thn hA fun us s2 ⟨vs, H2, I2, r2, q2⟩ => hm pins s2 σ H2 x vs v us Q I2 r1 r2 q2))
  cases k with
  | true => exact ⟨"tuple", "tuple.count", PySem.F.plainAttrs_tuple, PySem.F.slot_tuple_count, PySem.F.type_tuple_count, t1, t2, fin _ (mt_countT hu)⟩
  | false => exact ⟨"list", "list.count", PySem.F.plainAttrs_list, PySem.F.slot_list_count, PySem.F.type_list_count, t1, t2, fin _ (mt_countL hu)⟩
theorem star_any {es : List Expr} {env : PySem.Env} {p : Pos} (h : es.any starred = false) : (backTo p (starEach es env)).any (·.1) = false := plain_eq h
theorem jv_call {es : List Expr} {x : Str} {p pos : Pos} {ml : M (List D)} {A : Api} {n : Nat} (C : ClsOk W X A n) (hg : Gl X x) (hdb : (x == ("__debug__" : Str)) = false) (hst : es.any starred = false) (h0 : es = [] → ml = .pure []) (jl : JL W X es ml) :
    JV W X (.Call (.Name x p) es [] pos) (if A.has ("", x) then ml.bind fun xs => A.run ("", x) xs else .bad) := fun Wx tk => by
  refine ⟨fun pins s σ H Q I ⟨w, e, S, R, h⟩ => ?_⟩
  by_cases hh : A.has ("", x) = true
  · rw [if_pos hh] at h
    obtain ⟨g, hm, hk, fd, ps, F, B⟩ := C.fn x hh
    have hr : Room n X.A := C.room.mono (by omega)
    have fin : ∀ us s1 vs H1 ds w1 e1 S1, Inv X pins σ H1 s1 → Vals vs us → Rel W w1 S1 H1 σ e1 → RpL W w1.F w1.ad vs ds → Post W Wx σ w1 H1 (A.run ("", x) ds e1 S1) (fun d _ _ w H' => ∀ v, Rp W w.F w.ad v d → Q v H') →
        wpAny (model X.prog X.w) X.A (call (.ref g) us) (EP X pins σ Q) X.xe s1 := fun us s1 vs H1 ds w1 e1 S1 I1 r1 R1 rl p1 =>
      run_fnSD F hr B .nil (passAt tk σ) I1 r1 (by
        rw [List.append_nil]
        exact run_sp R1 rl p1 fun d S' w' H' v x2 R2 k rv => k v rv)
    refine wpAny_Call_Name_kw (ld_glob I hg hm ?_ hdb)
    cases es with
    | nil =>
      rw [h0 rfl] at h
      exact PySem.W.callWith_K0 I.kIn hk (fin [] s [] H [] w e S I .nil R .nil h)
    | cons a es =>
      have h1 : starred a = false ∧ es.any starred = false := by
        rw [List.any_cons, Bool.or_eq_false_iff] at hst
        exact hst
      refine PySem.W.callWith_K (h₀ := X.base) I.ok.mod.kin hk (thn ((jl Wx tk).run pos pins s σ H _ I (Post.la R h)) fun us s1 ⟨vs, H1, I1, r, ds, w1, e1, S1, R1, x1, r1, p1⟩ => ⟨I1.kIn, ?_⟩) (star_eq h1.1) (plain_eq h1.2)
      exact fin us s1 vs H1 ds w1 e1 S1 I1 r R1 r1 p1
  · rw [if_neg hh] at h
    exact h.elim
theorem gate_r {A : Api} {m c : Str} {vw : Vw} {n : Nat} (C : ClsOk W X A n) (l : Le w.F H) (r : VwR W w H v vw) (h : gate A m vw = some c) :
    ∃ a CC dx vf g, v = .ref a ∧ H a = some (.ins CC dx vf) ∧ vf.lookup m = none ∧ Cls X.K CC ∧ Meth X.K CC m g ∧ FnAt W X A.call (c, m) n g := by
  obtain ⟨⟨c', fs⟩, h1, h2⟩ := Option.bind_eq_some_iff.mp h
  dsimp only at h2
  split at h2
  · rename_i hc
    cases h2
    have hc' : A.has (c, m) = true ∧ fs.lookup m = none ∧ A.prop c m = false ∧ (m == ("__init__" : Str)) = false := by
      simp only [Bool.and_eq_true, Option.isNone_iff_eq_none, Bool.not_eq_true'] at hc
      exact ⟨hc.1.1.1, hc.1.1.2, hc.1.2, hc.2⟩
    obtain ⟨k1, k2, k3, k4⟩ := hc'
    unfold clsOf at h1
    split at h1
    · cases h1
      cases r with
      | obj ha hcl rf =>
        obtain ⟨q1, g, q2, q3⟩ := C.meth c m _ k4 k3 k1 hcl
        exact ⟨_, _, _, _, g, rfl, l _ _ ha, rf.lookN k2, q1, q2, q3⟩
    · cases h1
      obtain ⟨a, rfl, CC, dx, vf, ha, hcl, rf⟩ := r
      obtain ⟨q1, g, q2, q3⟩ := C.meth c m _ k4 k3 k1 hcl
      exact ⟨_, _, _, _, g, rfl, ha, rf.lookN k2, q1, q2, q3⟩
    · cases h1
  · cases h2
theorem mform {es : List Expr} {env : PySem.Env} {p : Pos} (h : es.any starred = false) (hn : es.length < 30) : methodCallForm (es.length + ([] : List Keyword).length) (backTo p (starEach es env)) (backToKw p (keywordEach [] env)) = true := by
  have := few_eq (env := env) (p := p) h hn
  unfold methodCallForm
  exact this
theorem mtree {o : Expr} {es : List Expr} {m : Str} {apos pos : Pos} {env : PySem.Env} (hst : es.any starred = false) (hb : attributeBase o m env (eval o env) = eval o env) (hn : es.length < 30) (hline : (apos.endLine == pos.line) = true) :
    eval (.Call (.Attribute o m apos) es [] pos) env = (do
      let ov ← eval o env
      standAt apos.atName
      let (f, first) ← holding [ov] (getMethod ov m (plainOf o env))
      callWith pos f first (backTo pos (starEach es env)) (backToKw pos (keywordEach [] env))) := mcall_of hb fun ov => mcall_line (mform hst hn) hline
theorem jv_meth {o : Expr} {es : List Expr} {m : Str} {apos pos : Pos} {mo : M D} {ml : M (List D)} {A : Api} {n : Nat} (C : ClsOk W X A n) (jo : JV W X o mo) (jl : JL W X es ml) (h0 : es = [] → ml = .pure []) (hst : es.any starred = false)
    (hbase : attributeBase o m X.env (eval o X.env) = eval o X.env) (hn : es.length < 30) (hline : (apos.endLine == pos.line) = true) :
    JV W X (.Call (.Attribute o m apos) es [] pos) (mo.bind fun d => (resD d).bind fun v => (M.opt (gate A m v)).bind fun c => ml.bind fun xs => A.run (c, m) (d :: xs)) := fun Wx tk => by
  refine ⟨fun pins s σ H Q I ⟨w, e, S, R, h⟩ => ?_⟩
  have hr : Room n X.A := C.room.mono (by omega)
  refine PySem.W.methodCall_KW (pl := plainOf o X.env) (thn ((jo Wx tk).run pins s σ H _ I (Post.va R h)) fun u s1 ⟨x, H1, I1, rx, d, w1, e1, S1, R1, x1, r1, p1⟩ => ?_) (mtree hst hbase hn hline)
  obtain ⟨vw, rv, p2⟩ := resD_post R1 r1 p1
  obtain ⟨c, hc, p3⟩ := p2.opt
  obtain ⟨a, CC, dx, vf, g, rfl, ha, hl, q1, q2, fd, ps, F, B⟩ := gate_r C R1.sub rv hc
  obtain rfl : u = Value.ref a := rx
  refine getmeth_ok I1 ha q1 q2 hl ?_
  have fin : ∀ us s2 vs H2 ds w2 e2 S2, Inv X pins σ H2 s2 → Vals vs us → Rel W w2 S2 H2 σ e2 → Rp W w2.F w2.ad (.ref a) d → RpL W w2.F w2.ad vs ds → Post W Wx σ w2 H2 (A.run (c, m) (d :: ds) e2 S2) (fun d _ _ w H' => ∀ v, Rp W w.F w.ad v d → Q v H') →
      wpAny (model X.prog X.w) X.A (call (.ref g) (.ref a :: us)) (EP X pins σ Q) X.xe s2 := fun us s2 vs H2 ds w2 e2 S2 I2 r2 R2 rd rl p4 =>
    run_fnSD (vs := .ref a :: vs) F hr B .nil (passAt tk σ) I2 (.cons rfl r2) (by
      rw [List.append_nil]
      exact run_sp R2 (.cons rd rl) p4 fun d S' w' H' v x2 R2 k rv => k v rv)
  cases es with
  | nil =>
    rw [h0 rfl] at p3
    exact PySem.W.callWith_K0 (first := [.ref a]) I1.kIn q2.kp (fin [] s1 [] H1 [] w1 e1 S1 I1 .nil R1 r1 .nil p3)
  | cons b es =>
    have h1 : starred b = false ∧ es.any starred = false := by
      rw [List.any_cons, Bool.or_eq_false_iff] at hst
      exact hst
    refine PySem.W.callWith_K (first := [.ref a]) (h₀ := X.base) I1.ok.mod.kin q2.kp (thn ((jl Wx tk).run pos pins s1 σ H1 _ I1 (Post.la R1 p3)) fun us s2 ⟨vs, H2, I2, r, ds, w2, e2, S2, R2, x2, r2, p4⟩ => ⟨I2.kIn, ?_⟩) (star_eq h1.1) (plain_eq h1.2)
    exact fin us s2 vs H2 ds w2 e2 S2 I2 r R2 (r1.le x2.F x2.ad) r2 p4
theorem run_sI {A : Api} {c : Str} {ds : List D} {vs : List V} {K : D → Env → Store → Wr → Hp → Prop} {Q : VK} {C a dx : Addr} (hc : W.cls c = some C) (h1 : H a = none) (h2 : H dx = none) (h3 : dx ≠ a) (R : Rel W w S H σ e) (r : RpL W w.F w.ad vs ds) (p : Post W Wx σ w H (A.run (c, "__init__") ds e S) K)
    (k : ∀ d S' w' H' v, Ext w H w' H' → Rel W w' S' H' σ e → K d e S' w' H' → Rp W w'.F w'.ad v d → Q v H') : spI W A.call c (.ref a :: vs) (upd (upd H dx (.own a)) a (.ins C dx [])) (fun v H2 => v = .non ∧ Q (.ref a) H2) fun cls dd H' => Wx cls dd σ H' := by
  obtain ⟨w0, S0, ds0, R0, r0, p0⟩ := run_sp (Q := Q) R r p k
  refine ⟨a, vs, dx, C, H, w0, S0, ds0, rfl, rfl, h1, h2, h3, hc, R0, r0, ?_⟩
  cases q : A.call (c, "__init__") ds0 S0 with
  | ok d S' =>
    rw [q] at p0
    intro w' H' v x R' rv ev
    subst ev
    exact ⟨rfl, p0 w' H' _ x R' rv⟩
  | rz z S' =>
    rw [q] at p0
    exact p0
  | bad =>
    rw [q] at p0
    exact p0
theorem run_makeS {CX : CXT} {C f : Addr} {fd : FuncData} {ps : List Str} {sp : Sp} {E : XK} {k : Nat} {pins : List (Addr × Obj)} {σ : L2.St} {H : Hp} {s : Shared} {Q : VK} {us : List Value} {vs : List V} (M : Mk X.K C f) (F : FnOk X.prog X.w X.K X.mg X.base CX k f fd ps sp) (hr : Room (k + 1) X.A) (hb : Binds X.K fd ps [])
    (hx : PassesAt CX X σ E) (I : Inv X pins σ H s) (r : Vals vs us)
    (h : ∀ x dx, H x = none → H dx = none → dx ≠ x → sp (.ref x :: vs) (upd (upd H dx (.own x)) x (.ins C dx [])) (fun v H2 => v = .non ∧ Q (.ref x) H2) E) :
    wpAny (model X.prog X.w) X.A (call (.ref C) us) (EP X pins σ Q) X.xe s := by
  have hq := h (s.heap.objs.size + 1) s.heap.objs.size (I.hok.fresh (Nat.le_succ _)) (I.hok.fresh (Nat.le_refl _)) (Nat.ne_of_lt (Nat.lt_succ_self _))
  have I2 := Inv.made (C := C) I
  have r2 : Vals (V.ref (s.heap.objs.size + 1) :: vs) (Value.ref (s.heap.objs.size + 1) :: us) := .cons rfl r
  have hl : (Value.ref (s.heap.objs.size + 1) :: us).length = ps.length := by
    have e := r2.length
    rw [F.len _ _ _ _ hq] at e
    exact e.symm
  have hbd := hb _ (Value.ref (s.heap.objs.size + 1) :: us) I2.kIn (by rw [List.append_nil]; exact hl)
  rw [List.append_nil] at hbd
  refine wpAny_call (make_map (f := f) I.kIn M.makes M.init (beq_iff_eq.mp M.fn) (codeAny_mono (F.run _ X.stack _ _ ⟨Value.ref (s.heap.objs.size + 1) :: us, []⟩ (Value.ref (s.heap.objs.size + 1) :: us) _ _ E (hr.make C us [])
    (I2.env0.make C us []) hbd r2 hq) fun r s' hq' => ?_))
  cases r with
  | error e => exact hx pins _ _ e s' I2 hq'
  | ok fl =>
    cases fl with
    | ret u =>
      obtain ⟨v, H', I3, rv, ev, q3⟩ := I2.after hq'
      subst ev
      exact ⟨rv, ⟨V.ref (s.heap.objs.size + 1), H', I3, rfl, q3⟩⟩
    | next => exact False.elim hq'
    | brk => exact False.elim hq'
    | cont => exact False.elim hq'
theorem jv_make {es : List Expr} {x : Str} {p pos : Pos} {ml : M (List D)} {A : Api} {n : Nat} (C : ClsOk W X A n) (hg : Gl X x) (hdb : (x == ("__debug__" : Str)) = false) (hst : es.any starred = false) (h0 : es = [] → ml = .pure []) (jl : JL W X es ml) :
    JV W X (.Call (.Name x p) es [] pos) (if A.has (x, "__init__") then ml.bind fun xs => A.run (x, "__init__") xs else .bad) := fun Wx tk => by
  refine ⟨fun pins s σ H Q I ⟨w, e, S, R, h⟩ => ?_⟩
  by_cases hh : A.has (x, "__init__") = true
  · rw [if_pos hh] at h
    obtain ⟨Cx, g, hcl, hm, mk, fd, ps, F, B⟩ := C.made x hh
    have hr : Room (n + 1) X.A := C.room.mono (by omega)
    have fin : ∀ us s1 vs H1 ds w1 e1 S1, Inv X pins σ H1 s1 → Vals vs us → Rel W w1 S1 H1 σ e1 → RpL W w1.F w1.ad vs ds → Post W Wx σ w1 H1 (A.run (x, "__init__") ds e1 S1) (fun d _ _ w H' => ∀ v, Rp W w.F w.ad v d → Q v H') →
        wpAny (model X.prog X.w) X.A (call (.ref Cx) us) (EP X pins σ Q) X.xe s1 := fun us s1 vs H1 ds w1 e1 S1 I1 r1 R1 rl p1 =>
      run_makeS mk F hr B (passAt tk σ) I1 r1 fun a dx z1 z2 z3 => run_sI hcl z1 z2 z3 R1 rl p1 fun d S' w' H' v x2 R2 k rv => k v rv
    refine wpAny_Call_Name_kw (ld_glob I hg hm ?_ hdb)
    cases es with
    | nil =>
      rw [h0 rfl] at h
      exact PySem.W.callWith_K0 I.kIn mk.kp (fin [] s [] H [] w e S I .nil R .nil h)
    | cons a es =>
      have h1 : starred a = false ∧ es.any starred = false := by
        rw [List.any_cons, Bool.or_eq_false_iff] at hst
        exact hst
      refine PySem.W.callWith_K (h₀ := X.base) I.ok.mod.kin mk.kp (thn ((jl Wx tk).run pos pins s σ H _ I (Post.la R h)) fun us s1 ⟨vs, H1, I1, r, ds, w1, e1, S1, R1, x1, r1, p1⟩ => ⟨I1.kIn, ?_⟩) (star_eq h1.1) (plain_eq h1.2)
      exact fin us s1 vs H1 ds w1 e1 S1 I1 r R1 r1 p1
  · rw [if_neg hh] at h
    exact h.elim
end
end Vm
namespace Vm
open PySem PySem.Spec L2
open PyProof.Rows hiding St
section
variable {α β : Type} {W : Wd} {X : Cx} {Wx : L2.WX} {σ : St} {w w' : Wr} {H H' : Hp} {e : Env} {S : Store} {x y v : V}
def RpG (W : Wd) (tg : Expr) (w : Wr) (H : Hp) (x : V) (d : D) : Prop := Rp W w.F w.ad x d ∨ (isTup tg = true ∧ ∃ T vs ds, x = .ref T ∧ d = .tup ds ∧ H T = some (.tup vs) ∧ RpL W w.F w.ad vs ds)
def tG (W : Wd) (tg : Expr) (g : Tg) : TG := fun v σ H Q => ∃ d w e S e', Rel W w S H σ e ∧ RpG W tg w H v d ∧ Tg.put g d e S = .ok () e' S ∧ ∀ σ', Rel W w S H σ' e' → (∀ i, i ∉ g.slots → σ'[i]? = σ[i]?) → σ'.length = σ.length → Q σ' H
def tGs (W : Wd) (g : Tg) : TGs := fun vs σ H Q => ∃ ds w e S e', Rel W w S H σ e ∧ RpL W w.F w.ad vs ds ∧ Tg.puts g ds e S = .ok () e' S ∧ ∀ σ', Rel W w S H σ' e' → (∀ i, i ∉ g.slots → σ'[i]? = σ[i]?) → σ'.length = σ.length → Q σ' H
def JG (W : Wd) (X : Cx) (tg : Expr) (g : Tg) : Prop := PG X tg (tG W tg g)
def JGs (W : Wd) (X : Cx) (es : List Expr) (g : Tg) : Prop := PGs X es (tGs W g)
theorem PG.imp {tg : Expr} {t t' : TG} (h : PG X tg t) (k : ∀ v σ H Q, t' v σ H Q → t v σ H Q) : PG X tg t' := ⟨fun pins s σ H v u Q I r q => h.run pins s σ H v u Q I r (k v σ H Q q)⟩
theorem PG.or {tg : Expr} {t u : TG} (h : PG X tg t) (k : PG X tg u) : PG X tg (fun v σ H Q => t v σ H Q ∨ u v σ H Q) := ⟨fun pins s σ H v x Q I r q => q.elim (h.run pins s σ H v x Q I r) (k.run pins s σ H v x Q I r)⟩
theorem PGs.imp {tg : List Expr} {t t' : TGs} (h : PGs X tg t) (k : ∀ v σ H Q, t' v σ H Q → t v σ H Q) : PGs X tg t' := ⟨fun pins s σ H v u Q I r q => h.run pins s σ H v u Q I r (k v σ H Q q)⟩
mutual
theorem Tg.put_ok : ∀ (g : Tg) (d : D) (e : Env) (S : Store), (∃ e', Tg.put g d e S = .ok () e' S) ∨ Tg.put g d e S = .bad
  | .nm i, d, e, S => .inl ⟨_, rfl⟩
  | .nil, d, e, S => .inr (by unfold Tg.put; rfl)
  | .cons _ _, d, e, S => .inr (by unfold Tg.put; rfl)
  | .tup l, d, e, S => by
    unfold Tg.put
    cases d with
    | tup xs => exact Tg.puts_ok l xs e S
    | lst xs => exact Tg.puts_ok l xs e S
    | _ => exact .inr rfl
theorem Tg.puts_ok : ∀ (g : Tg) (ds : List D) (e : Env) (S : Store), (∃ e', Tg.puts g ds e S = .ok () e' S) ∨ Tg.puts g ds e S = .bad
  | .nm i, d, e, S => .inr (by unfold Tg.puts; rfl)
  | .tup _, d, e, S => .inr (by unfold Tg.puts; rfl)
  | .nil, d, e, S => by
    unfold Tg.puts
    cases d with
    | nil => exact .inl ⟨_, rfl⟩
    | cons _ _ => exact .inr rfl
  | .cons a r, d, e, S => by
    unfold Tg.puts
    cases d with
    | nil => exact .inr rfl
    | cons x xs =>
      rcases Tg.put_ok a x e S with ⟨e1, h⟩ | h
      · dsimp only
        rw [bind_ok h]
        exact Tg.puts_ok r xs e1 S
      · dsimp only
        rw [bind_bad h]
        exact .inr rfl
end
theorem jg_name {i : Nat} {n : Str} {pos : Pos} (hN : X.N.Nodup) (hi : X.N[i]? = some n) (hx : Loc X.env.scope n) (hf : X.fn n = true ∨ X.env.scope.names.lookup n = some .local) : JG W X (.Name n pos) (.nm i) :=
  PG.imp (pg_name hN hi hx hf) fun v σ H Q ⟨d, w, e, S, e', R, r, h, k⟩ => by
    have hr : Rp W w.F w.ad v d := by
      rcases r with r | ⟨r, _⟩
      · exact r
      · cases r
    have h2 : Out.ok () (e.set i (.val d)) S = Out.ok () e' S := h
    cases h2
    exact k _ (R.put hr) (fun j hj => by
      have hj2 : i ≠ j := fun z => hj (by rw [z]; exact List.mem_singleton.mpr rfl)
      rw [List.getElem?_set_ne hj2]) (List.length_set ..)
theorem as_eq {a : Expr} {es : List Expr} {env : PySem.Env} (h : starred a = false) : assignEach (a :: es) env = (false, assign a env) :: assignEach es env := by
  cases a <;> first | rfl | cases h
theorem as_len {env : PySem.Env} : ∀ {es : List Expr}, es.any starred = false → (assignEach es env).length = es.length ∧ (assignEach es env).findIdx? (·.1) = none
  | [], _ => ⟨rfl, rfl⟩
  | a :: es, h => by
    rw [List.any_cons, Bool.or_eq_false_iff] at h
    rw [as_eq h.1]
    obtain ⟨h1, h2⟩ := as_len (env := env) h.2
    refine ⟨by rw [List.length_cons, h1]; rfl, ?_⟩
    rw [List.findIdx?_cons]
    dsimp only
    rw [h2]
    rfl
theorem jgs_nil : JGs W X [] .nil := PGs.imp pgs_nil fun vs σ H Q ⟨ds, w, e, S, e', R, r, h, k⟩ => by
  unfold Tg.puts at h
  cases ds with
  | nil =>
    cases r
    have h2 : Out.ok () e S = Out.ok () e' S := h
    cases h2
    exact ⟨rfl, k _ R (fun _ _ => rfl) rfl⟩
  | cons _ _ => cases h
theorem jgs_cons {a : Expr} {es : List Expr} {g gs : Tg} (hs : starred a = false) (ja : JG W X a g) (jr : JGs W X es gs) : JGs W X (a :: es) (.cons g gs) :=
  PGs.imp (pgs_cons ja jr (by rw [as_eq hs]; rfl)) fun vs σ H Q ⟨ds, w, e, S, e', R, r, h, k⟩ => by
    unfold Tg.puts at h
    cases ds with
    | nil => cases h
    | cons d ds =>
      dsimp only at h
      cases r with
      | cons r1 r2 =>
        rcases Tg.put_ok g d e S with ⟨e1, h1⟩ | h1
        · rw [bind_ok h1] at h
          refine ⟨_, _, rfl, d, w, e, S, e1, R, .inl r1, h1, fun σ1 R1 k1 l1 => ⟨ds, w, e1, S, e', R1, r2, h, fun σ2 R2 k2 l2 => k σ2 R2 (fun i hi => ?_) (l2.trans l1)⟩⟩
          have hi2 : i ∉ g.slots ∧ i ∉ gs.slots := ⟨fun z => hi (List.mem_append_left _ z), fun z => hi (List.mem_append_right _ z)⟩
          rw [k2 i hi2.2, k1 i hi2.1]
        · rw [bind_bad h1] at h
          cases h
theorem jg_tup {es : List Expr} {n : Nat} {pos : Pos} {gs : Tg} (hc : X.calm = true) (hK : W.K = X.K) (hs : es.any starred = false) (hl : ∀ ds e S e', Tg.puts gs ds e S = .ok () e' S → ds.length = es.length) (jr : JGs W X es gs) : JG W X (.Tuple es n pos) (.tup gs) := by
  obtain ⟨l1, l2⟩ := as_len (env := X.env) hs
  refine PG.imp (PG.or (pg_tup hc jr l1 l2) (pg_unl hc jr l1 l2)) fun v σ H Q ⟨d, w, e, S, e', R, r, h, k⟩ => ?_
  unfold Tg.put at h
  rcases r with r | ⟨_, T, vs, ds, rfl, rfl, ht, rl⟩
  · cases d with
    | tup xs =>
      cases r with
      | tup h1 r1 =>
        refine .inl ⟨_, _, rfl, ?_, by rw [r1.len]; exact hl _ _ _ _ h, xs, w, e, S, e', R, r1, h, k⟩
        rw [← hK]
        exact TupF.sq R.sub h1
    | lst xs =>
      cases r with
      | lst h1 r1 => exact .inr ⟨_, _, rfl, SqL.of (R.sub _ _ h1), by rw [r1.len]; exact hl _ _ _ _ h, xs, w, e, S, e', R, r1, h, k⟩
    | _ => cases h
  · exact .inl ⟨_, _, rfl, SqT.of ht, by rw [rl.len]; exact hl _ _ _ _ h, ds, w, e, S, e', R, rl, h, k⟩
def WkR (W : Wd) (tg : Expr) (w : Wr) (H : Hp) (wk : Wk) (J : It) : Prop := ∀ w' H' S σ e i, Ext w H w' H' → Rel W w' S H' σ e →
  (nxtW wk i S = some none → J.stop i H') ∧ ∀ d, nxtW wk i S = some (some d) → J.go i H' ∧ ∀ x H'', J.yld i H' x H'' → Ext w' H' w' H'' ∧ Rel W w' S H'' σ e ∧ RpG W tg w' H'' x d
def tI (W : Wd) (Wx : L2.WX) (tg : Expr) (m : M Wk) : TI := fun σ H R => Run W Wx σ H m fun wk _ _ w H' => ∀ J, WkR W tg w H' wk J → R J H'
def JI (W : Wd) (X : Cx) (tg it : Expr) (m : M Wk) : Prop := ∀ Wx, Takes X Wx → PI X tg it (tI W Wx tg m)
theorem PI.imp {tg it : Expr} {t t' : TI} (h : PI X tg it t) (k : ∀ σ H R, t' σ H R → t σ H R) : PI X tg it t' := ⟨fun pins s σ H R I q => h.run pins s σ H R I (k σ H R q)⟩
theorem ji_bad {tg it : Expr} : JI W X tg it .bad := fun Wx tk => ⟨fun pins s σ H R I ⟨w, e, S, R', p⟩ => p.elim⟩
/-- a list, a tuple -/
theorem pi_seq {tg l : Expr} {tl : TE} (hl : PE X l tl) : PI X tg l (fun σ H R => tl σ H fun x H1 => ∃ a, x = .ref a ∧ (((∃ xs, SqL X.K H1 a xs) ∧ R (Itl X.K a) H1) ∨ ((∃ xs, SqT X.K H1 a xs) ∧ R (Itt X.K a) H1))) := by
  refine ⟨fun pins s σ H R I h => ?_⟩
  refine thn (hl.run pins s σ H _ I h) fun v s1 ⟨x, H1, I1, r1, q1⟩ => ?_
  obtain ⟨a, ex, q⟩ := q1
  subst ex
  cases r1
  have fresh : ∀ b ∈ [s1.heap.objs.size], FpOk X pins H1 b := fun b hb => by
    have eb : b = s1.heap.objs.size := by simpa using hb
    subst eb
    exact I1.fpOk (Nat.le_refl _) (I1.hok.fresh (Nat.le_refl _))
  rcases q with ⟨⟨xs, hq⟩, q⟩ | ⟨⟨xs, hq⟩, q⟩
  · obtain ⟨its, rv, p, hz⟩ := I1.list hq
    exact wpAny_pyIter_list p.isList ⟨s1.heap.objs.size, [s1.heap.objs.size], _, _, H1, rfl, I1.kept (t' := s1.toks) fun b o g => Heap.get?_push_of_some _ g, turn_list a _, ⟨_, Heap.get?_push_size _ rfl, rfl, rfl⟩, fresh, q⟩
  · obtain ⟨its, rv, p, hz⟩ := I1.tuple hq
    exact wpAny_pyIter_tuple (show s1.heap.IsTuple a its.toArray from p) ⟨s1.heap.objs.size, [s1.heap.objs.size], _, _, H1, rfl, I1.kept (t' := s1.toks) fun b o g => Heap.get?_push_of_some _ g, turn_tuple a _, ⟨_, Heap.get?_push_size _ rfl, rfl, rfl⟩, fresh, q⟩
/-- items that stay, walked in place -/
theorem wk_fix {tg : Expr} {J : It} {xs : List D} {vs : List V} (r : RpL W w.F w.ad vs xs)
    (stop : ∀ w' S H' σ e, Ext w H w' H' → Rel W w' S H' σ e → ∀ i, vs.length ≤ i → J.stop i H')
    (go : ∀ w' S H' σ e, Ext w H w' H' → Rel W w' S H' σ e → ∀ i u, vs[i]? = some u → J.go i H' ∧ ∀ x H'', J.yld i H' x H'' → H'' = H' ∧ x = u) : WkR W tg w H (.fix xs) J := by
  intro w' H' S σ e i x R
  refine ⟨fun h => stop w' S H' σ e x R i ?_, fun d h => ?_⟩
  · have h2 : xs[i]? = none := Option.some.inj h
    rw [r.len]
    exact List.getElem?_eq_none_iff.mp h2
  · have h2 : xs[i]? = some d := Option.some.inj h
    obtain ⟨u, hu, ru⟩ := r.get h2
    obtain ⟨g1, g2⟩ := go w' S H' σ e x R i u hu
    refine ⟨g1, fun y H'' hy => ?_⟩
    obtain ⟨rfl, rfl⟩ := g2 y H'' hy
    exact ⟨Ext.refl _ _, R, .inl (ru.le x.F x.ad)⟩
theorem wk_lst {tg : Expr} {a : Addr} {xs : List D} {vs : List V} {K : PySem.W.Frag} (r : RpL W w.F w.ad vs xs) (h : ∀ w' S H' σ e, Ext w H w' H' → Rel W w' S H' σ e → SqL K H' a vs) : WkR W tg w H (.fix xs) (Itl K a) :=
  wk_fix r (fun w' S H' σ e x R i hi => ⟨vs, h w' S H' σ e x R, hi⟩) fun w' S H' σ e x R i u hu => ⟨⟨vs, u, h w' S H' σ e x R, hu⟩, fun y H'' ⟨e1, e2⟩ => ⟨e1, by
    have := e2 vs (h w' S H' σ e x R)
    rw [hu] at this
    exact (Option.some.inj this).symm⟩⟩
theorem wk_tup {tg : Expr} {a : Addr} {xs : List D} {vs : List V} {K : PySem.W.Frag} (r : RpL W w.F w.ad vs xs) (h : ∀ w' S H' σ e, Ext w H w' H' → Rel W w' S H' σ e → SqT K H' a vs) : WkR W tg w H (.fix xs) (Itt K a) :=
  wk_fix r (fun w' S H' σ e x R i hi => ⟨vs, h w' S H' σ e x R, hi⟩) fun w' S H' σ e x R i u hu => ⟨⟨vs, u, h w' S H' σ e x R, hu⟩, fun y H'' ⟨e1, e2⟩ => ⟨e1, by
    have := e2 vs (h w' S H' σ e x R)
    rw [hu] at this
    exact (Option.some.inj this).symm⟩⟩
theorem wk_cell {tg : Expr} {a : Addr} {k : Nat} {K : PySem.W.Frag} (ha : w.ad[k]? = some a) : WkR W tg w H (.cell k) (Itl K a) := by
  intro w' H' S σ e i x R
  have key : ∀ o, nxtW (.cell k) i S = some o → ∃ xs vs, o = xs[i]? ∧ H' a = some (.lst vs) ∧ RpL W w'.F w'.ad vs xs := fun o h => by
    unfold nxtW at h
    dsimp only at h
    cases q : S.getD k none with
    | none =>
      rw [q] at h
      cases h
    | some c =>
      rw [q] at h
      cases c with
      | ob _ _ => cases h
      | lst xs =>
        obtain ⟨b, k1, ⟨vs, k2, k3⟩, k4⟩ := R.cell k _ q
        rw [pre_get x.ad ha] at k1
        cases k1
        exact ⟨xs, vs, (Option.some.inj h).symm, k2, k3⟩
  refine ⟨fun h => ?_, fun d h => ?_⟩
  · obtain ⟨xs, vs, e1, h1, r⟩ := key _ h
    exact ⟨vs, SqL.of h1, by rw [r.len]; exact List.getElem?_eq_none_iff.mp e1.symm⟩
  · obtain ⟨xs, vs, e1, h1, r⟩ := key _ h
    obtain ⟨u, hu, ru⟩ := r.get e1.symm
    refine ⟨⟨vs, u, SqL.of h1, hu⟩, fun y H'' ⟨q1, q2⟩ => ?_⟩
    subst q1
    have := q2 vs (SqL.of h1)
    rw [hu] at this
    cases this
    exact ⟨Ext.refl _ _, R, .inl ru⟩
theorem ji_seq {tg a : Expr} {m : M D} (hK : W.K = X.K) (ja : JV W X a m) : JI W X tg a (m.bind fun x => match x with
    | .lst xs => .pure (.fix xs)
    | .tup xs => .pure (.fix xs)
    | .scr ns => .pure (.fix (ns.map D.int))
    | .ref k => (resD (.ref k)).bind fun v => match v with
      | .c (.lst _) => .pure (.cell k)
      | _ => .bad
    | _ => .bad) := fun Wx tk =>
  PI.imp (pi_seq (ja Wx tk)) fun σ H R ⟨w, e, S, Rr, h⟩ => (Post.va Rr h).mono fun v H1 ⟨d, w1, e1, S1, R1, x1, r1, p1⟩ => by
    cases d with
    | lst xs =>
      cases r1 with
      | lst h1 r2 => exact ⟨_, rfl, .inl ⟨⟨_, SqL.of (R1.sub _ _ h1)⟩, p1.now R1 _ (wk_lst r2 fun w' S H' σ e x R => SqL.of (R.sub _ _ (x.F _ _ h1)))⟩⟩
    | tup xs =>
      cases r1 with
      | tup h1 r2 =>
        rw [hK] at h1
        exact ⟨_, rfl, .inr ⟨⟨_, TupF.sq R1.sub h1⟩, p1.now R1 _ (wk_tup r2 fun w' S H' σ e x R => TupF.sq (fun a o z => R.sub _ _ (x.F _ _ z)) h1)⟩⟩
    | scr ns =>
      cases r1 with
      | scr h1 =>
        rw [hK] at h1
        exact ⟨_, rfl, .inl ⟨⟨_, sqL_le R1.sub h1⟩, p1.now R1 _ (wk_lst (RpL.ints ns) fun w' S H' σ e x R => sqL_le (fun a o z => R.sub _ _ (x.F _ _ z)) h1)⟩⟩
    | ref k =>
      have r1' := r1
      cases r1 with
      | ref ha =>
        obtain ⟨vw, rv, p2⟩ := resD_post R1 r1' p1
        cases vw with
        | d z => exact p2.elim
        | c z =>
          cases z with
          | ob _ _ => exact p2.elim
          | lst xs =>
            obtain ⟨b, eb, vs, k2, k3⟩ := rv
            cases eb
            exact ⟨_, rfl, .inl ⟨⟨vs, SqL.of k2⟩, p2.now R1 _ (wk_cell ha)⟩⟩
    | _ => exact p1.elim
end
end Vm
namespace Vm
open PySem PySem.Spec L2
open PyProof.Rows hiding St
section
variable {α β : Type} {W : Wd} {X : Cx} {Wx : L2.WX} {σ : St} {w w' : Wr} {H H' : Hp} {e : Env} {S : Store} {x y v : V}
theorem get_rng {n i : Nat} {f : Nat → D} : ((List.range n).map f)[i]? = if i < n then some (f i) else none := by
  rw [List.getElem?_map]
  by_cases h : i < n
  · rw [List.getElem?_range h, if_pos h]
    rfl
  · rw [if_neg h, List.getElem?_eq_none (by rw [List.length_range]; omega)]
    rfl
theorem wk_rng {tg : Expr} {lo : Int} {n : Nat} : WkR W tg w H (.fix ((List.range n).map fun (k : Nat) => D.int (lo + (k : Int)))) (Itr lo n) := by
  intro w' H' S σ e i x R
  have key : ∀ o, nxtW (.fix ((List.range n).map fun (k : Nat) => D.int (lo + (k : Int)))) i S = some o → o = if i < n then some (D.int (lo + (i : Int))) else none := fun o h => by
    have h2 : ((List.range n).map fun (k : Nat) => D.int (lo + (k : Int)))[i]? = o := Option.some.inj h
    rw [get_rng] at h2
    exact h2.symm
  refine ⟨fun h => ?_, fun d h => ?_⟩
  · have := key _ h
    by_cases hi : i < n
    · rw [if_pos hi] at this
      cases this
    · exact Nat.le_of_not_lt hi
  · have := key _ h
    by_cases hi : i < n
    · rw [if_pos hi] at this
      cases this
      refine ⟨hi, fun y H'' ⟨e1, e2⟩ => ?_⟩
      subst e1
      subst e2
      exact ⟨Ext.refl _ _, R, .inl (.int _)⟩
    · rw [if_neg hi] at this
      cases this
theorem wk_rngC {tg : Expr} {lo c : Int} {n : Nat} : WkR W tg w H (.fix ((List.range n).map fun (k : Nat) => D.int (lo + (k : Int) * c))) (Itc lo c n) := by
  intro w' H' S σ e i x R
  have key : ∀ o, nxtW (.fix ((List.range n).map fun (k : Nat) => D.int (lo + (k : Int) * c))) i S = some o → o = if i < n then some (D.int (lo + (i : Int) * c)) else none := fun o h => by
    have h2 : ((List.range n).map fun (k : Nat) => D.int (lo + (k : Int) * c))[i]? = o := Option.some.inj h
    rw [get_rng] at h2
    exact h2.symm
  refine ⟨fun h => ?_, fun d h => ?_⟩
  · have := key _ h
    by_cases hi : i < n
    · rw [if_pos hi] at this
      cases this
    · exact Nat.le_of_not_lt hi
  · have := key _ h
    by_cases hi : i < n
    · rw [if_pos hi] at this
      cases this
      refine ⟨hi, fun y H'' ⟨e1, e2⟩ => ?_⟩
      subst e1
      subst e2
      exact ⟨Ext.refl _ _, R, .inl (.int _)⟩
    · rw [if_neg hi] at this
      cases this
theorem small_r {i : Int} (h : small62 i = true) : -(2 ^ 62) ≤ i ∧ i < 2 ^ 62 := of_decide_eq_true h
theorem ji_rng1 {tg a : Expr} {p pos : Pos} {m : M D} (hg : Gl X "range") (hm : X.mg "range" = none) (hs : starred a = false) (ja : JV W X a m) : JI W X tg (.Call (.Name "range" p) [a] [] pos) (m.bind fun x => match x with
    | .int n => if small62 n then .pure (.fix (irange 0 n)) else .bad
    | _ => .bad) := fun Wx tk =>
  PI.imp (pi_range1 hg hm (pa_cons (ja Wx tk) pa_nil (star_eq hs)) (star_eq hs)) fun σ H R ⟨w, e, S, Rr, h⟩ => (Post.va Rr h).mono fun v H1 ⟨d, w1, e1, S1, R1, x1, r1, p1⟩ => by
    cases d with
    | int n =>
      obtain rfl := int_inv r1
      dsimp only at p1
      by_cases hn : small62 n = true
      · rw [if_pos hn] at p1
        obtain ⟨q1, q2⟩ := small_r hn
        refine ⟨n, rfl, q1, q2, p1.now R1 _ ?_⟩
        have := wk_rng (W := W) (tg := tg) (w := w1) (H := H1) (lo := 0) (n := n.toNat)
        have e3 : irange 0 n = ((List.range n.toNat).map fun (k : Nat) => D.int (0 + (k : Int))) := by
          unfold irange
          rw [Int.sub_zero]
        rw [e3]
        exact this
      · rw [if_neg hn] at p1
        exact p1.elim
    | _ => exact p1.elim
theorem ji_rng2 {tg a b : Expr} {p pos : Pos} {m n : M D} (hg : Gl X "range") (hm : X.mg "range" = none) (hs : starred a = false) (hs2 : starred b = false) (ja : JV W X a m) (jb : JV W X b n) : JI W X tg (.Call (.Name "range" p) [a, b] [] pos) (m.bind fun x => n.bind fun y => match x, y with
    | .int i, .int j => if small62 i && small62 j then .pure (.fix (irange i j)) else .bad
    | _, _ => .bad) := fun Wx tk =>
  PI.imp (pi_range2 hg hm (pa_cons (ja Wx tk) (pa_cons (jb Wx tk) pa_nil (star_eq hs2)) (star_eq hs)) (by rw [star_eq hs, star_eq hs2]; rfl) (star_eq hs2)) fun σ H R ⟨w, e, S, Rr, h⟩ => (Post.va Rr h).mono fun v H1 ⟨d, w1, e1, S1, R1, x1, r1, p1⟩ => (Post.va R1 p1).mono fun u H2 ⟨d2, w2, e2, S2, R2, x2, r2, p2⟩ => by
    cases d with
    | int i =>
      cases d2 with
      | int j =>
        obtain rfl := int_inv r1
        obtain rfl := int_inv r2
        dsimp only at p2
        by_cases hn : (small62 i && small62 j) = true
        · rw [if_pos hn] at p2
          have hn2 := Bool.and_eq_true_iff.mp hn
          obtain ⟨q1, q2⟩ := small_r hn2.1
          obtain ⟨q3, q4⟩ := small_r hn2.2
          exact ⟨i, j, rfl, ⟨q1, q2, q3, q4⟩, p2.now R2 _ wk_rng⟩
        · rw [if_neg hn] at p2
          exact p2.elim
      | _ => exact p2.elim
    | _ => exact p2.elim
theorem ji_rng3 {tg a b c : Expr} {p pos : Pos} {m n o : M D} (hg : Gl X "range") (hm : X.mg "range" = none) (hs : starred a = false) (hs2 : starred b = false) (hs3 : starred c = false) (ja : JV W X a m) (jb : JV W X b n) (jc : JV W X c o) :
    JI W X tg (.Call (.Name "range" p) [a, b, c] [] pos) (m.bind fun x => n.bind fun y => o.bind fun z => match x, y, z with
    | .int i, .int j, .int k => if small62 i && small62 j && decide (k = -1) then .pure (.fix (drange i j)) else .bad
    | _, _, _ => .bad) := fun Wx tk =>
  PI.imp (pi_range3 hg hm (pa_cons (ja Wx tk) (pa_cons (jb Wx tk) (pa_cons (jc Wx tk) pa_nil (star_eq hs3)) (star_eq hs2)) (star_eq hs)) (star_eq hs) (by rw [star_eq hs2, star_eq hs3]; rfl)) fun σ H R ⟨w, e, S, Rr, h⟩ => (Post.va Rr h).mono fun v H1 ⟨d, w1, e1, S1, R1, x1, r1, p1⟩ =>
    (Post.va R1 p1).mono fun u H2 ⟨d2, w2, e2, S2, R2, x2, r2, p2⟩ => (Post.va R2 p2).mono fun t H3 ⟨d3, w3, e3, S3, R3, x3, r3, p3⟩ => by
    cases d with
    | int i =>
      cases d2 with
      | int j =>
        cases d3 with
        | int k =>
          obtain rfl := int_inv r1
          obtain rfl := int_inv r2
          obtain rfl := int_inv r3
          dsimp only at p3
          by_cases hn : (small62 i && small62 j && decide (k = -1)) = true
          · rw [if_pos hn] at p3
            have hn2 := Bool.and_eq_true_iff.mp hn
            have hn3 := Bool.and_eq_true_iff.mp hn2.1
            have hk : k = -1 := of_decide_eq_true hn2.2
            subst hk
            obtain ⟨q1, q2⟩ := small_r hn3.1
            obtain ⟨q3, q4⟩ := small_r hn3.2
            exact ⟨i, j, -1, (i - j).toNat, rfl, RgC.neg q1 q2 q3 q4, p3.now R3 _ wk_rngC⟩
          · rw [if_neg hn] at p3
            exact p3.elim
        | _ => exact p3.elim
      | _ => exact p3.elim
    | _ => exact p3.elim
theorem enumD_get : ∀ {xs : List D} {k i : Nat}, (enumD k xs)[i]? = xs[i]?.map fun x => .tup [.int ((k + i : Nat) : Int), x]
  | [], _, _ => rfl
  | x :: xs, k, 0 => rfl
  | x :: xs, k, i + 1 => by
    show (enumD (k + 1) xs)[i]? = _
    rw [enumD_get]
    show _ = xs[i]?.map _
    rw [show k + 1 + i = k + (i + 1) by omega]
theorem zipD_get : ∀ {xs ys : List D} {i : Nat} {d : D}, (zipD xs ys)[i]? = some d → ∃ x y, xs[i]? = some x ∧ ys[i]? = some y ∧ d = .tup [x, y]
  | x :: xs, y :: ys, 0, d, h => ⟨x, y, rfl, rfl, (Option.some.inj h).symm⟩
  | x :: xs, y :: ys, i + 1, d, h => by
    obtain ⟨a, b, h1, h2, h3⟩ := zipD_get (xs := xs) (ys := ys) (i := i) (d := d) (by simpa [zipD] using h)
    exact ⟨a, b, by simpa using h1, by simpa using h2, h3⟩
  | [], _, _, _, h => by simp [zipD] at h
  | _ :: _, [], _, _, h => by simp [zipD] at h
theorem zipD_none : ∀ {xs ys : List D} {i : Nat}, (zipD xs ys)[i]? = none → xs.length ≤ i ∨ ys.length ≤ i
  | [], ys, i, h => .inl (Nat.zero_le _)
  | _ :: _, [], i, h => .inr (Nat.zero_le _)
  | x :: xs, y :: ys, 0, h => by simp [zipD] at h
  | x :: xs, y :: ys, i + 1, h => by
    have := zipD_none (xs := xs) (ys := ys) (i := i) (by simpa [zipD] using h)
    simp only [List.length_cons]
    omega
theorem ji_enum {tg a : Expr} {p pos : Pos} {m : M D} (hK : W.K = X.K) (ht : isTup tg = true) (hg : Gl X "enumerate") (hm : X.mg "enumerate" = none) (hs : starred a = false) (ja : JV W X a m) : JI W X tg (.Call (.Name "enumerate" p) [a] [] pos) (m.bind fun x => match x with
    | .lst xs => .pure (.fix (enumD 0 xs))
    | _ => .bad) := by
  cases tg with
  | Tuple es k tp =>
    exact fun Wx tk =>
      PI.imp (pi_enum hg hm (pa_cons (ja Wx tk) pa_nil (star_eq hs)) (star_eq hs)) fun σ H R ⟨w, e, S, Rr, h⟩ => (Post.va Rr h).mono fun v H1 ⟨d, w1, e1, S1, R1, x1, r1, p1⟩ => by
        cases d with
        | lst xs =>
          cases r1 with
          | @lst a vs _ h1 r2 =>
            refine ⟨_, vs, rfl, SqL.of (R1.sub _ _ h1), p1.now R1 _ ?_⟩
            intro w' H' S σ e i x R
            have hl : SqL X.K H' a vs := SqL.of (R.sub _ _ (x.F _ _ h1))
            refine ⟨fun h => ?_, fun d h => ?_⟩
            · have h2 : (enumD 0 xs)[i]? = none := Option.some.inj h
              rw [enumD_get, Option.map_eq_none_iff] at h2
              exact ⟨vs, hl, by rw [r2.len]; exact List.getElem?_eq_none_iff.mp h2⟩
            · have h2 : (enumD 0 xs)[i]? = some d := Option.some.inj h
              rw [enumD_get] at h2
              obtain ⟨z, hz, rfl⟩ := Option.map_eq_some_iff.mp h2
              obtain ⟨u, hu, ru⟩ := r2.get hz
              refine ⟨⟨vs, u, hl, hu⟩, fun y H'' ⟨T, u', q1, q2, q3, q4⟩ => ?_⟩
              subst q1
              subst q3
              have := q4 vs hl
              rw [hu] at this
              cases this
              obtain ⟨x2, R2⟩ := R.drop (o := .tup [.int (i : Nat), u]) q2
              refine ⟨x2, R2, .inr ⟨rfl, T, _, _, rfl, rfl, upd_same, ?_⟩⟩
              rw [Nat.zero_add]
              exact .cons (.int _) (.cons (ru.le x.F x.ad) .nil)
        | _ => exact p1.elim
  | _ => cases ht
theorem ji_zip {tg a b : Expr} {p pos : Pos} {m n : M D} (hK : W.K = X.K) (ht : isTup tg = true) (hg : Gl X "zip") (hm : X.mg "zip" = none) (hs : starred a = false) (hs2 : starred b = false) (ja : JV W X a m) (jb : JV W X b n) : JI W X tg (.Call (.Name "zip" p) [a, b] [] pos) (m.bind fun x => n.bind fun y => match x, y with
    | .lst xs, .lst ys => .pure (.fix (zipD xs ys))
    | .tup xs, .tup ys => .pure (.fix (zipD xs ys))
    | _, _ => .bad) := by
  cases tg with
  | Tuple es k tp =>
    exact fun Wx tk =>
      PI.imp (RZ.pi_zipA hg hm (pa_cons (ja Wx tk) (pa_cons (jb Wx tk) pa_nil (star_eq hs2)) (star_eq hs)) (star_eq hs) (by rw [star_eq hs2]; rfl)) fun σ H R ⟨w, e, S, Rr, h⟩ => (Post.va Rr h).mono fun v H1 ⟨d, w1, e1, S1, R1, x1, r1, p1⟩ => (Post.va R1 p1).mono fun u H2 ⟨d2, w2, e2, S2, R2, x2, r2, p2⟩ => by
        have r1' := r1.le x2.F x2.ad
        have zl : ∀ (J : It) (va vb : Addr) (us vs : List V) (xs ys : List D) (ok : Hp → Prop), RpL W w2.F w2.ad us xs → RpL W w2.F w2.ad vs ys → (∀ w' S H' σ e, Ext w2 H2 w' H' → Rel W w' S H' σ e → ok H') →
            (∀ H i, ok H → (us.length ≤ i ∨ vs.length ≤ i) → J.stop i H) → (∀ H i x y, ok H → us[i]? = some x → vs[i]? = some y → J.go i H) →
            (∀ H i x y v H', ok H → us[i]? = some x → vs[i]? = some y → J.yld i H v H' → ∃ T, v = .ref T ∧ H T = none ∧ H' = upd H T (.tup [x, y])) → WkR W (.Tuple es k tp) w2 H2 (.fix (zipD xs ys)) J := by
          intro J va vb us vs xs ys ok ra rb hok hst hgo hy w' H' S σ e i x R
          have o := hok w' S H' σ e x R
          refine ⟨fun h => ?_, fun d h => ?_⟩
          · have h2 : (zipD xs ys)[i]? = none := Option.some.inj h
            refine hst H' i o ?_
            rw [ra.len, rb.len]
            exact zipD_none h2
          · have h2 : (zipD xs ys)[i]? = some d := Option.some.inj h
            obtain ⟨z1, z2, hz1, hz2, rfl⟩ := zipD_get h2
            obtain ⟨u1, hu1, ru1⟩ := ra.get hz1
            obtain ⟨u2, hu2, ru2⟩ := rb.get hz2
            refine ⟨hgo H' i u1 u2 o hu1 hu2, fun y H'' q => ?_⟩
            obtain ⟨T, rfl, q2, rfl⟩ := hy H' i u1 u2 y H'' o hu1 hu2 q
            obtain ⟨x3, R3⟩ := R.drop (o := .tup [u1, u2]) q2
            exact ⟨x3, R3, .inr ⟨rfl, T, _, _, rfl, rfl, upd_same, .cons (ru1.le x.F x.ad) (.cons (ru2.le x.F x.ad) .nil)⟩⟩
        cases d with
        | lst xs =>
          cases d2 with
          | lst ys =>
            cases r1' with
            | @lst a us _ h1 ra =>
              cases r2 with
              | @lst b vs _ h2 rb =>
                refine ⟨_, _, us, vs, rfl, .inl ⟨SqL.of (R2.sub _ _ h1), SqL.of (R2.sub _ _ h2), p2.now R2 _ ?_⟩⟩
                refine zl _ a b us vs xs ys (fun H => SqL X.K H a us ∧ SqL X.K H b vs) ra rb (fun w' S H' σ e x R => ⟨SqL.of (R.sub _ _ (x.F _ _ h1)), SqL.of (R.sub _ _ (x.F _ _ h2))⟩) (fun H i o q => ⟨us, vs, o.1, o.2, q⟩) (fun H i x y o q1 q2 => ⟨us, vs, x, y, o.1, o.2, q1, q2⟩) fun H i x y v H' o q1 q2 ⟨T, x', y', z1, z2, z3, z4, z5⟩ => ?_
                have t1 := z4 us o.1
                have t2 := z5 vs o.2
                rw [q1] at t1
                rw [q2] at t2
                cases t1
                cases t2
                exact ⟨T, z1, z2, z3⟩
          | _ => exact p2.elim
        | tup xs =>
          cases d2 with
          | tup ys =>
            cases r1' with
            | @tup a us _ h1 ra =>
              cases r2 with
              | @tup b vs _ h2 rb =>
                rw [hK] at h1 h2
                refine ⟨_, _, us, vs, rfl, .inr ⟨TupF.sq R2.sub h1, TupF.sq R2.sub h2, p2.now R2 _ ?_⟩⟩
                refine zl _ a b us vs xs ys (fun H => SqT X.K H a us ∧ SqT X.K H b vs) ra rb (fun w' S H' σ e x R => ⟨TupF.sq (fun a o z => R.sub _ _ (x.F _ _ z)) h1, TupF.sq (fun a o z => R.sub _ _ (x.F _ _ z)) h2⟩) (fun H i o q => ⟨us, vs, o.1, o.2, q⟩) (fun H i x y o q1 q2 => ⟨us, vs, x, y, o.1, o.2, q1, q2⟩) fun H i x y v H' o q1 q2 ⟨T, x', y', z1, z2, z3, z4, z5⟩ => ?_
                have t1 := z4 us o.1
                have t2 := z5 vs o.2
                rw [q1] at t1
                rw [q2] at t2
                cases t1
                cases t2
                exact ⟨T, z1, z2, z3⟩
          | _ => exact p2.elim
        | _ => exact p2.elim
  | _ => cases ht
end
end Vm
namespace Vm
open PySem PySem.Spec L2
open PyProof.Rows hiding St
def PostS {α : Type} (W : Wd) (Wx : L2.WX) (w : Wr) (H : Hp) (r : Out α) (K : α → Env → Store → Wr → St → Hp → Prop) : Prop := match r with
  | .ok a e S => ∀ w' H' σ', Ext w H w' H' → Rel W w' S H' σ' e → K a e S w' σ' H'
  | .rz x e S => ∀ w' H' σ' cls dd, Ext w H w' H' → Rel W w' S H' σ' e → ExR W w' x cls dd H' → Wx cls dd σ' H'
  | .bad => False
def EndR (W : Wd) (D : Ends) : Fl → Env → Store → Wr → St → Hp → Prop
  | .next, _, _, _, σ, H => D.nx σ H
  | .brk, _, _, _, σ, H => D.bk σ H
  | .cont, _, _, _, σ, H => D.ct σ H
  | .ret d, _, _, w, _, H => ∀ v, Rp W w.F w.ad v d → D.rt v H
def tS (W : Wd) (Wx : L2.WX) (m : M Fl) : TS := fun D σ H => ∃ w e S, Rel W w S H σ e ∧ PostS W Wx w H (m e S) (EndR W D)
def JS (W : Wd) (X : Cx) (st : Stmt) (m : M Fl) : Prop := ∀ Wx, Takes X Wx → PS X st (tS W Wx m)
def JSs (W : Wd) (X : Cx) (st : List Stmt) (m : M Fl) : Prop := ∀ Wx, Takes X Wx → PSs X st (tS W Wx m)
section
variable {α β : Type} {W : Wd} {X : Cx} {Wx : L2.WX} {σ : St} {w w' w1 : Wr} {H H' H1 : Hp} {e e' : Env} {S S' : Store} {x y v : V}
theorem PS.imp {st : Stmt} {t t' : TS} (h : PS X st t) (k : ∀ D σ H, t' D σ H → t D σ H) : PS X st t' := ⟨fun pins s σ H D I q => h.run pins s σ H D I (k D σ H q)⟩
theorem PSs.imp {st : List Stmt} {t t' : TS} (h : PSs X st t) (k : ∀ D σ H, t' D σ H → t D σ H) : PSs X st t' := ⟨fun pins s σ H D I q => h.run pins s σ H D I (k D σ H q)⟩
theorem PostS.ext {K : α → Env → Store → Wr → St → Hp → Prop} {r : Out α} (x : Ext w H w1 H1) (h : PostS W Wx w H r K) : PostS W Wx w1 H1 r K := by
  cases r with
  | ok a e S => exact fun w' H' σ' y rel => h w' H' σ' (x.trans y) rel
  | rz z e S => exact fun w' H' σ' cls dd y rel er => h w' H' σ' cls dd (x.trans y) rel er
  | bad => exact h
theorem PostS.imp {K K' : α → Env → Store → Wr → St → Hp → Prop} {r : Out α} (h : PostS W Wx w H r K) (k : ∀ a e S w' σ' H', Ext w H w' H' → Rel W w' S H' σ' e → K a e S w' σ' H' → K' a e S w' σ' H') : PostS W Wx w H r K' := by
  cases r with
  | ok a e S => exact fun w' H' σ' y rel => k a e S w' σ' H' y rel (h w' H' σ' y rel)
  | rz z e S => exact h
  | bad => exact h
theorem PostS.bind {m : M α} {f : α → M β} {K : β → Env → Store → Wr → St → Hp → Prop} (h : PostS W Wx w H ((M.bind m f) e S) K) :
    PostS W Wx w H (m e S) (fun a e1 S1 w1 σ1 H1 => PostS W Wx w1 H1 (f a e1 S1) K) := by
  unfold M.bind at h
  cases q : m e S with
  | ok a e1 S1 =>
    rw [q] at h
    exact fun w1 H1 σ1 y rel => PostS.ext y h
  | rz x e1 S1 =>
    rw [q] at h
    exact h
  | bad =>
    rw [q] at h
    exact h
theorem PostS.at_ {K : α → Env → Store → Wr → St → Hp → Prop} {r : Out α} (σ : St) (h : PostS W Wx w H r K) : Post W Wx σ w H r (fun a e S w H => K a e S w σ H) := by
  cases r with
  | ok a e S => exact fun w' H' y rel => h w' H' σ y rel
  | rz z e S => exact fun w' H' cls dd y rel er => h w' H' σ cls dd y rel er
  | bad => exact h
theorem PostS.now {a : α} {K : α → Env → Store → Wr → St → Hp → Prop} (R : Rel W w S H σ e) (h : PostS W Wx w H (M.pure a e S) K) : K a e S w σ H := h w H σ (Ext.refl w H) R
theorem PostS.va {m : M D} {f : D → M β} {K : β → Env → Store → Wr → St → Hp → Prop} (R : Rel W w S H σ e) (h : PostS W Wx w H ((M.bind m f) e S) K) :
    tV W Wx m σ H fun v H1 => ∃ d w1 e1 S1, Rel W w1 S1 H1 σ e1 ∧ Ext w H w1 H1 ∧ Rp W w1.F w1.ad v d ∧ PostS W Wx w1 H1 (f d e1 S1) K :=
  ⟨w, e, S, R, (h.bind.at_ σ).imp fun a e1 S1 w1 H1 x R1 p v r => ⟨a, w1, e1, S1, R1, x, r, p⟩⟩
theorem PostS.hd {m : M Hd} {f : Hd → M β} {K : β → Env → Store → Wr → St → Hp → Prop} (R : Rel W w S H σ e) (h : PostS W Wx w H ((M.bind m f) e S) K) :
    tHd W Wx m σ H fun v H1 => ∃ d w1 e1 S1, Rel W w1 S1 H1 σ e1 ∧ Ext w H w1 H1 ∧ HdR W w1 σ v d ∧ PostS W Wx w1 H1 (f d e1 S1) K :=
  ⟨w, e, S, R, (h.bind.at_ σ).imp fun a e1 S1 w1 H1 x R1 p v r => ⟨a, w1, e1, S1, R1, x, r, p⟩⟩
theorem PostS.ta {m : M Bool} {f : Bool → M β} {K : β → Env → Store → Wr → St → Hp → Prop} (R : Rel W w S H σ e) (h : PostS W Wx w H ((M.bind m f) e S) K) :
    tT W Wx m σ H fun b H1 => ∃ w1 e1 S1, Rel W w1 S1 H1 σ e1 ∧ Ext w H w1 H1 ∧ PostS W Wx w1 H1 (f b e1 S1) K :=
  ⟨w, e, S, R, (h.bind.at_ σ).imp fun a e1 S1 w1 H1 x R1 p => ⟨w1, e1, S1, R1, x, p⟩⟩
theorem PostS.ia {tg : Expr} {m : M Wk} {f : Wk → M β} {K : β → Env → Store → Wr → St → Hp → Prop} (R : Rel W w S H σ e) (h : PostS W Wx w H ((M.bind m f) e S) K) :
    Run W Wx σ H m fun wk e1 S1 w1 H1 => Rel W w1 S1 H1 σ e1 ∧ Ext w H w1 H1 ∧ PostS W Wx w1 H1 (f wk e1 S1) K :=
  ⟨w, e, S, R, (h.bind.at_ σ).imp fun a e1 S1 w1 H1 x R1 p => ⟨R1, x, p⟩⟩
theorem PostS.opt {o : Option α} {f : α → M β} {K : β → Env → Store → Wr → St → Hp → Prop} (h : PostS W Wx w H ((M.bind (M.opt o) f) e S) K) : ∃ a, o = some a ∧ PostS W Wx w H (f a e S) K := by
  cases o with
  | none => exact h.elim
  | some a => exact ⟨a, rfl, h⟩
/-- a step that neither raises nor changes slots, by its Post rule -/
theorem PostS.post {m : M α} {f : α → M β} {K : β → Env → Store → Wr → St → Hp → Prop} (h : PostS W Wx w H ((M.bind m f) e S) K) (σ : St) {P : Prop}
    (k : ∀ K', Post W Wx σ w H ((M.bind m fun a => M.pure a) e S) K' → P) : P := k _ (by
  have h2 := h.bind.at_ σ
  have e3 : (M.bind m fun a => M.pure a) e S = m e S := by
    unfold M.bind M.pure
    cases m e S <;> rfl
  rw [e3]
  exact h2)
theorem js_bad {st : Stmt} : JS W X st .bad := fun Wx tk => ⟨fun pins s σ H D I ⟨w, e, S, R, p⟩ => p.elim⟩
theorem jss_bad {st : List Stmt} : JSs W X st .bad := fun Wx tk => ⟨fun pins s σ H D I ⟨w, e, S, R, p⟩ => p.elim⟩
theorem jss_nil : JSs W X [] (.pure .next) := fun Wx tk => PSs.imp pss_nil fun D σ H ⟨w, e, S, R, p⟩ => p.now R
theorem jss_cons {st : Stmt} {r : List Stmt} {m n : M Fl} (j : JS W X st m) (k : JSs W X r n) : JSs W X (st :: r) (m.bind fun f => match f with
    | .next => n
    | f => .pure f) := fun Wx tk => PSs.imp (pss_cons (j Wx tk) (k Wx tk)) fun D σ H ⟨w, e, S, R, p⟩ => by
  refine ⟨w, e, S, R, p.bind.imp fun f e1 S1 w1 σ1 H1 x1 R1 p1 => ?_⟩
  cases f with
  | next => exact ⟨w1, e1, S1, R1, p1⟩
  | brk => exact PostS.now (Wx := Wx) R1 p1
  | cont => exact PostS.now (Wx := Wx) R1 p1
  | ret d => exact PostS.now (Wx := Wx) R1 p1
theorem js_pass {p : Pos} : JS W X (.Pass p) (.pure .next) := fun Wx tk => PS.imp ps_pass fun D σ H ⟨w, e, S, R, p⟩ => p.now R
theorem js_brk {p : Pos} : JS W X (.Break p) (.pure .brk) := fun Wx tk => PS.imp ps_break fun D σ H ⟨w, e, S, R, p⟩ => p.now R
theorem js_cont {p : Pos} : JS W X (.Continue p) (.pure .cont) := fun Wx tk => PS.imp ps_continue fun D σ H ⟨w, e, S, R, p⟩ => p.now R
theorem js_doc {x : Str} {j : Nat} {p p' : Pos} : JS W X (.Expr (.Constant (.str x) j p) p') (.pure .next) := fun Wx tk => PS.imp ps_doc fun D σ H ⟨w, e, S, R, p⟩ => p.now R
theorem js_ret {a : Expr} {p : Pos} {m : M D} (ja : JV W X a m) : JS W X (.Return (some a) p) (m.bind fun d => .pure (.ret d)) := fun Wx tk => PS.imp (ps_ret (ja Wx tk)) fun D σ H ⟨w, e, S, R, p⟩ => (PostS.va R p).mono fun v H1 ⟨d, w1, e1, S1, R1, x1, r1, p1⟩ => p1.now R1 v r1
theorem js_retN {p : Pos} : JS W X (.Return none p) (.pure (.ret .non)) := fun Wx tk => PS.imp ps_retN fun D σ H ⟨w, e, S, R, p⟩ => p.now R V.non .non
theorem js_ex {a : Expr} {p : Pos} {m : M D} (ja : JV W X a m) (hs : swapsWith a none p.line X.env = pure false) : JS W X (.Expr a p) (m.bind fun _ => .pure .next) := fun Wx tk => PS.imp (ps_expr (ja Wx tk) hs) fun D σ H ⟨w, e, S, R, p⟩ => (PostS.va R p).mono fun v H1 ⟨d, w1, e1, S1, R1, x1, r1, p1⟩ => p1.now R1
theorem js_if {t : Expr} {a b : List Stmt} {p : Pos} {mt : M Bool} {m n : M Fl} (jt : JT W X t mt) (ja : JSs W X a m) (jb : JSs W X b n) : JS W X (.If t a b p) (mt.bind fun k => match k with
    | true => m
    | false => n) := fun Wx tk => PS.imp (ps_if (jt Wx tk) (ja Wx tk) (jb Wx tk)) fun D σ H ⟨w, e, S, R, p⟩ => (PostS.ta R p).mono fun b H1 ⟨w1, e1, S1, R1, x1, p1⟩ => by
  cases b with
  | true => exact ⟨w1, e1, S1, R1, p1⟩
  | false => exact ⟨w1, e1, S1, R1, p1⟩
/-- a target put -/
theorem put_run {tg : Expr} {g : Tg} {d : D} {K : β → Env → Store → Wr → St → Hp → Prop} {f : Unit → M β} {Q : St → Hp → Prop} (R : Rel W w S H σ e) (r : RpG W tg w H v d) (p : PostS W Wx w H (((Tg.put g d).bind f) e S) K)
    (k : ∀ σ' e', Rel W w S H σ' e' → PostS W Wx w H (f () e' S) K → Q σ' H) : tG W tg g v σ H Q := by
  rcases Tg.put_ok g d e S with ⟨e', h⟩ | h
  · rw [bind_ok h] at p
    exact ⟨d, w, e, S, e', R, r, h, fun σ' R' _ _ => k σ' e' R' p⟩
  · rw [bind_bad h] at p
    exact p.elim
theorem asg_fin {i : Nat} {st : Stmt} {m : M D} (h : ∀ Wx, Takes X Wx → PS X st (tAsg (tV W Wx m) (gName i))) : JS W X st (m.bind fun d => (Tg.put (.nm i) d).bind fun _ => .pure .next) := fun Wx tk =>
  PS.imp (h Wx tk) fun D σ H ⟨w, e, S, R, p⟩ => (PostS.va R p).mono fun v H1 ⟨d, w1, e1, S1, R1, x1, r1, p1⟩ => by
    have p2 : PostS W Wx w1 H1 (M.pure Fl.next (e1.set i (.val d)) S1) (EndR W D) := p1
    exact p2.now (R1.put (i := i) r1)
def ownM (i : Nat) (m : M D) : M Fl := m.bind fun d => match d with
    | .lst xs => fun e s => .ok .next (e.set i (.own (.lst xs))) s
    | _ => .bad
theorem own_fin {i : Nat} {st : Stmt} {m : M D} (h : ∀ Wx, Takes X Wx → PS X st (tAsg (tAl W Wx m) (gName i))) : JS W X st (ownM i m) := fun Wx tk =>
  PS.imp (h Wx tk) fun D σ H ⟨w, e, S, R, p⟩ => ⟨w, e, S, R, (p.bind.at_ σ).imp fun d e1 S1 w1 H1 x1 R1 p1 => by
    cases d with
    | lst ds =>
      refine ⟨ds, rfl, fun q vs hq rv => ?_⟩
      obtain ⟨x2, R2⟩ := R1.mine (i := i) (c := .lst ds) (o := .lst vs) hq ⟨vs, upd_same, rv⟩ nofun
      exact p1 _ _ _ x2 R2
    | _ => exact p1.elim⟩
theorem js_asgT {es : List Expr} {k : Nat} {tp : Pos} {g : Tg} {a : Expr} {p : Pos} {m : M D} (jg : JG W X (.Tuple es k tp) g) (ja : JV W X a m) (hs : swapsWith a (some (.Tuple es k tp)) p.line X.env = pure false) (hw : swappedStores [.Tuple es k tp] a X.env = pure none) :
    JS W X (.Assign [.Tuple es k tp] a p) (m.bind fun d => (Tg.put g d).bind fun _ => .pure .next) := fun Wx tk =>
  PS.imp (ps_asg (ja Wx tk) jg hs hw) fun D σ H ⟨w, e, S, R, p⟩ => (PostS.va R p).mono fun v H1 ⟨d, w1, e1, S1, R1, x1, r1, p1⟩ =>
    put_run R1 (.inl r1) p1 fun σ' e' R' p2 => p2.now R'
theorem pl_eq {h : Hd} {u : V} (R : Rel W w S H σ e) (r : HdR W w σ u h) : plOf h e S = .bad ∨ ∃ pl a, u = .ref a ∧ plOf h e S = .ok pl e S ∧ ∀ c, getC pl e S = .ok c e S → PlAt W w H S σ e a c pl := by
  have kk : ∀ k, Rp W w.F w.ad u (.ref k) → ∃ a, u = .ref a ∧ ∀ c, getC (.k k) e S = .ok c e S → PlAt W w H S σ e a c (.k k) := fun k r => by
    cases r with
    | ref ha =>
      refine ⟨_, rfl, fun c hc => ?_⟩
      unfold getC at hc
      dsimp only at hc
      cases q : S.getD k none with
      | none =>
        rw [q] at hc
        cases hc
      | some c' =>
        rw [q] at hc
        cases hc
        obtain ⟨b, k1, k2, k3⟩ := R.cell k _ q
        rw [ha] at k1
        cases k1
        exact ⟨q, k2, k3, ha⟩
  cases h with
  | s i =>
    have hs := R.slot i
    have r' : σ[i]? = some (some u) := r
    cases q : e.getD i .emp with
    | emp => exact .inl (by unfold plOf; dsimp only; rw [q])
    | own c =>
      rw [q] at hs
      obtain ⟨b, h1, h2, h3⟩ := hs
      rw [r'] at h1
      cases h1
      refine .inr ⟨.s i, b, rfl, by unfold plOf; dsimp only; rw [q], fun c' hc => ?_⟩
      unfold getC at hc
      dsimp only at hc
      rw [q] at hc
      cases hc
      exact ⟨q, h2, h3, r'⟩
    | val d =>
      cases d with
      | ref k =>
        rw [q] at hs
        obtain ⟨b, h1, h2⟩ := hs
        rw [r'] at h1
        cases h1
        obtain ⟨a, ea, ka⟩ := kk k h2
        exact .inr ⟨.k k, a, ea, by unfold plOf; dsimp only; rw [q], ka⟩
      | _ => exact .inl (by unfold plOf; dsimp only; rw [q])
  | d d =>
    cases d with
    | ref k =>
      obtain ⟨a, ea, ka⟩ := kk k r
      exact .inr ⟨.k k, a, ea, rfl, ka⟩
    | _ => exact .inl rfl
theorem getC_eq (pl : Pl) (e : Env) (S : Store) : getC pl e S = .bad ∨ ∃ c, getC pl e S = .ok c e S := by
  cases pl with
  | s i =>
    unfold getC
    dsimp only
    cases e.getD i .emp with
    | own c => exact .inr ⟨c, rfl⟩
    | emp => exact .inl rfl
    | val d => exact .inl rfl
  | k k =>
    unfold getC
    dsimp only
    cases S.getD k none with
    | some c => exact .inr ⟨c, rfl⟩
    | none => exact .inl rfl
/-- the place that is changed, what stands there -/
theorem at_run {h : Hd} {u : V} {f : Pl → Cell → M β} {K : β → Env → Store → Wr → St → Hp → Prop} (R : Rel W w S H σ e) (r : HdR W w σ u h) (p : PostS W Wx w H (((plOf h).bind fun p => (getC p).bind fun c => f p c) e S) K) :
    ∃ pl a c, u = .ref a ∧ PlAt W w H S σ e a c pl ∧ PostS W Wx w H (f pl c e S) K := by
  rcases pl_eq R r with q | ⟨pl, a, ea, q, k⟩
  · rw [bind_bad q] at p
    exact p.elim
  · rw [bind_ok q] at p
    rcases getC_eq pl e S with q2 | ⟨c, q2⟩
    · rw [bind_bad q2] at p
      exact p.elim
    · rw [bind_ok q2] at p
      exact ⟨pl, a, c, ea, k c q2, p⟩
theorem PlAt.cell {pl : Pl} {a : Addr} {c : Cell} (h : PlAt W w H S σ e a c pl) : CellAt W w H a c := by
  cases pl with
  | s i => exact h.2.1
  | k k => exact h.2.1
theorem js_setI {o i a : Expr} {sp p : Pos} {mo : M Hd} {mi ma : M D} (ja : JV W X a ma) (jo : JH W X o mo) (ji : JV W X i mi) (hs : swapsWith a (some (.Subscript o i sp)) p.line X.env = pure false) (hw : swappedStores [.Subscript o i sp] a X.env = pure none)
    (hsub : ∀ v, assign (.Subscript o i sp) X.env v = (do
      let ov ← holding [v] (eval o X.env)
      let iv ← holding [v, ov] (eval i X.env)
      standAt sp
      holding [v, ov, iv] (setItem ov iv v)
      release [v, ov, iv] [])) :
    JS W X (.Assign [.Subscript o i sp] a p) (ma.bind fun y => mo.bind fun h => mi.bind fun k => (plOf h).bind fun p => (getC p).bind fun c => match c, k with
    | .lst xs, .int k => (match L2.ixN xs.length k with
      | some j => (setC p (.lst (xs.set j y))).bind fun _ => .pure .next
      | none => .bad)
    | _, _ => .bad) := fun Wx tk =>
  PS.imp (ps_asg (ja Wx tk) (pg_sub (jo Wx tk) (ji Wx tk) set_list hsub) hs hw) fun D σ H ⟨w, e, S, R, p⟩ => (PostS.va R p).mono fun v H1 ⟨d, w1, e1, S1, R1, x1, r1, p1⟩ => (PostS.hd R1 p1).mono fun u H2 ⟨h, w2, e2, S2, R2, x2, r2, p2⟩ =>
    (PostS.va R2 p2).mono fun t H3 ⟨k, w3, e3, S3, R3, x3, r3, p3⟩ => by
      obtain ⟨pl, b, c, rfl, at_, p4⟩ := at_run R3 (r2.ext x3) p3
      cases c with
      | ob _ _ => exact p4.elim
      | lst xs =>
        cases k with
        | int k =>
          obtain rfl := int_inv r3
          dsimp only at p4
          cases hj : L2.ixN xs.length k with
          | none =>
            rw [hj] at p4
            exact p4.elim
          | some j =>
            rw [hj] at p4
            dsimp only at p4
            obtain ⟨vs, h1, h2⟩ := at_.cell
            refine ⟨b, vs, k, j, rfl, rfl, h1, by rw [h2.len]; exact hj, ?_⟩
            obtain ⟨x4, R4⟩ := R3.change (o := .lst (vs.set j v)) (c' := .lst (xs.set j d)) at_ ⟨_, upd_same, h2.set j ((r1.le x2.F x2.ad).le x3.F x3.ad)⟩ nofun
            rw [bind_ok (setC_eq pl (.lst (xs.set j d)))] at p4
            exact (p4.ext x4).now R4
        | _ => exact p4.elim
theorem aug_cases {op : Bop} {i j r : Int} (h : Vm.augI op i j = some r) : (op = .add ∧ r = i + j) ∨ (op = .sub ∧ r = i - j) ∨ (op = .mul ∧ CMul i j ∧ r = i * j) ∨ (op = .fdiv ∧ CDiv i j ∧ r = i / j) ∨ (op = .mod ∧ 0 < j ∧ r = i % j) := by
  cases op with
  | add =>
    cases h
    exact .inl ⟨rfl, rfl⟩
  | sub =>
    cases h
    exact .inr (.inl ⟨rfl, rfl⟩)
  | mul =>
    unfold Vm.augI at h
    dsimp only at h
    split at h
    · cases h
      exact .inr (.inr (.inl ⟨rfl, by assumption, rfl⟩))
    · cases h
  | fdiv =>
    unfold Vm.augI at h
    dsimp only at h
    split at h
    · cases h
      exact .inr (.inr (.inr (.inl ⟨rfl, by assumption, rfl⟩)))
    · cases h
  | mod =>
    unfold Vm.augI at h
    dsimp only at h
    split at h
    · cases h
      exact .inr (.inr (.inr (.inr ⟨rfl, by assumption, rfl⟩)))
    · cases h
  | pow => cases h
def rAug (op : Bop) : TIp := fun x y H Q => ∃ i j r, x = .int i ∧ y = .int j ∧ Vm.augI op i j = some r ∧ Q (.int r) H
theorem aug_ok {op : Bop} {o : Operator} (ho : bopOf o = some op) : PIp X o (rAug op) := by
  intro pins s σ H x y v u Q I rx ry h
  obtain ⟨i, j, r, rfl, rfl, h, q⟩ := h
  rcases aug_cases h with ⟨rfl, rfl⟩ | ⟨rfl, rfl⟩ | ⟨rfl, hc, rfl⟩ | ⟨rfl, hc, rfl⟩ | ⟨rfl, hc, rfl⟩
  · cases o <;> first | (cases ho; done) | (cases ho; exact iop_add pins s σ H _ _ v u Q I rx ry ⟨i, j, rfl, rfl, q⟩)
  · cases o <;> first | (cases ho; done) | (cases ho; exact iop_sub pins s σ H _ _ v u Q I rx ry ⟨i, j, rfl, rfl, q⟩)
  · cases o <;> first | (cases ho; done) | (cases ho; exact iop_mul pins s σ H _ _ v u Q I rx ry ⟨i, j, rfl, rfl, hc, q⟩)
  · cases o <;> first | (cases ho; done) | (cases ho; exact iop_fdiv pins s σ H _ _ v u Q I rx ry ⟨i, j, rfl, rfl, hc, q⟩)
  · cases o <;> first | (cases ho; done) | (cases ho; exact iop_mod pins s σ H _ _ v u Q I rx ry ⟨i, j, rfl, rfl, hc, q⟩)
/-- a handle read, within a statement -/
theorem res_run {hd : Hd} {u : V} {f : Vw → M β} {K : β → Env → Store → Wr → St → Hp → Prop} (R : Rel W w S H σ e) (r : HdR W w σ u hd) (p : PostS W Wx w H (((res hd).bind f) e S) K) : ∃ vw, VwR W w H u vw ∧ PostS W Wx w H (f vw e S) K := by
  have hn : res hd e S = .bad ∨ ∃ vw, res hd e S = .ok vw e S := by
    have rd : ∀ d, resD d e S = .bad ∨ ∃ vw, resD d e S = .ok vw e S := fun d => by
      cases d with
      | ref k =>
        unfold resD
        dsimp only
        cases S.getD k none with
        | none => exact .inl rfl
        | some c => exact .inr ⟨_, rfl⟩
      | _ => exact .inr ⟨_, rfl⟩
    cases hd with
    | d d => exact rd d
    | s i =>
      unfold res
      dsimp only
      cases e.getD i .emp with
      | emp => exact .inl rfl
      | val d => exact rd d
      | own c => exact .inr ⟨_, rfl⟩
  rcases hn with q | ⟨vw, q⟩
  · rw [bind_bad q] at p
    exact p.elim
  · rw [bind_ok q] at p
    have p0 : Post W Wx σ w H (((res hd).bind fun v => M.pure v) e S) (fun v _ _ w' H' => v = vw ∧ True) := by
      rw [bind_ok q]
      exact fun w' H' _ _ => ⟨rfl, True.intro⟩
    obtain ⟨vw', r', p1⟩ := res_post R r p0
    have e1 := (p1.now R).1
    subst e1
    exact ⟨_, r', p⟩
theorem js_aug {i : Nat} {n : Str} {a : Expr} {p p' : Pos} {op : Operator} {o : Bop} {m : M Hd} (ho : bopOf op = some o) (hN : X.N.Nodup) (hi : X.N[i]? = some n) (hx : Loc X.env.scope n) (hf : X.fn n = true ∨ X.env.scope.names.lookup n = some .local) (ja : JH W X a m) :
    JS W X (.AugAssign (.Name n p') op a p) ((hdV i).bind fun h => m.bind fun g => (res h).bind fun x => (res g).bind fun y => match x, y with
    | .d (.int a), .d (.int b) => (M.opt (Vm.augI o a b)).bind fun r => (setV i (.int r)).bind fun _ => .pure .next
    | _, _ => .bad) := fun Wx tk =>
  PS.imp (ps_aug hN hi hx (ja Wx tk) (aug_ok ho) hf) fun D σ H ⟨w, e, S, R, p⟩ => by
    have hs := R.slot i
    have go : ∀ u, σ[i]? = some (some u) → hdV i e S = .ok (.s i) e S → tAug i (tHd W Wx m) (rAug o) D σ H := fun u hu hq => by
      rw [bind_ok hq] at p
      refine ⟨u, hu, (PostS.hd R p).mono fun v H1 ⟨g, w1, e1, S1, R1, x1, r1, p1⟩ => ?_⟩
      obtain ⟨vx, rx, p2⟩ := res_run (u := u) R1 (show HdR W w1 σ u (.s i) from hu) p1
      obtain ⟨vy, ry, p3⟩ := res_run R1 r1 p2
      cases vx with
      | c c => exact p3.elim
      | d dx =>
        cases dx with
        | int a =>
          cases vy with
          | c c => exact p3.elim
          | d dy =>
            cases dy with
            | int b =>
              cases rx
              cases ry
              obtain ⟨r, hr, p4⟩ := p3.opt
              have p5 : PostS W Wx w1 H1 (M.pure Fl.next (e1.set i (.val (.int r))) S1) (EndR W D) := p4
              exact ⟨a, b, r, rfl, rfl, hr, p5.now (R1.put (.int r))⟩
            | _ => exact p3.elim
        | _ => exact p3.elim
    cases q : e.getD i .emp with
    | emp =>
      have hq : hdV i e S = .bad := by unfold hdV; rw [q]
      rw [bind_bad hq] at p
      exact p.elim
    | val d =>
      rw [q] at hs
      obtain ⟨u, h1, h2⟩ := hs
      exact go u h1 (by unfold hdV; rw [q])
    | own c =>
      rw [q] at hs
      obtain ⟨u, h1, h2⟩ := hs
      exact go _ h1 (by unfold hdV; rw [q])
/-- xs[i] op= e -/
def rGetL : V → V → Hp → VK → Prop := fun o i H Q => ∃ p xs k v, o = .ref p ∧ i = .int k ∧ H p = some (.lst xs) ∧ atI xs k = some v ∧ Q v H
theorem get_lst : PGet X rGetL := by
  intro pins s σ H o i ov iv Q I ro ri h
  obtain ⟨p, xs, k, z, rfl, rfl, hp, he, q⟩ := h
  cases ro
  obtain ⟨t, rfl⟩ := ri
  obtain ⟨its, r, pl, hz⟩ := I.list (SqL.of hp)
  obtain ⟨j, h1, h2, h3, h4, h5⟩ := atI_get he
  obtain ⟨w, ew, rw'⟩ := r.get h2
  have hl := r.length
  have hn := line63
  have fin : EP X pins σ Q w s := ⟨z, H, I, rw', q⟩
  by_cases h0 : 0 ≤ k
  · have hj : k.toNat = j := by
      rw [seqIndex_of h0 h5] at h1
      exact Option.some.inj h1
    exact wpAny_getItem_list pl.isList h0 (by omega) (by rw [hj]; simpa using ew) fin
  · have hj : (k + (its.toArray.size : Int)).toNat = j := by
      rw [seqIndex_neg (by omega) h4] at h1
      rw [List.size_toArray, ← hl]
      exact Option.some.inj h1
    exact wpAny_getItem_list_neg pl.isList (by omega) (by rw [List.size_toArray] <;> omega) (by omega) (by rw [hj]; simpa using ew) fin
theorem PlAt.ext {pl : Pl} {a : Addr} {c c' : Cell} (h : PlAt W w H S σ e a c pl) (R' : Rel W w' S' H' σ e') (x : Ext w H w' H') (hg : getC pl e' S' = .ok c' e' S') : PlAt W w' H' S' σ e' a c' pl := by
  cases pl with
  | s i =>
    obtain ⟨h1, h2, h3, h4⟩ := h
    unfold getC at hg
    dsimp only at hg
    cases q : e'.getD i .emp with
    | own c2 =>
      rw [q] at hg
      cases hg
      have hs := R'.slot i
      rw [q] at hs
      obtain ⟨b, k1, k2, k3⟩ := hs
      rw [h4] at k1
      cases k1
      exact ⟨q, k2, k3, h4⟩
    | emp =>
      rw [q] at hg
      cases hg
    | val d =>
      rw [q] at hg
      cases hg
  | k k =>
    obtain ⟨h1, h2, h3, h4⟩ := h
    unfold getC at hg
    dsimp only at hg
    cases q : S'.getD k none with
    | some c2 =>
      rw [q] at hg
      cases hg
      obtain ⟨b, k1, k2, k3⟩ := R'.cell k _ q
      rw [pre_get x.ad h4] at k1
      cases k1
      exact ⟨q, k2, k3, pre_get x.ad h4⟩
    | none =>
      rw [q] at hg
      cases hg
def augM (ma : M D) (mo : M Hd) (mi : M D) (op : Bop) : M Fl := mo.bind fun h => mi.bind fun k => (plOf h).bind fun p => (getC p).bind fun c => match c, k with
    | .lst xs, .int k => (match L2.ixN xs.length k with
      | some j => (match xs[j]? with
        | some (.int a) => ma.bind fun y => match y with
          | .int b => (M.opt (Vm.augI op a b)).bind fun r => (getC p).bind fun c => match c with
            | .lst ys => (match L2.ixN ys.length k with
              | some j => (setC p (.lst (ys.set j (.int r)))).bind fun _ => .pure .next
              | none => .bad)
            | _ => .bad
          | _ => .bad
        | _ => .bad)
      | none => .bad)
    | _, _ => .bad
theorem js_augS {o i a : Expr} {sp p : Pos} {op : Operator} {b : Bop} {mo : M Hd} {mi ma : M D} (hop : bopOf op = some b) (jo : JH W X o mo) (ji : JV W X i mi) (ja : JV W X a ma)
    (ha : ∀ ov iv new, augStore i ov iv new = (do holding [new, ov, iv] (setItem ov iv new); release [new, ov, iv] []; pure .next)) : JS W X (.AugAssign (.Subscript o i sp) op a p) (augM ma mo mi b) := fun Wx tk =>
  PS.imp (ps_augS (jo Wx tk) (ji Wx tk) get_lst (ja Wx tk) (aug_ok hop) set_list ha) fun D σ H ⟨w, e, S, R, p⟩ => (PostS.hd R p).mono fun u H1 ⟨h, w1, e1, S1, R1, x1, r1, p1⟩ => (PostS.va R1 p1).mono fun v H2 ⟨k, w2, e2, S2, R2, x2, r2, p2⟩ => by
    obtain ⟨pl, aa, c, rfl, at_, p3⟩ := at_run R2 (r1.ext x2) p2
    cases c with
    | ob _ _ => exact p3.elim
    | lst xs =>
      cases k with
      | int k =>
        obtain rfl := int_inv r2
        dsimp only at p3
        cases hj : L2.ixN xs.length k with
        | none =>
          rw [hj] at p3
          exact p3.elim
        | some j =>
          rw [hj] at p3
          dsimp only at p3
          obtain ⟨vs, h1, h2⟩ := at_.cell
          cases hx : xs[j]? with
          | none =>
            rw [hx] at p3
            exact p3.elim
          | some z =>
            rw [hx] at p3
            cases z with
            | int n =>
              obtain ⟨uz, hu, ru⟩ := h2.get hx
              obtain rfl := int_inv ru
              refine ⟨aa, vs, k, .int n, rfl, rfl, h1, Option.bind_eq_some_iff.mpr ⟨j, by rw [h2.len]; exact hj, hu⟩, (PostS.va R2 p3).mono fun y H3 ⟨dy, w3, e3, S3, R3, x3, r3, p4⟩ => ?_⟩
              cases dy with
              | int m =>
                obtain rfl := int_inv r3
                obtain ⟨r, hr, p5⟩ := p4.opt
                refine ⟨n, m, r, rfl, rfl, hr, ?_⟩
                rcases getC_eq pl e3 S3 with q2 | ⟨c2, q2⟩
                · rw [bind_bad q2] at p5
                  exact p5.elim
                · rw [bind_ok q2] at p5
                  have at2 := at_.ext R3 x3 q2
                  cases c2 with
                  | ob _ _ => exact p5.elim
                  | lst ys =>
                    dsimp only at p5
                    cases hj2 : L2.ixN ys.length k with
                    | none =>
                      rw [hj2] at p5
                      exact p5.elim
                    | some j2 =>
                      rw [hj2] at p5
                      dsimp only at p5
                      obtain ⟨us, g1, g2⟩ := at2.cell
                      refine ⟨aa, us, k, j2, rfl, rfl, g1, by rw [g2.len]; exact hj2, ?_⟩
                      obtain ⟨x4, R4⟩ := R3.change (o := .lst (us.set j2 (.int r))) (c' := .lst (ys.set j2 (.int r))) at2 ⟨_, upd_same, g2.set j2 (.int r)⟩ nofun
                      rw [bind_ok (setC_eq pl (.lst (ys.set j2 (.int r))))] at p5
                      exact (p5.ext x4).now R4
              | _ => exact p4.elim
            | _ => exact p3.elim
      | _ => exact p3.elim
theorem js_setA {o a : Expr} {f : Str} {sp p : Pos} {A : Api} {n : Nat} {mo : M Hd} {ma : M D} (C : ClsOk W X A n) (ja : JV W X a ma) (jo : JH W X o mo) (hs : swapsWith a (some (.Attribute o f sp)) p.line X.env = pure false) :
    JS W X (.Assign [.Attribute o f sp] a p) (ma.bind fun y => mo.bind fun h => (plOf h).bind fun p => (getC p).bind fun c => match c with
    | .ob c fs => if fs.length < 1000 && A.fld c f then (setC p (.ob c (putD f y fs))).bind fun _ => .pure .next else .bad
    | _ => .bad) := fun Wx tk =>
  PS.imp (ps_fld (jo Wx tk) (ja Wx tk) hs) fun D σ H ⟨w, e, S, R, p⟩ => (PostS.va R p).mono fun v H1 ⟨d, w1, e1, S1, R1, x1, r1, p1⟩ => (PostS.hd R1 p1).mono fun u H2 ⟨h, w2, e2, S2, R2, x2, r2, p2⟩ => by
    obtain ⟨pl, b, c, rfl, at_, p4⟩ := at_run R2 r2 p2
    cases c with
    | lst _ => exact p4.elim
    | ob c fs =>
      dsimp only at p4
      by_cases hc : (decide (fs.length < 1000) && A.fld c f) = true
      · rw [if_pos hc] at p4
        have hc2 := Bool.and_eq_true_iff.mp hc
        have hl : fs.length < 1000 := of_decide_eq_true hc2.1
        obtain ⟨CC, dx, vf, h1, h2, h3⟩ := at_.cell
        obtain ⟨k1, k2⟩ := C.fld c f CC hc2.2 h2
        refine ⟨b, CC, dx, vf, rfl, h1, k1, k2, by rw [h3.len]; exact hl, ?_⟩
        obtain ⟨x4, R4⟩ := R2.change (o := .ins CC dx (putF f v vf)) (c' := .ob c (putD f d fs)) at_ ⟨CC, dx, _, upd_same, h2, h3.put (r1.le x2.F x2.ad)⟩ fun k fs' _ => ⟨c, fs, rfl⟩
        rw [bind_ok (setC_eq pl (.ob c (putD f d fs)))] at p4
        exact (p4.ext x4).now R4
      · rw [if_neg hc] at p4
        exact p4.elim
theorem js_while {t : Expr} {b : List Stmt} {p : Pos} {mt : M Bool} {mb : M Fl} {n : Nat} (hp : PassesOwn (model X.prog X.w) X.A X.env X.xe) (jt : JT W X t mt) (jb : JSs W X b mb) : JS W X (.While t b [] p) (whGo mt mb n) := fun Wx tk =>
  PS.imp (ps_while hp (jt Wx tk) (jb Wx tk)) fun D σ H ⟨w, e, S, R, p⟩ => by
    refine ⟨fun m σ H => ∃ w e S, Rel W w S H σ e ∧ PostS W Wx w H (whGo mt mb m e S) (EndR W D), ⟨n, w, e, S, R, p⟩, fun m σ H ⟨w, e, S, R, p⟩ => ?_⟩
    cases m with
    | zero => exact p.elim
    | succ m =>
      refine (PostS.ta R (show PostS W Wx w H ((M.bind mt fun k => match k with
        | false => M.pure Fl.next
        | true => mb.bind fun f => match f with
          | .brk => .pure .next
          | .ret d => .pure (.ret d)
          | _ => whGo mt mb m) e S) (EndR W D) from p)).mono fun k H1 ⟨w1, e1, S1, R1, x1, p1⟩ => ?_
      cases k with
      | false =>
        rw [if_neg Bool.false_ne_true]
        exact PostS.now (Wx := Wx) R1 p1
      | true =>
        rw [if_pos rfl]
        refine ⟨fun σ H => ∃ w e S, Rel W w S H σ e ∧ PostS W Wx w H (whGo mt mb m e S) (EndR W D), fun σ' H' q => ⟨m, Nat.lt_succ_self m, q⟩, w1, e1, S1, R1, p1.bind.imp fun f e2 S2 w2 σ2 H2 x2 R2 p2 => ?_⟩
        cases f with
        | next => exact ⟨w2, e2, S2, R2, p2⟩
        | cont => exact ⟨w2, e2, S2, R2, p2⟩
        | brk => exact PostS.now (Wx := Wx) R2 p2
        | ret d => exact PostS.now (Wx := Wx) R2 p2
theorem js_for {tg it : Expr} {b : List Stmt} {p : Pos} {g : Tg} {mi : M Wk} {mb : M Fl} {fuel : Nat} (hp : PassesOwn (model X.prog X.w) X.A X.env X.xe) (hc : X.calm = true) (ji : JI W X tg it mi) (jg : JG W X tg g) (jb : JSs W X b mb) (hs : ∀ x, foldedSetIterable it X.env x = pure x) :
    JS W X (.For tg it b [] p) (mi.bind fun wk => forN wk (Tg.put g) mb (turns fuel wk) 0) := fun Wx tk =>
  PS.imp (ps_for hp hc (ji Wx tk) jg (jb Wx tk) hs) fun D σ H ⟨w, e, S, R, p⟩ => ⟨w, e, S, R, (p.bind.at_ σ).imp fun wk e1 S1 w1 H1 x1 R1 p1 => fun J hJ => by
    refine ⟨fun i m σ H => ∃ w e S, Ext w1 H1 w H ∧ Rel W w S H σ e ∧ PostS W Wx w H (forN wk (Tg.put g) mb m i e S) (EndR W D), ⟨turns fuel wk, w1, e1, S1, Ext.refl _ _, R1, p1⟩, fun i m σ H ⟨w, e, S, x, R, p⟩ => ?_⟩
    cases m with
    | zero => exact p.elim
    | succ m =>
      obtain ⟨hs, hg⟩ := hJ w H S σ e i x R
      have p : PostS W Wx w H (match nxtW wk i S with
        | none => .bad
        | some none => .ok .next e S
        | some (some x) => ((Tg.put g x).bind fun _ => mb.bind fun f => match f with
          | .brk => .pure .next
          | .ret d => .pure (.ret d)
          | _ => forN wk (Tg.put g) mb m (i + 1)) e S) (EndR W D) := p
      cases q : nxtW wk i S with
      | none =>
        rw [q] at p
        exact p.elim
      | some o =>
        rw [q] at p
        cases o with
        | none => exact .inl ⟨hs q, p w H σ (Ext.refl _ _) R⟩
        | some d =>
          obtain ⟨g1, g2⟩ := hg d q
          refine .inr ⟨g1, fun σ H => ∃ w e S, Ext w1 H1 w H ∧ Rel W w S H σ e ∧ PostS W Wx w H (forN wk (Tg.put g) mb m (i + 1) e S) (EndR W D), fun σ' H' z => ⟨m, Nat.lt_succ_self m, z⟩, fun y H2 hy => ?_⟩
          obtain ⟨x2, R2, r2⟩ := g2 y H2 hy
          dsimp only at p
          refine put_run R2 r2 (p.ext x2) fun σ' e' R' p2 => ⟨w, e', S, R', p2.bind.imp fun f e3 S3 w3 σ3 H3 x3 R3 p3 => ?_⟩
          cases f with
          | next => exact ⟨w3, e3, S3, (x.trans x2).trans x3, R3, p3⟩
          | cont => exact ⟨w3, e3, S3, (x.trans x2).trans x3, R3, p3⟩
          | brk => exact PostS.now (Wx := Wx) R3 p3
          | ret d => exact PostS.now (Wx := Wx) R3 p3⟩
end
end Vm
namespace Vm
open PySem PySem.Spec L2
open PyProof.Rows hiding St
section
variable {α β : Type} {W : Wd} {X : Cx} {Wx : L2.WX} {σ σ' : St} {w w' w1 : Wr} {H H' H1 : Hp} {e e' : Env} {S S' : Store} {x y v : V}
/-- nothing may be raised -/
def noW : L2.WX := fun _ _ _ _ => False
theorem takes_no : Takes X noW := fun u s' ⟨a, B, sI, pins, σ, H, cls, d, _, _, _, _, _, _, _, _, h⟩ => h.elim
theorem Rel.wipes (R : Rel W w S H σ e) : ∀ (is : List Nat), Rel W w S H (wipe σ is) (wipeE e is)
  | [] => R
  | i :: is => (Rel.wipes R is).wipe1
theorem backE_len (e0 e : Env) : ∀ is : List Nat, (backE e0 e is).length = e.length
  | [] => rfl
  | i :: is => by
    show ((backE e0 e is).set i _).length = _
    rw [List.length_set, backE_len e0 e is]
theorem backE_in {e0 e : Env} {i : Nat} : ∀ {is : List Nat}, i ∈ is → i < e.length → (backE e0 e is).getD i .emp = e0.getD i .emp
  | j :: is, h, hl => by
    show ((backE e0 e is).set j _).getD i .emp = _
    rw [getD_set, backE_len]
    by_cases hj : j = i
    · subst hj
      rw [if_pos ⟨rfl, hl⟩]
    · rw [if_neg (fun z => hj z.1)]
      exact backE_in ((List.mem_cons.mp h).resolve_left fun z => hj z.symm) hl
theorem backE_out {e0 e : Env} {i : Nat} : ∀ {is : List Nat}, i ∉ is → (backE e0 e is).getD i .emp = e.getD i .emp
  | [], _ => rfl
  | j :: is, h => by
    show ((backE e0 e is).set j _).getD i .emp = _
    have hj : j ≠ i := fun z => h (by rw [z]; exact List.mem_cons_self)
    rw [getD_set, if_neg (fun z => hj z.1)]
    exact backE_out fun z => h (List.mem_cons_of_mem _ z)
/-- back behind the block -/
theorem Rel.back {own : List Nat} (R0 : Rel W w S H σ e) (x : Ext w H w' H') (no : noOwn e own = true) (hl : σ'.length = σ.length) (hσ : ∀ i, i ∉ own → σ'[i]? = σ[i]?) (R : Rel W w' S' H' σ' e') : Rel W w' S' H' σ (backE e e' own) := by
  refine ⟨R.sub, by rw [backE_len, R.len, hl], fun i => ?_, R.cell, R.adl, R.fow, R.owl, fun i c fs a h1 h2 => ?_⟩
  rotate_left
  · by_cases hi : i ∈ own
    · have hb : i < e'.length := by
        have := (getD_ne h1 (fun z => nomatch z)).2
        rw [backE_len] at this
        exact this
      rw [backE_in hi hb] at h1
      have hn : (match e.getD i .emp with
        | .own _ => false
        | _ => true) = true := by
        unfold noOwn at no
        exact List.all_eq_true.mp no i hi
      rw [h1] at hn
      cases hn
    · rw [backE_out hi] at h1
      exact R.self i c fs a h1 (by rw [hσ i hi]; exact h2)
  by_cases hi : i ∈ own
  · by_cases hb : i < e'.length
    · rw [backE_in hi hb]
      have h0 := R0.slot i
      have hn : (match e.getD i .emp with
        | .own _ => false
        | _ => true) = true := by
        unfold noOwn at no
        exact List.all_eq_true.mp no i hi
      cases q : e.getD i .emp with
      | emp => exact True.intro
      | val d =>
        rw [q] at h0
        obtain ⟨u, h1, h2⟩ := h0
        exact ⟨u, h1, h2.le x.F x.ad⟩
      | own c =>
        rw [q] at hn
        cases hn
    · have h9 : (backE e e' own)[i]? = none := List.getElem?_eq_none (by rw [backE_len]; omega)
      rw [List.getD_eq_getElem?_getD, h9]
      exact True.intro
  · rw [backE_out hi, ← hσ i hi]
    exact R.slot i
theorem wipe_in {i : Nat} : ∀ {vs : List Nat}, i ∈ vs → (wipe σ vs)[i]? = if i < σ.length then some none else none
  | j :: vs, h => by
    show ((wipe σ vs).set j none)[i]? = _
    by_cases hj : j = i
    · subst hj
      rw [List.getElem?_set]
      simp only [wipe_length, ite_true]
    · rw [List.getElem?_set_ne hj]
      exact wipe_in ((List.mem_cons.mp h).resolve_left fun z => hj z.symm)
theorem wipe_same {vs : List Nat} (hl : σ'.length = σ.length) (h : ∀ i, i ∉ vs → σ'[i]? = σ[i]?) : wipe σ' vs = wipe σ vs := by
  apply List.ext_getElem?
  intro i
  by_cases hi : i ∈ vs
  · rw [wipe_in hi, wipe_in hi, hl]
  · rw [wipe_out hi, wipe_out hi]
    exact h i hi
/-- a thing of nobody's, changed, forgotten -/
theorem Rel.loose {a : Addr} {o : HO} (R : Rel W w S H σ e) (h1 : w.F a = none) (h2 : w.ow a = none) : Rel W w S (upd H a o) σ e := by
  have hk : ∀ b u, b ≠ a → H b = some u → upd H a o b = some u := fun b u n q => by
    rw [upd_ne n]
    exact q
  have no : ∀ {b y}, w.ow b = some y → b ≠ a := fun {b y} q z => by rw [z, h2] at q; cases q
  refine ⟨fun b u q => hk b u (fun z => by rw [z, h1] at q; cases q) (R.sub b u q), R.len, fun j => (R.slot j).to (Le.refl _) (List.prefix_refl _) fun b q => ⟨q, fun u k => hk b u (no q) k⟩, fun k c' q => ?_, R.adl, R.fow, fun b y q => ?_, R.self⟩
  · obtain ⟨b, k1, k2, k3⟩ := R.cell k c' q
    exact ⟨b, k1, k2.to (fun u z => hk b u (no k3) z) (Le.refl _) (List.prefix_refl _), k3⟩
  · obtain ⟨u, k⟩ := R.owl b y q
    exact ⟨u, hk b u (no q) k⟩
def del (H : Hp) (a : Addr) : Hp := fun b => if b = a then none else H b
theorem del_ne {a b : Addr} (h : b ≠ a) : del H a b = H b := by
  unfold del
  rw [if_neg h]
theorem del_upd {a : Addr} {o : HO} (h : H a = some o) : upd (del H a) a o = H := by
  funext b
  by_cases z : b = a
  · subst z
    rw [upd_same, h]
  · rw [upd_ne z, del_ne z]
theorem Rel.less {a : Addr} (R : Rel W w S H σ e) (h1 : w.F a = none) (h2 : w.ow a = none) : Rel W w S (del H a) σ e := by
  have hk : ∀ b u, b ≠ a → H b = some u → del H a b = some u := fun b u n q => by
    rw [del_ne n]
    exact q
  have no : ∀ {b y}, w.ow b = some y → b ≠ a := fun {b y} q z => by rw [z, h2] at q; cases q
  refine ⟨fun b u q => hk b u (fun z => by rw [z, h1] at q; cases q) (R.sub b u q), R.len, fun j => (R.slot j).to (Le.refl _) (List.prefix_refl _) fun b q => ⟨q, fun u k => hk b u (no q) k⟩, fun k c' q => ?_, R.adl, R.fow, fun b y q => ?_, R.self⟩
  · obtain ⟨b, k1, k2, k3⟩ := R.cell k c' q
    exact ⟨b, k1, k2.to (fun u z => hk b u (no k3) z) (Le.refl _) (List.prefix_refl _), k3⟩
  · obtain ⟨u, k⟩ := R.owl b y q
    exact ⟨u, hk b u (no q) k⟩
/-- what comes behind a step of a run that ends well -/
theorem Post.of_ok {m : M α} {f : α → M β} {b : β} {eb : Env} {Sb : Store} (h : (M.bind m f) e S = .ok b eb Sb) : Post W Wx σ w H (m e S) (fun a e1 S1 _ _ => f a e1 S1 = .ok b eb Sb) := by
  unfold M.bind at h
  cases q : m e S with
  | ok a e1 S1 =>
    rw [q] at h
    exact fun _ _ _ _ => h
  | rz x e1 S1 =>
    rw [q] at h
    cases h
  | bad =>
    rw [q] at h
    cases h
/-- a comprehension's tests -/
def JTs (W : Wd) (X : Cx) (ts : List Expr) (m : M Bool) : Prop := ∀ Wx, Takes X Wx → PTs X ts (tT W Wx m)
theorem PTs.imp {ts : List Expr} {t t' : TT} (h : PTs X ts t) (k : ∀ σ H Q, t' σ H Q → t σ H Q) : PTs X ts t' := ⟨fun pins s σ H Q I q => h.run pins s σ H Q I (k σ H Q q)⟩
theorem jts_nil : JTs W X [] (.pure true) := fun Wx tk => PTs.imp pts_nil fun σ H Q ⟨w, e, S, R, p⟩ => p.now R
theorem jts_one {t : Expr} {m : M Bool} (h : JT W X t m) : JTs W X [t] m := fun Wx tk => pts_one (h Wx tk)
/-- the turns of a comprehension keep what is wanted -/
theorem lc_turns {tg : Expr} {g : Tg} {own : List Nat} {mt : M Bool} {mel : M D} {mi : M Wk} {fuel : Nat} {Q : VK} {H0 : Hp} {e0 : Env} {S0 : Store} {w0 : Wr} {Kf : D → Env → Store → Wr → Hp → Prop} (R0 : Rel W w0 S0 H0 σ e0)
    (p : Post W Wx σ w0 H0 ((mi.bind fun wk => fun e s => if noOwn e own && g.slots.all own.contains then (match lcN wk own (Tg.put g) mt mel (turns fuel wk) 0 [] e s with
      | .ok ys e' s' => .ok (D.lst ys) (backE e e' own) s'
      | _ => .bad) else .bad) e0 S0) Kf)
    (fin : ∀ ds e S w H, Kf (.lst ds) e S w H → ∀ p vs, H p = none → RpL W w.F w.ad vs ds → Q (.ref p) (upd H p (.lst vs))) :
    tLc (tI W Wx tg mi) (tG W tg g) (tT W noW mt) (tV W noW mel) own σ H0 Q := by
  refine ⟨w0, e0, S0, R0, p.bind.imp fun wk e1 S1 w1 H1 x1 R1 p1 => fun J hJ => fun A hA => ?_⟩
  have p1 : Post W Wx σ w1 H1 (if noOwn e1 own && g.slots.all own.contains then (match lcN wk own (Tg.put g) mt mel (turns fuel wk) 0 [] e1 S1 with
      | .ok ys e' s' => .ok (D.lst ys) (backE e1 e' own) s'
      | _ => .bad) else .bad) Kf := p1
  by_cases hc : (noOwn e1 own && g.slots.all own.contains) = true
  · rw [if_pos hc] at p1
    have hc2 := Bool.and_eq_true_iff.mp hc
    have hsl : ∀ i, i ∉ own → i ∉ g.slots := fun i hi z => hi (by
      have := List.all_eq_true.mp hc2.2 i z
      exact List.contains_iff_mem.mp this)
    cases q : lcN wk own (Tg.put g) mt mel (turns fuel wk) 0 [] e1 S1 with
    | bad =>
      rw [q] at p1
      exact p1.elim
    | rz z e2 S2 =>
      rw [q] at p1
      exact p1.elim
    | ok ys ef Sf =>
      rw [q] at p1
      have fA : w1.F A = none := by
        cases z : w1.F A with
        | none => rfl
        | some u =>
          have := R1.sub A u z
          rw [hA] at this
          cases this
      have oA : w1.ow A = none := by
        cases z : w1.ow A with
        | none => rfl
        | some u =>
          obtain ⟨o, z⟩ := R1.owl A u z
          rw [hA] at z
          cases z
      have xA : ∀ {w : Wr} {H : Hp} {o : HO}, Ext w1 H1 w H → Ext w1 H1 w (upd H A o) := fun {w H o} x => ⟨x.F, x.ad, fun b u z1 z2 z3 => by
        obtain ⟨y1, y2, y3⟩ := x.fo b u z1 z2 z3
        exact ⟨by rw [upd_ne (fun z => by rw [z, hA] at z1; cases z1)]; exact y1, y2, y3⟩, x.me⟩
      have xD : ∀ {w : Wr} {H : Hp}, Ext w1 H1 w H → Ext w1 H1 w (del H A) := fun {w H} x => ⟨x.F, x.ad, fun b u z1 z2 z3 => by
        obtain ⟨y1, y2, y3⟩ := x.fo b u z1 z2 z3
        exact ⟨by rw [del_ne (fun z => by rw [z, hA] at z1; cases z1)]; exact y1, y2, y3⟩, x.me⟩
      refine ⟨fun i m H => ∃ w e S av ad, Ext w1 H1 w H ∧ Rel W w S H (wipe σ own) (wipeE e own) ∧ H A = some (.lst av) ∧ RpL W w.F w.ad av ad ∧ w.F A = none ∧ w.ow A = none ∧ lcN wk own (Tg.put g) mt mel m i ad e S = .ok ys ef Sf,
        ⟨turns fuel wk, w1, e1, S1, [], [], xA (Ext.refl _ _), (R1.wipes own).loose fA oA, upd_same, .nil, fA, oA, q⟩, fun i m H ⟨w, e, S, av, ad, x, R, hD, ra, f1, f2, hq⟩ => ?_⟩
      cases m with
      | zero => cases hq
      | succ m =>
        have hq2 : (match nxtW wk i S with
          | none => Out.bad
          | some none => Out.ok ad (wipeE e own) S
          | some (some x) => ((Tg.put g x).bind fun _ => mt.bind fun b => match b with
            | true => mel.bind fun y => if ad.length < 2 ^ 24 then lcN wk own (Tg.put g) mt mel m (i + 1) (ad ++ [y]) else .bad
            | false => lcN wk own (Tg.put g) mt mel m (i + 1) ad) (wipeE e own) S) = .ok ys ef Sf := hq
        obtain ⟨hs, hg⟩ := hJ w H S _ _ i x R
        cases hn : nxtW wk i S with
        | none =>
          rw [hn] at hq2
          cases hq2
        | some o =>
          rw [hn] at hq2
          cases o with
          | none =>
            cases hq2
            refine .inl ⟨hs hn, ?_⟩
            have R5 := (R1.back x hc2.1 (wipe_length _ _) (fun i hi => wipe_out hi) R).less f1 f2
            have := fin _ _ _ _ _ (p1 w (del H A) (xD x) R5) A av (by unfold del; rw [if_pos rfl]) ra
            rw [del_upd hD] at this
            exact this
          | some d =>
            dsimp only at hq2
            obtain ⟨g1, g2⟩ := hg d hn
            refine .inr ⟨g1, fun H => ∃ w e S av ad, Ext w1 H1 w H ∧ Rel W w S H (wipe σ own) (wipeE e own) ∧ H A = some (.lst av) ∧ RpL W w.F w.ad av ad ∧ w.F A = none ∧ w.ow A = none ∧ lcN wk own (Tg.put g) mt mel m (i + 1) ad e S = .ok ys ef Sf,
              fun H' z => ⟨m, Nat.lt_succ_self m, z⟩, fun y H2 hy => ?_⟩
            obtain ⟨x2, R2, r2⟩ := g2 y H2 hy
            rcases Tg.put_ok g d (wipeE e own) S with ⟨e3, h3⟩ | h3
            · rw [bind_ok h3] at hq2
              refine ⟨d, w, wipeE e own, S, e3, R2, r2, h3, fun σ2 R3 k3 l3 => ?_⟩
              have ws : wipe σ2 own = wipe σ own := (wipe_same (l3.trans (wipe_length _ _)) fun i hi => (k3 i (hsl i hi)).trans (wipe_out hi))
              refine ⟨ws, ⟨w, e3, S, R3, (Post.of_ok hq2).imp fun b e4 S4 w4 H4 x4 R4 h4 => ?_⟩⟩
              have x24 := x2.trans x4
              obtain ⟨d1, d2, d3⟩ := x24.fo A _ hD f1 f2
              have back : ∀ {w H e S}, Rel W w S H σ2 e → Rel W w S H (wipe σ own) (wipeE e own) := fun {w H e S} R => by
                have := R.wipes own
                rw [ws] at this
                exact this
              cases b with
              | false =>
                dsimp only
                rw [if_neg Bool.false_ne_true]
                exact ⟨w4, e4, S4, av, ad, x.trans x24, back R4, d1, ra.le x24.F x24.ad, d2, d3, h4⟩
              | true =>
                dsimp only
                rw [if_pos rfl]
                refine ⟨w4, e4, S4, R4, (Post.of_ok h4).imp fun y2 e5 S5 w5 H5 x5 R5 h5 => fun u ru => ?_⟩
                obtain ⟨c1, c2, c3⟩ := x5.fo A _ d1 d2 d3
                have rb := ra.le (x24.trans x5).F (x24.trans x5).ad
                have h5 : (if ad.length < 2 ^ 24 then lcN wk own (Tg.put g) mt mel m (i + 1) (ad ++ [y2]) else M.bad) e5 S5 = .ok ys ef Sf := h5
                by_cases hl : ad.length < 2 ^ 24
                · rw [if_pos hl] at h5
                  exact ⟨av, c1, by rw [ra.len]; exact hl, w5, e5, S5, _, _, xA ((x.trans x24).trans x5), (back R5).loose c2 c3, upd_same, rb.append (.cons ru .nil), c2, c3, h5⟩
                · rw [if_neg hl] at h5
                  cases h5
            · rw [bind_bad h3] at hq2
              cases hq2
  · rw [if_neg hc] at p1
    exact p1.elim
def lcM (own : List Nat) (g : Tg) (mi : M Wk) (mt : M Bool) (mel : M D) (fuel : Nat) : M D := mi.bind fun wk => fun e s => if noOwn e own && g.slots.all own.contains then (match lcN wk own (Tg.put g) mt mel (turns fuel wk) 0 [] e s with
      | .ok ys e' s' => .ok (D.lst ys) (backE e e' own) s'
      | _ => .bad) else .bad
theorem lst_lc {own : List Nat} {g : Tg} {mi : M Wk} {mt : M Bool} {mel : M D} {fuel : Nat} : ∀ e S d e' S', lcM own g mi mt mel fuel e S = .ok d e' S' → ∃ ds, d = .lst ds := by
  intro e S d e' S' h
  unfold lcM M.bind at h
  split at h
  · dsimp only at h
    split at h
    · split at h
      · cases h
        exact ⟨_, rfl⟩
      · cases h
    · cases h
  · cases h
  · cases h
/-- the block's judgements -/
structure BlkJ (W : Wd) (X : Cx) (tg elt : Expr) (ts : List Expr) (scope : Scope) (g : Tg) (mt : M Bool) (mel : M D) : Prop where
  g : ∀ (s : Shared) (H : Hp) (C : Addr) (cl : List (Str × Addr)) (fp : List Addr), JG W (X.blk s H scope (compEnvC scope cl C X.env) fp) tg g
  t : ∀ (s : Shared) (H : Hp) (C : Addr) (cl : List (Str × Addr)) (fp : List Addr), JTs W (X.blk s H scope (compEnvC scope cl C X.env) fp) ts mt
  e : ∀ (s : Shared) (H : Hp) (C : Addr) (cl : List (Str × Addr)) (fp : List Addr), JV W (X.blk s H scope (compEnvC scope cl C X.env) fp) elt mel
theorem jn_lc {elt tg it : Expr} {ts : List Expr} {scope : Scope} {own : List (Str × Nat)} {p : Pos} {g : Tg} {mi : M Wk} {mt : M Bool} {mel : M D} {fuel : Nat} (hc : X.calm = true) (hN : X.N.Nodup) (ok : BlkOk X.N X.env.scope scope own) (ji : JI W X tg it mi) (B : BlkJ W X tg elt ts scope g mt mel)
    (hs : ∀ x, foldedSetIterable it X.env x = pure x) : JN W X (.ListComp elt [⟨tg, it, ts, 0⟩] scope p) (lcM (own.map (·.2)) g mi mt mel fuel) := fun Wx tk =>
  PE.imp (pe_lc hc hN (ji Wx tk) ok B.g (fun s H C cl fp => B.t s H C cl fp noW takes_no) (fun s H C cl fp => B.e s H C cl fp noW takes_no) hs) fun σ H Q ⟨w, e, S, R, h⟩ =>
    lc_turns R h fun ds e S w H k p vs hp r => by
      obtain ⟨ds', e1, k⟩ := k
      cases e1
      exact k p vs hp r
/-- x = [.. for ..]: the name is stored by the comprehension itself -/
theorem ps_setLcM {i : Nat} {n : Str} {py : Pos} {elt tg it : Expr} {ts : List Expr} {scope : Scope} {own : List (Str × Nat)} {p sp : Pos} {g : Tg} {mi : M Wk} {mt : M Bool} {mel : M D} {fuel : Nat} (hc : X.calm = true) (hN : X.N.Nodup) (hi : X.N[i]? = some n) (hl : X.env.scope.names.lookup n = some .local)
    (hsw : swapsWith (.ListComp elt [⟨tg, it, ts, 0⟩] scope p) (some (.Name n py)) sp.line X.env = pure true) (ok : BlkOk X.N X.env.scope scope own) (ji : JI W X tg it mi) (B : BlkJ W X tg elt ts scope g mt mel) (hs : ∀ x, foldedSetIterable it X.env x = pure x) :
    ∀ Wx, Takes X Wx → PS X (.Assign [.Name n py] (.ListComp elt [⟨tg, it, ts, 0⟩] scope p) sp) (tAsg (tAl W Wx (lcM (own.map (·.2)) g mi mt mel fuel)) (gName i)) := fun Wx tk =>
  PS.imp (ps_setLc hc hN hi hl hsw (ji Wx tk) ok B.g (fun s H C cl fp => B.t s H C cl fp noW takes_no) (fun s H C cl fp => B.e s H C cl fp noW takes_no) hs) fun D σ H h => by
    obtain ⟨w, e, S, R, h2⟩ := h
    exact lc_turns R h2 fun ds e S w H k p vs hp r => by
      obtain ⟨ds', e1, k⟩ := k
      cases e1
      exact k p vs hp r
end
end Vm
namespace Vm
open PySem PySem.Spec L2
open PyProof.Rows hiding St
def btNames : List Str := ["len", "abs", "int", "sum", "min", "max", "list", "tuple", "any", "all", "isinstance", "range", "enumerate", "zip", "bool", "str", "sorted", "set", "dict", "type", "reversed", "repr"]
structure XOk (W : Wd) (A : Api) (k : Nat) (C : Cc) (X : Cx) : Prop where
  N : X.N = C.N
  sc : X.env.scope = C.sc
  kind : C.sc.kind = .function
  nd : C.N.Nodup
  calm : X.calm = true
  cls : ClsOk W X A k
  fnl : ∀ x, C.raw.names.lookup x = some .cell → X.fn x = true
  bt : ∀ x ∈ btNames, X.mg x = none
  con : ∀ x d, C.gl.lookup x = some d → ∃ u v, X.mg x = some u ∧ RelV v u ∧ ∀ F ad, Rp W F ad v d
  cc : ∀ c f d, C.cc.lookup (c, f) = some d → ∃ Ca mc v u, X.mg c = some (.ref Ca) ∧ ClX.CRead X.K Ca mc ∧ ClX.CVal X.K Ca mc f v u ∧ ∀ F ad, Rp W F ad v d
section
variable {W : Wd} {X : Cx} {A : Api} {k : Nat} {C : Cc} {p q : Pos} {e a b : Expr} {t : Tm}
theorem XOk.gl (O : XOk W A k C X) {x : Str} (h : glB C.sc x = true) : Gl X x := by
  show X.env.scope.names.lookup x = some .globalImplicit
  rw [O.sc]
  unfold glB at h
  split at h
  · assumption
  · cases h
theorem dbg1 {x : Str} (h : dbgB x = true) : (x == ("__debug__" : Str)) = false ∧ (x == ("__classdict__" : Str)) = false := by
  unfold dbgB at h
  simp only [Bool.and_eq_true, Bool.not_eq_true'] at h
  exact ⟨h.1.1, h.1.2⟩
theorem ix_of {x : Str} {i : Nat} (h : ixOf C x = some i) : C.N[i]? = some x ∧ visB C.sc x = true ∧ dbgB x = true := by
  unfold ixOf at h
  split at h
  · rename_i hc
    have hc2 := Bool.and_eq_true_iff.mp hc
    dsimp only at h
    split at h
    · cases h
      exact ⟨by assumption, hc2.1, hc2.2⟩
    · cases h
  · cases h
theorem ixl_of {x : Str} {i : Nat} (h : ixLoc C x = some i) : C.N[i]? = some x ∧ locB C.sc C.raw x = true := by
  unfold ixLoc at h
  split at h
  · rename_i hc
    dsimp only at h
    split at h
    · cases h
      exact ⟨by assumption, hc⟩
    · cases h
  · cases h
theorem vis_of {sc : Scope} {x : Str} (h : visB sc x = true) : Vis sc x := by
  unfold visB at h
  split at h
  · exact .inl (by assumption)
  · exact .inr (.inl (by assumption))
  · exact .inr (.inr (by assumption))
  · cases h
theorem loc_of {sc raw : Scope} {x : Str} (h : locB sc raw x = true) : Loc sc x ∧ (sc.names.lookup x = some .local ∨ raw.names.lookup x = some .cell) := by
  unfold locB at h
  split at h
  · rename_i q
    exact ⟨.inl q, .inl q⟩
  · rename_i q
    exact ⟨.inr q, .inr (beq_iff_eq.mp h)⟩
  · cases h
theorem XOk.loc (O : XOk W A k C X) {x : Str} {i : Nat} (h : ixLoc C x = some i) : X.N[i]? = some x ∧ Loc X.env.scope x ∧ (X.fn x = true ∨ X.env.scope.names.lookup x = some .local) := by
  obtain ⟨h1, h2⟩ := ixl_of h
  obtain ⟨h3, h4⟩ := loc_of h2
  rw [O.N, O.sc]
  exact ⟨h1, h3, h4.elim .inr fun z => .inl (O.fnl x z)⟩
def noV : Tm → Bool
  | .v _ => false
  | _ => true
theorem ehd_noV {m : M D} : ∀ {t : Tm}, noV t = true → ehd m t = m.bind fun d => .pure (.d d) := by
  intro t h
  cases t <;> first | rfl | cases h
theorem jh_noV (h : JV W X e (ev A t)) (n : noV t = true) : JH W X e (ehd (ev A t) t) := by
  rw [ehd_noV n]
  exact jh_of h
def JF (W : Wd) (X : Cx) (A : Api) (e : Expr) (t : Tm) : Prop := fresh t = true → JN W X e (ev A t)
structure JA (W : Wd) (X : Cx) (A : Api) (e : Expr) (t : Tm) : Prop where
  v : JV W X e (ev A t)
  h : JH W X e (ehd (ev A t) t)
  f : JF W X A e t
theorem ja_of (h : JV W X e (ev A t)) (n : noV t = true) (f : fresh t = false) : JA W X A e t := ⟨h, jh_noV h n, fun z => by rw [f] at z; cases z⟩
theorem ja_bad : JA W X A e .bad := ja_of jv_bad rfl rfl
theorem fresh_noV : ∀ {t : Tm}, fresh t = true → noV t = true := by
  intro t h
  cases t <;> first | rfl | cases h
theorem ja_new (h : JV W X e (ev A t)) (n : noV t = true) (f : JN W X e (ev A t)) : JA W X A e t := ⟨h, jh_noV h n, fun _ => f⟩
theorem ja_cell (j : JA W X A e t) : JA W X A e (isCell C p t) := by
  unfold isCell
  split
  · rename_i hc
    have hc2 := Bool.and_eq_true_iff.mp hc
    exact ja_of (jv_cell (j.f hc2.2)) rfl rfl
  · exact j
theorem jl_map {f : Expr → Tm} (h : ∀ e, JA W X A e (f e)) : ∀ {es : List Expr}, es.any starred = false → JL W X es (el A (tmL (es.map f)))
  | [], _ => jl_nil
  | a :: es, hs => by
    rw [List.any_cons, Bool.or_eq_false_iff] at hs
    exact jl_cons hs.1 (h a).v (jl_map h hs.2)
theorem jhs_map {f : Expr → Tm} (h : ∀ e, JA W X A e (f e)) : ∀ {es : List Expr}, es.any starred = false → JHs W X es (ehs A (tmL (es.map f)))
  | [], _ => jhs_nil
  | a :: es, hs => by
    rw [List.any_cons, Bool.or_eq_false_iff] at hs
    exact jhs_cons hs.1 (h a).h (jhs_map h hs.2)
theorem jl_nil0 {f : Expr → Tm} {es : List Expr} (h : es = []) : el A (tmL (es.map f)) = .pure [] := by
  subst h
  rfl
theorem ja_name {x : Str} (O : XOk W A k C X) : JA W X A (.Name x p) (hName C x) := by
  unfold hName
  split
  · rename_i i hi
    obtain ⟨h1, h2, h3⟩ := ix_of hi
    obtain ⟨h4, h5⟩ := dbg1 h3
    rw [← O.N] at h1
    have hv := vis_of h2
    rw [← O.sc] at hv
    exact ⟨jv_name h1 hv h4 h5, jh_name h1 hv h4 h5, fun z => nomatch z⟩
  · split
    · rename_i hc
      have hc2 := Bool.and_eq_true_iff.mp hc
      split
      · rename_i d hd
        obtain ⟨u, v, h1, h2, h3⟩ := O.con x d hd
        exact ja_of (jv_cst (pe_glob (O.gl hc2.1) h1 h2 (dbg1 hc2.2).1) h3) rfl rfl
      · exact ja_bad
    · exact ja_bad
theorem ja_cst {c : Const} {i : Nat} : JA W X A (.Constant c i p) (match cstOf c with
    | some d => .cst d
    | none => .bad) := by
  cases c with
  | none => exact ja_of (jv_cst pe_non fun _ _ => .non) rfl rfl
  | bool b => exact ja_of (jv_cst pe_bl fun _ _ => .bl b) rfl rfl
  | int b => exact ja_of (jv_cst pe_int fun _ _ => .int b) rfl rfl
  | str b => exact ja_of (jv_cst pe_str fun _ _ => .str b) rfl rfl
  | _ => exact ja_bad
theorem units_ok (O : XOk W A k C X) : X.A.units + 66 < cLine := by
  have := O.cls.room.un
  omega
theorem ja_bin {f : Expr → Tm} {op : Operator} (O : XOk W A k C X) (ja : JA W X A a (f a)) (jb : JA W X A b (f b)) : JA W X A (.BinOp a op b p) (hBin C f a b op p) := by
  unfold hBin
  split
  · rename_i o ho
    obtain ⟨r, h1, h2⟩ := bop_rule (X := X) ho
    have jv : JV W X (.BinOp a op b p) (ev A (.bin o (f a) (f b))) := jv_bin ja.h jb.h h1 (h2 W O.cls.K)
    refine ja_cell ⟨jv, jh_noV jv rfl, fun hf => ?_⟩
    cases op <;> cases ho <;> first | exact jn_add ja.h jb.h | exact jn_mul ja.h jb.h | cases hf
  · exact ja_bad
theorem ja_un {f : Expr → Tm} {op : UnaryOp} (ja : JA W X A a (f a)) : JA W X A (.UnaryOp op a p) (hUn f op a) := by
  cases op with
  | USub => exact ja_of (jv_neg ja.v) rfl rfl
  | Not => exact ja_of (jv_notv ja.v) rfl rfl
  | _ => exact ja_bad
theorem notset {op : CmpOp} {b : Expr} (h : isSet b = false) : behindInMarks op b = false := by
  cases b <;> first | rfl | cases h
theorem ord_nc {op : CmpOp} (h : ordC op = true) : ∀ vx vy k, cmpV (copOf op) vx vy = some k → ∀ c, vy = .c c → False := by
  intro vx vy k hk c hc
  have : ordV (copOf op) vx vy = some k := by
    cases op <;> first | exact hk | cases h
  exact (ordV_nc this).2 c hc
theorem ja_cmp {f : Expr → Tm} (O : XOk W A k C X) (h : ∀ e, JA W X A e (f e)) {ops : List CmpOp} {cs : List Expr} : JA W X A (.Compare a ops cs p) (hCmp f a ops cs) ∧ JT W X (.Compare a ops cs p) (et A (.tval (hCmp f a ops cs))) := by
  have jtb : JT W X (.Compare a ops cs p) (et A (.tval .bad)) := fun Wx tk => ⟨fun pins s σ H Q I ⟨w, e, S, R, p⟩ => p.elim⟩
  unfold hCmp
  split
  · split
    · exact ⟨ja_bad, jtb⟩
    · rename_i op b hs
      have hs2 : isSet b = false := by simpa using hs
      obtain ⟨r, h1, h2⟩ := cop_rule (X := X) op (units_ok O)
      exact ⟨ja_of (jv_cmp (h _).h (h _).h h1 (h2 W O.cls.K) (notset hs2)) rfl rfl, jt_cmp (h _).h (h _).h h1 (h2 W O.cls.K) (notset hs2)⟩
  · split
    · exact ⟨ja_bad, jtb⟩
    · rename_i o1 o2 b c hs
      have hs2 : isSet b = false ∧ isSet c = false ∧ ordC o1 = true := by
        simp only [Bool.or_eq_true, Bool.not_eq_true', not_or, Bool.not_eq_true, Bool.not_eq_false] at hs
        exact ⟨hs.1.1, hs.1.2, hs.2⟩
      obtain ⟨r, h1, h2⟩ := cop_rule (X := X) o1 (units_ok O)
      obtain ⟨r', h1', h2'⟩ := cop_rule (X := X) o2 (units_ok O)
      exact ⟨ja_of (jv_chain (h a).h (h b).h (h c).h h1 (h2 W O.cls.K) h1' (h2' W O.cls.K) (ord_nc hs2.2.2) (notset hs2.2.1)) rfl rfl, jt_chain (h a).h (h b).h (h c).h h1 (h2 W O.cls.K) h1' (h2' W O.cls.K) (ord_nc hs2.2.2) (notset hs2.2.1)⟩
  · exact ⟨ja_bad, jtb⟩
theorem ja_one {op : BoolOp} (j : JA W X A a t) : JA W X A (.BoolOp op [a] p) t := ⟨jv_one j.v, fun Wx tk => pe_one (j.h Wx tk), fun hf Wx tk => pe_one (j.f hf Wx tk)⟩
theorem ja_bool {f : Expr → Tm} (h : ∀ e, JA W X A e (f e)) {op : BoolOp} {vs : List Expr} : JA W X A (.BoolOp op vs p) (hBool f op vs p) := by
  unfold hBool
  split
  · exact ja_one (h _)
  · cases op with
    | And => exact ja_of (jv_and (h _).v (h _).v) rfl rfl
    | Or => exact ja_of (jv_or (h _).v (h _).v) rfl rfl
  · exact ja_bad
theorem abase {o : Expr} {f : Str} (h : call0 o = false) : attributeBase o f X.env (eval o X.env) = eval o X.env := by
  cases o with
  | Call fe es kws q =>
    cases fe with
    | Name x q2 =>
      cases es with
      | nil =>
        cases kws with
        | nil => exact abase_call (by
            have : (x == ("super" : Str)) = false := h
            show (!(x == ("super" : Str))) = true
            rw [this]
            rfl)
        | cons _ _ => rfl
      | cons _ _ => rfl
    | _ => rfl
  | _ => rfl
theorem ja_fld {g : Expr → Tm} {f : Str} {o : Expr} (O : XOk W A k C X) (jo : JA W X A o (g o)) : JA W X A (.Attribute o f p) (hAttr C g o f) := by
  unfold hAttr
  split
  · rename_i d hd
    unfold hCon at hd
    split at hd
    · rename_i c q
      split at hd
      · rename_i hc
        have hc2 := Bool.and_eq_true_iff.mp hc
        obtain ⟨Ca, mc, v, u, h1, h2, h3, h4⟩ := O.cc c f d hd
        have pe : PE X (.Attribute (.Name c q) f p) (tC v) := PE.imp (ClX.pe_cval (pe_glob (v := .ref Ca) (O.gl hc2.1) h1 rfl (dbg1 hc2.2).1)) fun σ H Q z => ⟨Ca, mc, v, u, rfl, h2, h3, z⟩
        exact ja_of (jv_cst pe h4) rfl rfl
      · cases hd
    · cases hd
  · split
    · exact ja_bad
    · rename_i h
      exact ja_of (jv_fld O.cls jo.h (abase (by simpa using h))) rfl rfl
theorem plain_ix {b : Expr} (h : isSlice b = false) : PlainIx b := by
  intro o i
  cases b <;> first | rfl | cases h
theorem jo_tm {f : Expr → Tm} (h : ∀ e, JA W X A e (f e)) : ∀ o : Option Expr, JO W X o (eod (ev A (oTm f o)) (oTm f o))
  | none => jo_none
  | some e => jo_some (h e).v
theorem ja_sub {f : Expr → Tm} {o i : Expr} (O : XOk W A k C X) (h : ∀ e, JA W X A e (f e)) : JA W X A (.Subscript o i p) (hSub C f o i p) := by
  unfold hSub
  split
  · split
    · exact ja_cell (ja_new (jv_sl O.cls.K (h o).h (jo_tm h _) (jo_tm h _)) rfl (jn_sl O.cls.K (h o).h (jo_tm h _) (jo_tm h _)))
    · exact ja_bad
  · split
    · exact ja_bad
    · rename_i hs
      exact ja_of (jv_ix O.cls.K (h o).h (h i).v (plain_ix (by simpa using hs))) rfl rfl
theorem ja_tup {f : Expr → Tm} {es : List Expr} {n : Nat} (h : ∀ e, JA W X A e (f e)) : JA W X A (.Tuple es n p) (if es.any starred then .bad else .tup (tmL (es.map f))) := by
  split
  · exact ja_bad
  · rename_i hs
    exact ja_of (jv_tup (jl_map h (by simpa using hs))) rfl rfl
theorem ja_lst {f : Expr → Tm} {es : List Expr} (h : ∀ e, JA W X A e (f e)) : JA W X A (.List es p) (if es.any starred then .bad else isCell C p (.lst (tmL (es.map f)))) := by
  split
  · exact ja_bad
  · rename_i hs
    have j : JN W X (.List es p) (ev A (.lst (tmL (es.map f)))) := jn_lst (jl_map h (by simpa using hs))
    exact ja_cell (ja_new (j.val lst_lst) rfl j)
theorem btOf_e {x : Str} {n : Nat} {b : Bt} (h : btOf x n = some b) : ∃ t ∈ btTab, t.x = x ∧ t.n = n ∧ t.b = b := by
  obtain ⟨t, ht, rfl⟩ := Option.map_eq_some_iff.mp h
  have h2 := List.find?_some ht
  have h3 := Bool.and_eq_true_iff.mp h2
  exact ⟨t, List.mem_of_find?_eq_some ht, beq_iff_eq.mp h3.1, beq_iff_eq.mp h3.2, rfl⟩
theorem btTab_pos : ∀ t ∈ btTab, 0 < t.n := by decide +kernel
theorem bt_rule {x : Str} {b : Bt} {es : List Expr} (O : XOk W A k C X) (hb : btOf x es.length = some b) (hg : glB C.sc x = true) (hst : es.any starred = false) : ∃ r, BtOk W r b ∧ (∀ p q ta, PA X es ta → PE X (.Call (.Name x p) es [] q) (tCB r ta)) ∧
    (b = .list → r = fun xs H Q => ∃ p ys, xs = [.ref p] ∧ (SqL X.K H p ys ∨ SqT X.K H p ys) ∧ ∀ l, H l = none → Q (.ref l) (upd H l (.lst ys))) := by
  obtain ⟨t, ht, rfl, hn, rfl⟩ := btOf_e hb
  cases es with
  | nil =>
    have := btTab_pos t ht
    rw [hn] at this
    exact absurd this (Nat.lt_irrefl 0)
  | cons a es =>
    have hs2 : starred a = false ∧ es.any starred = false := by
      rw [List.any_cons, Bool.or_eq_false_iff] at hst
      exact hst
    have G := O.gl hg
    unfold btTab at ht
    rcases List.mem_cons.mp ht with rfl | ht
    · refine ⟨_, blt_len, fun p q ta ha => ?_, nofun⟩
      rw [O.cls.K]
      exact pe_callB call_len G (O.bt _ (by decide)) (by decide +kernel) ha (by decide) (by decide) (star_eq hs2.1) (plain_eq hs2.2)
    rcases List.mem_cons.mp ht with rfl | ht
    · refine ⟨_, blt_abs, fun p q ta ha => ?_, nofun⟩
      exact pe_callB call_abs G (O.bt _ (by decide)) (by decide +kernel) ha (by decide) (by decide) (star_eq hs2.1) (plain_eq hs2.2)
    rcases List.mem_cons.mp ht with rfl | ht
    · refine ⟨_, blt_int, fun p q ta ha => ?_, nofun⟩
      exact pe_callTy call_int1 G (O.bt _ (by decide)) (by decide +kernel) ha (by decide) (by decide) (star_eq hs2.1) (plain_eq hs2.2)
    rcases List.mem_cons.mp ht with rfl | ht
    · refine ⟨_, blt_sum, fun p q ta ha => ?_, nofun⟩
      rw [O.cls.K]
      exact pe_callB (cr_sumA O.calm) G (O.bt _ (by decide)) (by decide +kernel) ha (by decide) (by decide) (star_eq hs2.1) (plain_eq hs2.2)
    rcases List.mem_cons.mp ht with rfl | ht
    · refine ⟨_, blt_min2, fun p q ta ha => ?_, nofun⟩
      exact pe_callB (call_min2 O.calm) G (O.bt _ (by decide)) (by decide +kernel) ha (by decide) (by decide) (star_eq hs2.1) (plain_eq hs2.2)
    rcases List.mem_cons.mp ht with rfl | ht
    · refine ⟨_, blt_max2, fun p q ta ha => ?_, nofun⟩
      exact pe_callB (call_max2 O.calm) G (O.bt _ (by decide)) (by decide +kernel) ha (by decide) (by decide) (star_eq hs2.1) (plain_eq hs2.2)
    rcases List.mem_cons.mp ht with rfl | ht
    · refine ⟨_, blt_list, fun p q ta ha => ?_, fun _ => by rw [O.cls.K]⟩
      rw [O.cls.K]
      exact pe_callTy call_list_of G (O.bt _ (by decide)) (by decide +kernel) ha (by decide) (by decide) (star_eq hs2.1) (plain_eq hs2.2)
    rcases List.mem_cons.mp ht with rfl | ht
    · refine ⟨_, blt_tuple, fun p q ta ha => ?_, nofun⟩
      rw [O.cls.K]
      exact pe_callTy call_tuple_F G (O.bt _ (by decide)) (by decide +kernel) ha (by decide) (by decide) (star_eq hs2.1) (plain_eq hs2.2)
    rcases List.mem_cons.mp ht with rfl | ht
    · refine ⟨_, blt_any, fun p q ta ha => ?_, nofun⟩
      rw [O.cls.K]
      exact pe_callB (cr_any O.calm) G (O.bt _ (by decide)) (by decide +kernel) ha (by decide) (by decide) (star_eq hs2.1) (plain_eq hs2.2)
    rcases List.mem_cons.mp ht with rfl | ht
    · refine ⟨_, blt_all, fun p q ta ha => ?_, nofun⟩
      rw [O.cls.K]
      exact pe_callB (cr_all O.calm) G (O.bt _ (by decide)) (by decide +kernel) ha (by decide) (by decide) (star_eq hs2.1) (plain_eq hs2.2)
    cases ht
end
end Vm
namespace Vm
open PySem PySem.Spec L2
open PyProof.Rows hiding St
section
variable {W : Wd} {X : Cx} {A : Api} {k : Nat} {C : Cc} {p q : Pos} {e a b : Expr} {t : Tm}
theorem tyTab_ok : ∀ t ∈ tyTab, t.x ∈ btNames ∧ t.t ∈ ["int", "bool", "str", "list", "tuple"] ∧ bootBuiltins t.x = some (.type t.t) ∧ t.x ≠ "__name__" ∧ (t.x == ("__debug__" : Str)) = false := by
  intro t ht
  unfold tyTab at ht
  rcases List.mem_cons.mp ht with rfl | ht
  · exact ⟨by decide, by decide, by decide +kernel, by decide, by decide⟩
  rcases List.mem_cons.mp ht with rfl | ht
  · exact ⟨by decide, by decide, by decide +kernel, by decide, by decide⟩
  rcases List.mem_cons.mp ht with rfl | ht
  · exact ⟨by decide, by decide, by decide +kernel, by decide, by decide⟩
  rcases List.mem_cons.mp ht with rfl | ht
  · exact ⟨by decide, by decide, by decide +kernel, by decide, by decide⟩
  rcases List.mem_cons.mp ht with rfl | ht
  · exact ⟨by decide, by decide, by decide +kernel, by decide, by decide⟩
  cases ht
theorem ja_isi {f : Expr → Tm} {es : List Expr} (O : XOk W A k C X) (h : ∀ e, JA W X A e (f e)) (hg : glB C.sc "isinstance" = true) : JA W X A (.Call (.Name "isinstance" q) es [] p) (hIsi C f es) := by
  unfold hIsi
  split
  · split
    · rename_i a T p2 _ t ht
      split
      · rename_i hc
        have hc2 := Bool.and_eq_true_iff.mp hc
        obtain ⟨ty, hty, rfl⟩ := Option.map_eq_some_iff.mp ht
        have hx0 := List.find?_some hty
        have hx := beq_iff_eq.mp hx0
        obtain ⟨t1, t2, t3, t4, t5⟩ := tyTab_ok ty (List.mem_of_find?_eq_some hty)
        rw [hx] at t1 t3 t4 t5
        have hs : starred a = false := by simpa using hc2.2
        exact ja_of (jv_isi O.cls.K (h a).h hs t2 (pe_bltn (O.gl hc2.1) (O.bt _ t1) t3 rfl t4 t5) (O.gl hg) (O.bt _ (by decide))) rfl rfl
      · exact ja_bad
    · exact ja_bad
  · exact ja_bad
theorem ja_call {f : Expr → Tm} {x : Str} {es : List Expr} (O : XOk W A k C X) (h : ∀ e, JA W X A e (f e)) : JA W X A (.Call (.Name x q) es [] p) (hCall C f x es p) := by
  unfold hCall
  split
  · exact ja_bad
  · rename_i hc
    have hc2 : es.any starred = false ∧ glB C.sc x = true ∧ dbgB x = true := by
      simp only [Bool.or_eq_true, Bool.not_eq_true', not_or, Bool.not_eq_true, Bool.not_eq_false] at hc
      exact ⟨hc.1.1, hc.1.2, hc.2⟩
    obtain ⟨h1, h2, h3⟩ := hc2
    have hd := (dbg1 h3).1
    split
    · exact ja_of (jv_call O.cls (O.gl h2) hd h1 jl_nil0 (jl_map h h1)) rfl rfl
    · split
      · exact ja_of (jv_make O.cls (O.gl h2) hd h1 jl_nil0 (jl_map h h1)) rfl rfl
      · split
        · exact ja_bad
        · split
          · rename_i hx
            subst hx
            exact ja_isi O h h2
          · split
            · rename_i b hb
              obtain ⟨r, r1, r2, r3⟩ := bt_rule O hb h2 h1
              have jv : JV W X (.Call (.Name x q) es [] p) (ev A (.blt b (tmL (es.map f)))) := blt_run (jhs_map h h1) r1 (r2 q p)
              refine ja_cell ⟨jv, jh_noV jv rfl, fun hf => ?_⟩
              cases b with
              | list =>
                have := r3 rfl
                subst this
                exact jn_list O.cls.K (jhs_map h h1) (r2 q p)
              | _ => cases hf
            · exact ja_bad
theorem mtOf_e {x : Str} {n : Nat} {m : Mt} (h : mtOf x n = some m) : ∃ t ∈ mtTab, t.x = x ∧ t.n = n ∧ t.m = m := by
  obtain ⟨t, ht, rfl⟩ := Option.map_eq_some_iff.mp h
  have h2 := List.find?_some ht
  have h3 := Bool.and_eq_true_iff.mp h2
  exact ⟨t, List.mem_of_find?_eq_some ht, beq_iff_eq.mp h3.1, beq_iff_eq.mp h3.2, rfl⟩
theorem mt_rule (t : MtE) (ht : t ∈ mtTab) : ∃ id r, MtId t.m t.x id ∧ MtR X id r ∧ MtOk W r t.m := by
  unfold mtTab at ht
  rcases List.mem_cons.mp ht with rfl | ht
  · exact ⟨_, _, ⟨PySem.F.slot_list_append, PySem.F.type_list_append⟩, mt_append, mk_append⟩
  rcases List.mem_cons.mp ht with rfl | ht
  · exact ⟨_, _, ⟨PySem.F.slot_list_extend, PySem.F.type_list_extend⟩, mt_extend, mk_extend⟩
  rcases List.mem_cons.mp ht with rfl | ht
  · exact ⟨_, _, ⟨PySem.F.slot_list_pop, PySem.F.type_list_pop⟩, mt_pop, mk_pop⟩
  rcases List.mem_cons.mp ht with rfl | ht
  · exact ⟨_, _, ⟨PySem.F.slot_list_pop, PySem.F.type_list_pop⟩, mt_popAt, mk_popAt⟩
  rcases List.mem_cons.mp ht with rfl | ht
  · exact ⟨_, _, ⟨PySem.F.slot_list_insert, PySem.F.type_list_insert⟩, mt_insert, mk_insert⟩
  rcases List.mem_cons.mp ht with rfl | ht
  · exact ⟨_, _, ⟨PySem.F.slot_list_clear, PySem.F.type_list_clear⟩, mt_clear, mk_clear⟩
  rcases List.mem_cons.mp ht with rfl | ht
  · exact ⟨_, _, ⟨PySem.F.slot_list_reverse, PySem.F.type_list_reverse⟩, mt_reverse, mk_reverse⟩
  cases ht
theorem ja_meth {f : Expr → Tm} {o : Expr} {m : Str} {ap : Pos} {es : List Expr} (O : XOk W A k C X) (h : ∀ e, JA W X A e (f e)) : JA W X A (.Call (.Attribute o m ap) es [] p) (hMeth f o m ap p es) := by
  unfold hMeth
  split
  · exact ja_bad
  · rename_i hc
    have hc2 : es.any starred = false ∧ call0 o = false ∧ few es.length = true ∧ (ap.endLine == p.line) = true := by
      simp only [Bool.or_eq_true, Bool.not_eq_true', not_or, Bool.not_eq_true, Bool.not_eq_false] at hc
      exact ⟨hc.1.1.1, hc.1.1.2, hc.1.2, hc.2⟩
    obtain ⟨h1, h2, h3, h4⟩ := hc2
    have hn : es.length < 30 := of_decide_eq_true h3
    split
    · rename_i mt hm
      obtain ⟨t, ht, rfl, _, rfl⟩ := mtOf_e hm
      obtain ⟨id, r, i1, i2, i3⟩ := mt_rule (W := W) (X := X) t ht
      cases es with
      | nil => exact ja_of (jv_mut0 i1 i2 i3 (h o).h (abase h2) h4) rfl rfl
      | cons a es => exact ja_of (jv_mut i1 i2 i3 (h o).h (jl_map h h1) (abase h2) h1 hn h4) rfl rfl
    · split
      · rename_i hx
        subst hx
        split
        · rename_i a _
          have hs : starred a = false := by simpa using h1
          exact ja_of (jv_cnt O.cls.K (units_ok O) (h o).h (h a).h hs (abase h2) h4) rfl rfl
        · exact ja_bad
      · exact ja_of (jv_meth O.cls (h o).v (jl_map h h1) jl_nil0 h1 (abase h2) hn h4) rfl rfl
theorem ji_it {f : Expr → Tm} {tg : Expr} {x : Str} {es : List Expr} (O : XOk W A k C X) (h : ∀ e, JA W X A e (f e)) : JI W X tg (.Call (.Name x q) es [] p) (ei A (hIt C f tg (.Call (.Name x q) es [] p) x es)) := by
  unfold hIt
  split
  · exact ji_bad
  · rename_i hc
    have hc2 : es.any starred = false ∧ glB C.sc x = true := by
      simp only [Bool.or_eq_true, Bool.not_eq_true', not_or, Bool.not_eq_true, Bool.not_eq_false] at hc
      exact hc
    obtain ⟨h1, h2⟩ := hc2
    split
    · rename_i hx
      subst hx
      have G := O.gl h2
      have B := O.bt "range" (by decide)
      unfold hRng
      split
      · rename_i a
        exact ji_rng1 G B (by simpa using h1) (h a).v
      · rename_i a b
        have h3 : starred a = false ∧ starred b = false := by simpa using h1
        exact ji_rng2 G B h3.1 h3.2 (h a).v (h b).v
      · rename_i a b c
        have h3 : starred a = false ∧ starred b = false ∧ starred c = false := by simpa using h1
        exact ji_rng3 G B h3.1 h3.2.1 h3.2.2 (h a).v (h b).v (h c).v
      · exact ji_bad
    · split
      · rename_i hx
        subst hx
        unfold hEnum
        split
        · rename_i a
          split
          · rename_i ht
            exact ji_enum O.cls.K ht (O.gl h2) (O.bt "enumerate" (by decide)) (by simpa using h1) (h a).v
          · exact ji_bad
        · exact ji_bad
      · split
        · rename_i hx
          subst hx
          unfold hZip
          split
          · rename_i a b
            have h3 : starred a = false ∧ starred b = false := by simpa using h1
            split
            · rename_i ht
              exact ji_zip O.cls.K ht (O.gl h2) (O.bt "zip" (by decide)) h3.1 h3.2 (h a).v (h b).v
            · exact ji_bad
          · exact ji_bad
        · exact ji_seq O.cls.K (h _).v
theorem puts_len : ∀ {g : Tg} {f : Expr → Option Tg} {es : List Expr}, gsM f es = some g → ∀ ds e S e', Tg.puts g ds e S = .ok () e' S → ds.length = es.length := by
  intro g f es
  induction es generalizing g with
  | nil =>
    intro h ds e S e' hp
    cases h
    unfold Tg.puts at hp
    cases ds with
    | nil => rfl
    | cons _ _ => cases hp
  | cons a es ih =>
    intro h ds e S e' hp
    unfold gsM at h
    split at h
    · cases h
    · obtain ⟨t, ht, h2⟩ := Option.bind_eq_some_iff.mp h
      obtain ⟨r, hr, rfl⟩ := Option.map_eq_some_iff.mp h2
      unfold Tg.puts at hp
      cases ds with
      | nil => cases hp
      | cons d ds =>
        dsimp only at hp
        rcases Tg.put_ok t d e S with ⟨e1, h1⟩ | h1
        · rw [bind_ok h1] at hp
          rw [List.length_cons, List.length_cons, ih hr ds e1 S e' hp]
        · rw [bind_bad h1] at hp
          cases hp
theorem gs_star {f : Expr → Option Tg} {es : List Expr} : ∀ {g : Tg}, gsM f es = some g → es.any starred = false := by
  induction es with
  | nil => intro g h; rfl
  | cons a es ih =>
    intro g h
    unfold gsM at h
    split at h
    · cases h
    · rename_i hs
      obtain ⟨t, ht, h2⟩ := Option.bind_eq_some_iff.mp h
      obtain ⟨r, hr, rfl⟩ := Option.map_eq_some_iff.mp h2
      rw [List.any_cons, ih hr]
      simpa using hs
theorem jgs_map {f : Expr → Option Tg} (h : ∀ e g, f e = some g → JG W X e g) {es : List Expr} : ∀ {g : Tg}, gsM f es = some g → JGs W X es g := by
  induction es with
  | nil =>
    intro g hg
    cases hg
    exact jgs_nil
  | cons a es ih =>
    intro g hg
    unfold gsM at hg
    split at hg
    · cases hg
    · rename_i hs
      obtain ⟨t, ht, h2⟩ := Option.bind_eq_some_iff.mp hg
      obtain ⟨r, hr, rfl⟩ := Option.map_eq_some_iff.mp h2
      exact jgs_cons (by simpa using hs) (h a t ht) (ih hr)
theorem jg_all (O : XOk W A k C X) : ∀ (n : Nat) (e : Expr) (g : Tg), cG n C e = some g → JG W X e g
  | 0, e, g, h => by
    unfold cG at h
    cases h
  | n + 1, e, g, h => by
    have nd : X.N.Nodup := by
      rw [O.N]
      exact O.nd
    cases e with
    | Name x q =>
      obtain ⟨i, hi, rfl⟩ := Option.map_eq_some_iff.mp (show (ixLoc C x).map Tg.nm = some g from h)
      obtain ⟨h1, h2, h3⟩ := O.loc hi
      exact jg_name nd h1 h2 h3
    | Tuple es m q =>
      obtain ⟨l, hl, rfl⟩ := Option.map_eq_some_iff.mp (show (gsM (cG n C) es).map Tg.tup = some g from h)
      exact jg_tup O.calm O.cls.K (gs_star hl) (puts_len hl) (jgs_map (fun e g => jg_all O n e g) hl)
    | _ => cases h
theorem XOk.blk (O : XOk W A k C X) {scope : Scope} {own : List (Str × Nat)} (ok : BlkOk C.N C.sc scope own) (s : Shared) (H : Hp) (D : Addr) (cl : List (Str × Addr)) (fp : List Addr) :
    XOk W A k { C with sc := relab C.sc scope, raw := scope } (X.blk s H scope (compEnvC scope cl D X.env) fp) := by
  refine ⟨O.N, ?_, ok.kind, O.nd, O.calm, ⟨O.cls.K, O.cls.room, O.cls.fld, O.cls.prop, O.cls.meth, O.cls.fn, O.cls.made⟩, fun x h => ?_, O.bt, O.con, O.cc⟩
  · show relabel scope X.env = relab C.sc scope
    rw [← O.sc]
    rfl
  · show (scope.names.lookup x == some .cell) = true
    rw [h]
    rfl
end
end Vm
namespace Vm
open PySem PySem.Spec L2
open PyProof.Rows hiding St
section
variable {W : Wd} {X : Cx} {A : Api} {k : Nat} {C : Cc} {p q : Pos} {e a b : Expr} {t : Tm}
theorem notset_it {it : Expr} {env : PySem.Env} (h : isSet it = false) : ∀ x, foldedSetIterable it env x = pure x := by
  intro x
  cases it <;> first | rfl | cases h
theorem jts_hTs {f : Expr → Tm} {ts : List Expr} (h : ∀ e, JT W X e (et A (f e))) : JTs W X ts (et A (hTs f ts)) := by
  unfold hTs
  split
  · exact jts_nil
  · exact jts_one (h _)
  · exact fun Wx tk => ⟨fun pins s σ H Q I ⟨w, e, S, R, p⟩ => p.elim⟩
structure All (W : Wd) (A : Api) (k n : Nat) (C : Cc) (X : Cx) : Prop where
  e : ∀ e, JA W X A e (cE n C e)
  t : ∀ e, JT W X e (et A (cT n C e))
  w : ∀ op vs p, JW W X (.BoolOp op vs p) (et A (cT n C (.BoolOp op vs p)))
  i : ∀ tg e, JI W X tg e (ei A (cI n C tg e))
theorem ja_lc {elt tg it : Expr} {ts : List Expr} {scope : Scope} {g : Option Tg} {ti tt te : Tm} (O : XOk W A k C X) (ji : JI W X tg it (ei A ti))
    (B : BlkOk C.N C.sc scope (ownOf C.N scope) → ∀ g', g = some g' → BlkJ W X tg elt ts scope g' (et A tt) (ev A te)) : JA W X A (.ListComp elt [⟨tg, it, ts, 0⟩] scope p) (hLC C p g it scope ti tt te) := by
  unfold hLC
  split
  · rename_i hc
    have hc2 := Bool.and_eq_true_iff.mp hc
    have ok := blkOk_by hc2.1
    have hs : isSet it = false := by simpa using hc2.2
    split
    · rename_i g' 
      have ok' : BlkOk X.N X.env.scope scope (ownOf C.N scope) := by
        rw [O.N, O.sc]
        exact ok
      have nd : X.N.Nodup := by
        rw [O.N]
        exact O.nd
      have j : JN W X (.ListComp elt [⟨tg, it, ts, 0⟩] scope p) (ev A (.lc ((ownOf C.N scope).map (·.2)) g' ti tt te)) := jn_lc (fuel := A.fuel) O.calm nd ok' ji (B ok g' rfl) (notset_it hs)
      exact ja_cell (ja_new (j.val lst_lc) rfl j)
    · exact ja_bad
  · exact ja_bad
theorem all_e : ∀ (n : Nat) (C : Cc) (X : Cx), XOk W A k C X → All W A k n C X
  | 0, C, X, O => ⟨fun e => ja_bad, fun e => jt_bad, fun op vs p => jw_bad, fun tg e => ji_bad⟩
  | n + 1, C, X, O => by
    have ih := all_e n C X O
    have blk : ∀ (scope : Scope), BlkOk C.N C.sc scope (ownOf C.N scope) → ∀ s H D cl fp, All W A k n { C with sc := relab C.sc scope, raw := scope } (X.blk s H scope (compEnvC scope cl D X.env) fp) := fun scope ok s H D cl fp => all_e n _ _ (O.blk ok s H D cl fp)
    have he : ∀ e, JA W X A e (cE (n + 1) C e) := fun e => by
      cases e with
      | Constant c j q => exact ja_cst
      | Name x q => exact ja_name O
      | BinOp a op b q => exact ja_bin O (ih.e a) (ih.e b)
      | UnaryOp op a q => exact ja_un (ih.e a)
      | Compare a ops cs q => exact (ja_cmp O ih.e).1
      | BoolOp op vs q => exact ja_bool ih.e
      | IfExp t a b q => exact ja_of (jv_ite (ih.t t) (ih.e a).v (ih.e b).v) rfl rfl
      | Attribute o f q => exact ja_fld O (ih.e o)
      | Subscript o i q => exact ja_sub O ih.e
      | Tuple es m q => exact ja_tup ih.e
      | List es q => exact ja_lst ih.e
      | ListComp elt gens scope q =>
        cases gens with
        | nil => exact ja_bad
        | cons g gs =>
          obtain ⟨tg, it, ts, as⟩ := g
          cases gs with
          | cons _ _ => exact ja_bad
          | nil =>
            by_cases h0 : as = 0
            · subst h0
              exact ja_lc O (ih.i tg it) fun ok g' hg => ⟨fun s H D cl fp => jg_all (O.blk ok s H D cl fp) n tg g' hg, fun s H D cl fp => jts_hTs (blk scope ok s H D cl fp).t, fun s H D cl fp => ((blk scope ok s H D cl fp).e elt).v⟩
            · have : cE (n + 1) C (.ListComp elt [⟨tg, it, ts, as⟩] scope q) = .bad := if_neg h0
              rw [this]
              exact ja_bad
      | Call fe es kws q =>
        cases kws with
        | cons _ _ => exact ja_bad
        | nil =>
          cases fe with
          | Name x q2 => exact ja_call O ih.e
          | Attribute o m ap => exact ja_meth O ih.e
          | _ => exact ja_bad
      | _ => exact ja_bad
    have hw : ∀ op vs p, JW W X (.BoolOp op vs p) (et A (cT (n + 1) C (.BoolOp op vs p))) := fun op vs p => by
      show JW W X (.BoolOp op vs p) (et A (hBoolT (cT n C) op vs p))
      unfold hBoolT
      split
      · exact jw_one (ih.t _)
      · cases op with
        | And => exact jw_and (ih.t _) (ih.w _ _ _)
        | Or => exact jw_or (ih.t _) (ih.w _ _ _)
      · exact jw_bad
    refine ⟨he, fun e => ?_, hw, fun tg e => ?_⟩
    · cases e with
      | BoolOp op vs q => exact (hw op vs q).t
      | UnaryOp op a q =>
        cases op with
        | Not => exact jt_not (ih.t a)
        | _ => exact jt_bad
      | Compare a ops cs q => exact (ja_cmp O ih.e).2
      | Name x q => exact jt_tru O.cls.K (ih.e _).h fun _ => rfl
      | Constant c j q => exact jt_tru O.cls.K (ih.e _).h fun _ => rfl
      | Call a b c d => exact jt_val (ih.e _).v fun _ => rfl
      | Attribute a b c => exact jt_tru O.cls.K (ih.e _).h fun _ => rfl
      | Subscript a b c => exact jt_tru O.cls.K (ih.e _).h fun _ => rfl
      | BinOp a b c d => exact jt_tru O.cls.K (ih.e _).h fun _ => rfl
      | _ => exact jt_bad
    · cases e with
      | Call fe es kws q =>
        cases kws with
        | cons _ _ => exact ji_bad
        | nil =>
          cases fe with
          | Name x q2 => exact ji_it O ih.e
          | _ => exact ji_seq O.cls.K (ih.e _).v
      | Set _ _ _ => exact ji_bad
      | _ => exact ji_seq O.cls.K (ih.e _).v
end
end Vm
namespace Vm
open PySem PySem.Spec L2
open PyProof.Rows hiding St
section
variable {W : Wd} {X : Cx} {A : Api} {k : Nat} {C : Cc} {p q : Pos} {e a b : Expr} {t : Tm}
theorem sw_no {tg : Option Expr} {n : Nat} {env : PySem.Env} (h : isLC a = false) : swapsWith a tg n env = pure false := by
  cases a <;> first | rfl | cases h
theorem ss_no {tg : Expr} {env : PySem.Env} (h1 : isLC a = false) (h2 : tupE a = false ∨ tupE tg = false) (h3 : ∀ es q, tg ≠ .List es q) : swappedStores [tg] a env = pure none := by
  cases tg with
  | List es q => exact absurd rfl (h3 es q)
  | Tuple es m q =>
    cases a <;> first | rfl | (rcases h2 with h2 | h2 <;> cases h2)
  | _ => rfl
theorem jss_map {f : Stmt → Sm} (h : ∀ s, JS W X s (ex A (f s))) : ∀ (ss : List Stmt), JSs W X ss (ex A (blkM f ss))
  | [] => jss_nil
  | s :: ss => jss_cons (h s) (jss_map h ss)
theorem hLC_cases {g : Option Tg} {it : Expr} {scope : Scope} {ti tt te : Tm} : hLC C p g it scope ti tt te = .bad ∨ ∃ g', g = some g' ∧ L2.blkC C.N C.sc scope (ownOf C.N scope) = true ∧ isSet it = false ∧
    (hLC C p g it scope ti tt te = .lc ((ownOf C.N scope).map (·.2)) g' ti tt te ∨ hLC C p g it scope ti tt te = .cell (.lc ((ownOf C.N scope).map (·.2)) g' ti tt te)) := by
  unfold hLC
  split
  · rename_i hc
    have hc2 := Bool.and_eq_true_iff.mp hc
    split
    · rename_i g'
      refine .inr ⟨g', rfl, hc2.1, by simpa using hc2.2, ?_⟩
      unfold isCell
      split
      · exact .inr rfl
      · exact .inl rfl
    · exact .inl rfl
  · exact .inl rfl
/-- a comprehension that stores the name itself -/
theorem set_lc {n i : Nat} {x : Str} {xp sp : Pos} {elt : Expr} {gens : List Comprehension} {scope : Scope} (O : XOk W A k C X) (hi : X.N[i]? = some x) (hl : X.env.scope.names.lookup x = some .local) (hsw : swapsWith (.ListComp elt gens scope p) (some (.Name x xp)) sp.line X.env = pure true) :
    (∀ Wx, Takes X Wx → PS X (.Assign [.Name x xp] (.ListComp elt gens scope p) sp) (tAsg (tV W Wx (ev A (cE n C (.ListComp elt gens scope p)))) (gName i))) ∧
    (fresh (cE n C (.ListComp elt gens scope p)) = true → ∀ Wx, Takes X Wx → PS X (.Assign [.Name x xp] (.ListComp elt gens scope p) sp) (tAsg (tAl W Wx (ev A (cE n C (.ListComp elt gens scope p)))) (gName i))) := by
  have bad : ∀ (m : M D), m = M.bad → (∀ Wx, Takes X Wx → PS X (.Assign [.Name x xp] (.ListComp elt gens scope p) sp) (tAsg (tV W Wx m) (gName i))) ∧ (∀ Wx, Takes X Wx → PS X (.Assign [.Name x xp] (.ListComp elt gens scope p) sp) (tAsg (tAl W Wx m) (gName i))) := fun m hm => by
    subst hm
    exact ⟨fun Wx tk => ⟨fun pins s σ H D I ⟨w, e, S, R, q⟩ => q.elim⟩, fun Wx tk => ⟨fun pins s σ H D I ⟨w, e, S, R, q⟩ => q.elim⟩⟩
  have badT : cE n C (.ListComp elt gens scope p) = .bad → (∀ Wx, Takes X Wx → PS X (.Assign [.Name x xp] (.ListComp elt gens scope p) sp) (tAsg (tV W Wx (ev A (cE n C (.ListComp elt gens scope p)))) (gName i))) ∧
    (fresh (cE n C (.ListComp elt gens scope p)) = true → ∀ Wx, Takes X Wx → PS X (.Assign [.Name x xp] (.ListComp elt gens scope p) sp) (tAsg (tAl W Wx (ev A (cE n C (.ListComp elt gens scope p)))) (gName i))) := fun h => by
    rw [h]
    exact ⟨(bad _ rfl).1, fun _ => (bad _ rfl).2⟩
  cases n with
  | zero => exact badT rfl
  | succ n =>
    cases gens with
    | nil => exact badT rfl
    | cons g gs =>
      obtain ⟨tg, it, ts, as⟩ := g
      cases gs with
      | cons _ _ => exact badT rfl
      | nil =>
        by_cases h0 : as = 0
        · subst h0
          have ih := all_e n C X O
          have nd : X.N.Nodup := by
            rw [O.N]
            exact O.nd
          have he : cE (n + 1) C (.ListComp elt [⟨tg, it, ts, 0⟩] scope p) = hLC C p (cG n { C with sc := relab C.sc scope, raw := scope } tg) it scope (cI n C tg it) (hTs (cT n { C with sc := relab C.sc scope, raw := scope }) ts) (cE n { C with sc := relab C.sc scope, raw := scope } elt) := rfl
          rcases hLC_cases (C := C) (p := p) (g := cG n { C with sc := relab C.sc scope, raw := scope } tg) (it := it) (scope := scope) (ti := cI n C tg it) (tt := hTs (cT n { C with sc := relab C.sc scope, raw := scope }) ts) (te := cE n { C with sc := relab C.sc scope, raw := scope } elt) with hb | ⟨g', hg, hblk, hset, hr⟩
          · exact badT (he.trans hb)
          · have ok := blkOk_by hblk
            have ok' : BlkOk X.N X.env.scope scope (ownOf C.N scope) := by
              rw [O.N, O.sc]
              exact ok
            have B : BlkJ W X tg elt ts scope g' (et A (hTs (cT n { C with sc := relab C.sc scope, raw := scope }) ts)) (ev A (cE n { C with sc := relab C.sc scope, raw := scope } elt)) :=
              ⟨fun s H D cl fp => jg_all (O.blk ok s H D cl fp) n tg g' hg, fun s H D cl fp => jts_hTs (all_e n _ _ (O.blk ok s H D cl fp)).t, fun s H D cl fp => ((all_e n _ _ (O.blk ok s H D cl fp)).e elt).v⟩
            have main := ps_setLcM (fuel := A.fuel) (py := xp) (sp := sp) (p := p) O.calm nd hi hl hsw ok' (ih.i tg it) B (notset_it hset)
            rcases hr with hr | hr
            · rw [he, hr]
              exact ⟨fun Wx tk => PS.imp (main Wx tk) fun D σ H q => tV_al lst_lc q, fun _ => main⟩
            · rw [he, hr]
              exact ⟨fun Wx tk => PS.imp (main Wx tk) fun D σ H q => tV_cell q, fun h => nomatch h⟩
        · exact badT (if_neg h0)
theorem js_hAsg {n : Nat} {tg : Expr} {sp : Pos} (O : XOk W A k C X) : JS W X (.Assign [tg] e sp) (ex A (hAsg C (cE n C) (cG n C) tg e)) := by
  have ih := all_e n C X O
  have nd : X.N.Nodup := by
    rw [O.N]
    exact O.nd
  unfold hAsg
  split
  · rename_i x xp
    split
    · rename_i i hi
      obtain ⟨h1, h2, h3⟩ := O.loc hi
      split
      · rename_i hlc
        have two : (∀ Wx, Takes X Wx → PS X (.Assign [.Name x xp] e sp) (tAsg (tV W Wx (ev A (cE n C e))) (gName i))) ∧ (fresh (cE n C e) = true → ∀ Wx, Takes X Wx → PS X (.Assign [.Name x xp] e sp) (tAsg (tAl W Wx (ev A (cE n C e))) (gName i))) := by
          have plain : swapsWith e (some (.Name x xp)) sp.line X.env = pure false → (∀ Wx, Takes X Wx → PS X (.Assign [.Name x xp] e sp) (tAsg (tV W Wx (ev A (cE n C e))) (gName i))) ∧ (fresh (cE n C e) = true → ∀ Wx, Takes X Wx → PS X (.Assign [.Name x xp] e sp) (tAsg (tAl W Wx (ev A (cE n C e))) (gName i))) := fun hs =>
            ⟨fun Wx tk => ps_set nd h1 h2 ((ih.e e).v Wx tk) hs h3, fun hf Wx tk => ps_set nd h1 h2 ((ih.e e).f hf Wx tk) hs h3⟩
          cases e with
          | ListComp elt gens scope q =>
            have hsw : swapsWith (.ListComp elt gens scope q) (some (.Name x xp)) sp.line X.env = pure (X.env.blockKind == .function && X.env.kindOf x == some .local && xp.line == q.line && !(scope.names.any fun (n, k) => n == x && (k == .local || k == .cell))) := rfl
            cases hb : (X.env.blockKind == .function && X.env.kindOf x == some .local && xp.line == q.line && !(scope.names.any fun (n, k) => n == x && (k == .local || k == .cell))) with
            | false =>
              rw [hb] at hsw
              exact plain hsw
            | true =>
              rw [hb] at hsw
              have hl : X.env.scope.names.lookup x = some .local := by
                have z1 := (Bool.and_eq_true_iff.mp hb).1
                have z2 := (Bool.and_eq_true_iff.mp z1).1
                exact beq_iff_eq.mp (Bool.and_eq_true_iff.mp z2).2
              exact set_lc O h1 hl hsw
          | SetComp _ _ _ _ => cases hlc
          | DictComp _ _ _ _ _ => cases hlc
          | _ => exact plain (sw_no rfl)
        split
        · rename_i ho
          exact own_fin (two.2 (Bool.and_eq_true_iff.mp ho).2)
        · exact asg_fin two.1
      · exact js_bad
    · exact js_bad
  · rename_i es m tp
    split
    · rename_i g hg
      split
      · exact js_bad
      · rename_i hc
        have hc2 : tupE e = false ∧ isLC e = false := by simpa using hc
        exact js_asgT (jg_all O n _ g hg) (ih.e e).v (sw_no hc2.2) (ss_no hc2.2 (.inl hc2.1) nofun)
    · exact js_bad
  · rename_i o i ip
    split
    · exact js_bad
    · rename_i hc
      have hc2 : isSlice i = false ∧ isLC e = false := by simpa using hc
      refine js_setI (ih.e e).v (ih.e o).h (ih.e i).v (sw_no hc2.2) (ss_no hc2.2 (.inr rfl) nofun) fun v => ?_
      cases i <;> first | rfl | cases hc2.1
  · rename_i o f ap
    split
    · exact js_bad
    · rename_i hc
      have hc2 : call0 o = false ∧ isLC e = false := by simpa using hc
      exact js_setA O.cls (ih.e e).v (ih.e o).h (sw_no hc2.2)
  · exact js_bad
theorem js_hAug {n : Nat} {tg : Expr} {op : Operator} {sp : Pos} (O : XOk W A k C X) : JS W X (.AugAssign tg op e sp) (ex A (hAug C (cE n C) tg op e)) := by
  have ih := all_e n C X O
  have nd : X.N.Nodup := by
    rw [O.N]
    exact O.nd
  unfold hAug
  split
  · split
    · rename_i i hi
      obtain ⟨h1, h2, h3⟩ := O.loc hi
      split
      · rename_i o ho
        exact js_aug ho nd h1 h2 h3 (ih.e e).h
      · exact js_bad
    · exact js_bad
  · rename_i o i ip
    split
    · rename_i b hb
      split
      · exact js_bad
      · rename_i hs
        have hs2 : isSlice i = false := by simpa using hs
        refine js_augS hb (ih.e o).h (ih.e i).v (ih.e e).v fun ov iv new => ?_
        cases i <;> first | rfl | cases hs2
    · exact js_bad
  · exact js_bad
theorem js_hEx {n : Nat} {sp : Pos} (O : XOk W A k C X) : JS W X (.Expr e sp) (ex A (hEx (cE n C) e)) := by
  have ih := all_e n C X O
  unfold hEx
  split
  · split
    · exact js_doc
    · exact js_ex (ih.e _).v rfl
  · split
    · exact js_bad
    · rename_i hs
      exact js_ex (ih.e e).v (sw_no (by simpa using hs))
theorem all_s (hp : PassesOwn (model X.prog X.w) X.A X.env X.xe) (O : XOk W A k C X) : ∀ (n : Nat) (s : Stmt), JS W X s (ex A (cS n C s))
  | 0, s => js_bad
  | n + 1, s => by
    have ih := all_e n C X O
    have is := all_s hp O n
    cases s with
    | Pass q => exact js_pass
    | Break q => exact js_brk
    | Continue q => exact js_cont
    | Return e q =>
      cases e with
      | none => exact js_retN
      | some e => exact js_ret (ih.e e).v
    | Expr e q => exact js_hEx O
    | Assign tgs e q =>
      cases tgs with
      | nil => exact js_bad
      | cons t ts =>
        cases ts with
        | nil => exact js_hAsg O
        | cons _ _ => exact js_bad
    | AugAssign tg op e q => exact js_hAug O
    | If t a b q => exact js_if (ih.t t) (jss_map is a) (jss_map is b)
    | For tg it b els q =>
      cases els with
      | cons _ _ => exact js_bad
      | nil =>
        show JS W X (.For tg it b [] q) (ex A (match cG n C tg with
          | some g => if isSet it then .bad else .for_ g (cI n C tg it) (blkM (cS n C) b)
          | none => .bad))
        cases hg : cG n C tg with
        | none => exact js_bad
        | some g =>
          by_cases hs : isSet it = true
          · dsimp only
            rw [if_pos hs]
            exact js_bad
          · dsimp only
            rw [if_neg hs]
            exact js_for hp O.calm (ih.i tg it) (jg_all O n tg g hg) (jss_map is b) (notset_it (by simpa using hs))
    | While t b els q =>
      cases els with
      | cons _ _ => exact js_bad
      | nil => exact js_while hp (ih.t t) (jss_map is b)
    | _ => exact js_bad
end
end Vm
namespace Vm
open PySem PySem.Spec L2
open PyProof.Rows hiding St
section
variable {W : Wd} {w w' : Wr} {S S' : Store} {H H' : Hp} {σ : St} {e e' : Env}
theorem Rel.bare (R : Rel W w S H σ e) : Rel W w S H [] [] := ⟨R.sub, rfl, fun i => True.intro, R.cell, R.adl, R.fow, R.owl, fun i c fs a h1 h2 => nomatch h1⟩
theorem Rel.meTo (R : Rel W w S H [] []) (m : Option Addr) : Rel W { w with me := m } S H [] [] :=
  ⟨R.sub, rfl, fun i => True.intro, fun k c q => let ⟨a, h1, h2, h3⟩ := R.cell k c q; ⟨a, h1, h2.to (w' := { w with me := m }) (fun _ z => z) (Le.refl _) (List.prefix_refl _), h3⟩, R.adl, R.fow, R.owl, fun i c fs a h1 h2 => nomatch h1⟩
theorem RpL.get2 {F : Hp} {ad : List Addr} : ∀ {vs : List V} {ds : List D} {i : Nat} {v : V}, RpL W F ad vs ds → vs[i]? = some v → ∃ d, ds[i]? = some d ∧ Rp W F ad v d
  | _, _, 0, _, .cons a r, h => ⟨_, rfl, by simp at h; subst h; exact a⟩
  | _, _, i + 1, v, .cons a r, h => by
    obtain ⟨d, h1, h2⟩ := r.get2 (i := i) (v := v) (by simpa using h)
    exact ⟨d, by simpa using h1, h2⟩
theorem slots_start {F : Hp} {ad : List Addr} {vs : List V} {ds : List D} {m i : Nat} (r : RpL W F ad vs ds) : (ds.map Slot.val ++ List.replicate m Slot.emp).getD i .emp = .emp ∨ ∃ d v, (ds.map Slot.val ++ List.replicate m Slot.emp).getD i .emp = .val d ∧ (vs.map some ++ List.replicate m none)[i]? = some (some v) ∧ Rp W F ad v d := by
  have hl := r.len
  by_cases hi : i < ds.length
  · obtain ⟨d, hd⟩ : ∃ d, ds[i]? = some d := ⟨_, List.getElem?_eq_getElem hi⟩
    obtain ⟨v, hv, rv⟩ := r.get hd
    refine .inr ⟨d, v, ?_, ?_, rv⟩
    · rw [List.getD_eq_getElem?_getD, List.getElem?_append_left (by rw [List.length_map]; exact hi), List.getElem?_map, hd]
      rfl
    · rw [List.getElem?_append_left (by rw [List.length_map]; omega), List.getElem?_map, hv]
      rfl
  · refine .inl ?_
    rw [List.getD_eq_getElem?_getD, List.getElem?_append_right (by rw [List.length_map]; omega), List.getElem?_replicate]
    split <;> rfl
theorem Rel.start {vs : List V} {ds : List D} {m : Nat} (R : Rel W w S H [] []) (r : RpL W w.F w.ad vs ds) : Rel W w S H (vs.map some ++ List.replicate m none) (ds.map Slot.val ++ List.replicate m Slot.emp) := by
  refine ⟨R.sub, ?_, fun i => ?_, R.cell, R.adl, R.fow, R.owl, fun i c fs a h1 h2 => ?_⟩
  · simp only [List.length_append, List.length_map, List.length_replicate, r.len]
  · rcases slots_start (m := m) (i := i) r with h | ⟨d, v, h1, h2, h3⟩
    · rw [h]
      exact True.intro
    · rw [h1]
      exact ⟨v, h2, h3⟩
  · rcases slots_start (m := m) (i := i) r with h | ⟨d, v, h3, _, _⟩
    · rw [h] at h1
      cases h1
    · rw [h3] at h1
      cases h1
def api (T : Text) (n : Nat) : Api := ⟨callN T n, fun k => (T.fn k).isSome, T.fld, T.prop, T.exc, T.fuel⟩
theorem callN_succ {T : Text} {n : Nat} {key : Str × Str} {fn : Fn} (h : T.fn key = some fn) : callN T (n + 1) key = fn.run (api T n) := by
  funext ds s
  show (match T.fn key with
    | some fn => fn.run (api T n) ds s
    | none => .bad) = _
  rw [h]
end
section
variable {P : Program} {w : World} {K : PySem.W.Frag} {mg : Str → Option Value} {base : Heap} {W : Wd} {T : Text} {f : Addr} {name qual : Str} {params : Arguments} {body : List Stmt} {scope : Scope} {dV kV doc pm cdv ct oc : Value} {an od : Option Addr}
    {osl : Array (Option Value)} {N ps : List Str} {fn : Fn} {fuel k n : Nat} {C : Cc} {key : Str × Str} {c : Str}
theorem fnOk_no {sp : Sp} {fd : FuncData} (h : ∀ vs H Q E, sp vs H Q E → False) : FnOk P w K mg base (L2.CX P w) k f fd ps sp := ⟨fun vs H Q E q => (h vs H Q E q).elim, fun A outer s H args us vs Q E _ _ _ _ q => (h vs H Q E q).elim⟩
theorem fn_len (hT : T.fn key = some fn) (h1 : fn.init = none) (h2 : fn.params = ps.length) : ∀ vs H Q E, spF W (callN T (n + 1)) key vs H Q E → vs.length = ps.length := fun vs H Q E ⟨w0, S0, ds, R, r, p⟩ => by
  rw [callN_succ hT] at p
  unfold Fn.run at p
  rw [h1] at p
  dsimp only at p
  by_cases hl : ds.length = fn.params
  · rw [r.len, hl, h2]
  · rw [if_neg hl] at p
    exact p.elim
theorem fn_ok (lk : K.lookup f = some ⟨oc, od, .func (PySem.W.fnOf name qual params body scope dV kV doc pm an cdv ct), osl⟩) (hcd : PySem.W.codeIn K cdv qual = true) (FS : FnScope N ps scope) (hT : T.fn key = some fn) (h1 : fn.init = none) (h2 : fn.params = ps.length) (h3 : fn.slots = N.length) (h4 : fn.body = blkM (cS fuel C) body)
    (hX : ∀ A outer s H E, Room k (A.deeper (envOfC qual scope s.heap.objs.size f cdv)) → XOk W (api T n) (k - 2) C (cxOf (L2.CX P w) P w K mg base N qual scope f cdv A outer s H E)) :
    FnOk P w K mg base (L2.CX P w) (k + 1) f (PySem.W.fnOf name qual params body scope dV kV doc pm an cdv ct) ps (spF W (callN T (n + 1)) key) := by
  refine fn_of lk hcd FS (fn_len hT h1 h2) fun A outer s H vs Q E hr hsp => ?_
  have O := hX A outer s H E hr
  have hp : PassesOwn (model P w) (cxOf (L2.CX P w) P w K mg base N qual scope f cdv A outer s H E).A (cxOf (L2.CX P w) P w K mg base N qual scope f cdv A outer s H E).env (cxOf (L2.CX P w) P w K mg base N qual scope f cdv A outer s H E).xe := passes_of rfl
  have tk : Takes (cxOf (L2.CX P w) P w K mg base N qual scope f cdv A outer s H E) (fun cls d _ H => E cls d H) := takes_of rfl rfl rfl rfl
  refine ⟨_, jss_map (all_s hp O fuel) body _ tk, ?_⟩
  have hlen := fn_len hT h1 h2 vs H Q E hsp
  obtain ⟨w0, S0, ds, R, r, p⟩ := hsp
  rw [callN_succ hT] at p
  unfold Fn.run at p
  rw [h1] at p
  dsimp only at p
  have hd : ds.length = fn.params := by rw [← r.len, hlen, h2]
  rw [if_pos hd, h4] at p
  have hm : fn.slots - fn.params = N.length - vs.length := by rw [h3, ← hd, r.len]
  rw [hm] at p
  refine ⟨w0, _, S0, R.start (m := N.length - vs.length) r, ?_⟩
  cases q : ex (api T n) (blkM (cS fuel C) body) (ds.map Slot.val ++ List.replicate (N.length - vs.length) Slot.emp) S0 with
  | bad =>
    rw [q] at p
    exact p.elim
  | rz x e' S' =>
    rw [q] at p
    exact fun w' H' σ' cls dd x R' er => p w' H' cls dd x R'.bare er
  | ok fl e' S' =>
    rw [q] at p
    cases fl with
    | next => exact fun w' H' σ' x R' => p w' H' .non x R'.bare .non
    | ret d => exact fun w' H' σ' x R' v rv => p w' H' v x R'.bare rv
    | brk => exact p.elim
    | cont => exact p.elim
theorem init_len (hT : T.fn (c, "__init__") = some fn) (h1 : fn.init = some c) (h2 : fn.params = ps.length) : ∀ vs H Q E, spI W (callN T (n + 1)) c vs H Q E → vs.length = ps.length := fun vs H Q E ⟨x, rest, dx, CC, H0, w0, S0, ds, ev, _, _, _, _, _, R, r, p⟩ => by
  rw [callN_succ hT] at p
  unfold Fn.run at p
  rw [h1] at p
  dsimp only at p
  by_cases hl : ds.length + 1 = fn.params
  · rw [ev, List.length_cons, r.len, hl, h2]
  · rw [if_neg hl] at p
    exact p.elim
theorem init_ok (lk : K.lookup f = some ⟨oc, od, .func (PySem.W.fnOf name qual params body scope dV kV doc pm an cdv ct), osl⟩) (hcd : PySem.W.codeIn K cdv qual = true) (FS : FnScope N ps scope) (hT : T.fn (c, "__init__") = some fn) (h1 : fn.init = some c) (h2 : fn.params = ps.length) (h3 : fn.slots = N.length) (h4 : fn.body = blkM (cS fuel C) body)
    (hX : ∀ A outer s H E, Room k (A.deeper (envOfC qual scope s.heap.objs.size f cdv)) → XOk W (api T n) (k - 2) C (cxOf (L2.CX P w) P w K mg base N qual scope f cdv A outer s H E)) :
    FnOk P w K mg base (L2.CX P w) (k + 1) f (PySem.W.fnOf name qual params body scope dV kV doc pm an cdv ct) ps (spI W (callN T (n + 1)) c) := by
  refine fn_of lk hcd FS (init_len hT h1 h2) fun A outer s H vs Q E hr hsp => ?_
  have O := hX A outer s H E hr
  have hp : PassesOwn (model P w) (cxOf (L2.CX P w) P w K mg base N qual scope f cdv A outer s H E).A (cxOf (L2.CX P w) P w K mg base N qual scope f cdv A outer s H E).env (cxOf (L2.CX P w) P w K mg base N qual scope f cdv A outer s H E).xe := passes_of rfl
  have tk : Takes (cxOf (L2.CX P w) P w K mg base N qual scope f cdv A outer s H E) (fun cls d _ H => E cls d H) := takes_of rfl rfl rfl rfl
  refine ⟨_, jss_map (all_s hp O fuel) body _ tk, ?_⟩
  have hlen := init_len hT h1 h2 vs H Q E hsp
  obtain ⟨x, rest, dx, CC, H0, w0, S0, ds, rfl, rfl, hx, hdx, hne, hcl, R, r, p⟩ := hsp
  rw [callN_succ hT] at p
  unfold Fn.run at p
  rw [h1] at p
  dsimp only at p
  have hd : ds.length + 1 = fn.params := by rw [← r.len, h2, ← hlen, List.length_cons]
  rw [if_pos hd, h4] at p
  have hm : fn.slots - fn.params = N.length - (V.ref x :: rest).length := by rw [h3, ← hd, List.length_cons, r.len]
  rw [hm] at p
  -- the object becomes slot 0's own
  have R1 : Rel W { w0 with me := some x } S0 H0 [] [] := R.meTo _
  obtain ⟨x2, R2⟩ := R1.drop (o := .own x) hdx
  have hx2 : upd H0 dx (.own x) x = none := by rw [upd_ne (Ne.symm hne)]; exact hx
  have R3 : Rel W { w0 with me := some x } S0 (upd H0 dx (.own x)) (none :: (rest.map some ++ List.replicate (N.length - (V.ref x :: rest).length) none)) (Slot.emp :: (ds.map Slot.val ++ List.replicate (N.length - (V.ref x :: rest).length) Slot.emp)) := by
    have R4 := R2.start (vs := rest) (ds := ds) (m := N.length - (V.ref x :: rest).length) r
    refine ⟨R4.sub, congrArg (· + 1) R4.len, fun i => ?_, R4.cell, R4.adl, R4.fow, R4.owl, fun i c fs a h1 h2 => ?_⟩
    · cases i with
      | zero => exact True.intro
      | succ i =>
        have hs := R4.slot i
        rw [List.getElem?_cons_succ, List.getD_cons_succ]
        cases hq : (ds.map Slot.val ++ List.replicate (N.length - (V.ref x :: rest).length) Slot.emp).getD i .emp with
        | emp => exact True.intro
        | val d =>
          rw [hq] at hs
          exact hs
        | own cc =>
          rcases slots_start (m := N.length - (V.ref x :: rest).length) (i := i) r with h | ⟨d, v, h, _, _⟩
          · rw [h] at hq
            cases hq
          · rw [h] at hq
            cases hq
    · cases i with
      | zero => cases h1
      | succ i =>
        rw [List.getElem?_cons_succ] at h2
        rw [List.getD_cons_succ] at h1
        exact R4.self i c fs a h1 h2
  obtain ⟨x5, R5⟩ := R3.mine (i := 0) (c := .ob c []) (o := .ins CC dx []) hx2 ⟨CC, dx, [], upd_same, hcl, .nil⟩ fun _ _ _ => rfl
  have e0 : start N (V.ref x :: rest) = (none :: (rest.map some ++ List.replicate (N.length - (V.ref x :: rest).length) none)).set 0 (some (.ref x)) := rfl
  rw [e0]
  refine ⟨_, _, S0, R5, ?_⟩
  have xx := x2.trans x5
  have back : ∀ {w' H'}, Ext ({ w0 with F := w0.F, ad := w0.ad, ow := fun b => if b = x then some (.s 0) else if w0.ow b = some (.s 0) then none else w0.ow b, me := some x }) (upd (upd H0 dx (.own x)) x (.ins CC dx [])) w' H' → Ext w0 H0 { w' with me := w0.me } H' := fun {w' H'} y => by
    have z := xx.trans y
    exact ⟨z.F, z.ad, z.fo, rfl⟩
  show PostS W _ _ _ (ex (api T n) (blkM (cS fuel C) body) (Slot.own (.ob c []) :: (ds.map Slot.val ++ List.replicate (N.length - (V.ref x :: rest).length) Slot.emp)) S0) _
  have p : PostC W w0 H0 (match ex (api T n) (blkM (cS fuel C) body) (Slot.own (.ob c []) :: (ds.map Slot.val ++ List.replicate (N.length - (V.ref x :: rest).length) Slot.emp)) S0 with
    | .ok .next e s => (match e.getD 0 .emp with
      | .own (.ob c fs) => .ok (.obj c fs) s
      | _ => .bad)
    | .rz x _ s => .rz x s
    | _ => .bad) _ E := p
  cases q : ex (api T n) (blkM (cS fuel C) body) (Slot.own (.ob c []) :: (ds.map Slot.val ++ List.replicate (N.length - (V.ref x :: rest).length) Slot.emp)) S0 with
  | bad =>
    rw [q] at p
    exact p.elim
  | rz z e' S' =>
    rw [q] at p
    intro w' H' σ' cls dd y R' er
    refine p { w' with me := w0.me } H' cls dd (back y) (R'.bare.meTo _) ?_
    exact er
  | ok fl e' S' =>
    rw [q] at p
    cases fl with
    | next =>
      intro w' H' σ' y R'
      dsimp only at p
      cases hs : e'.getD 0 .emp with
      | emp =>
        rw [hs] at p
        exact p.elim
      | val d =>
        rw [hs] at p
        exact p.elim
      | own cc =>
        rw [hs] at p
        cases cc with
        | lst xs => exact p.elim
        | ob c2 fs =>
          obtain ⟨w2, v, x6, R6, s0, rv⟩ := R'.freeze hs
          obtain ⟨a, ea⟩ : ∃ a, v = .ref a := by
            cases rv with
            | obj h _ _ => exact ⟨_, rfl⟩
          subst ea
          have hme := R'.self 0 c2 fs a hs s0
          have hmx : w'.me = some x := y.me
          rw [hmx] at hme
          cases hme
          exact p { w2 with me := w0.me } H' (.ref x) (back (y.trans x6)) (R6.bare.meTo _) rv rfl
    | ret d => exact p.elim
    | brk => exact p.elim
    | cont => exact p.elim
end
end Vm
namespace Vm
open PySem
def kids : Expr → List Expr
  | .BinOp a _ b _ => [a, b]
  | .UnaryOp _ a _ => [a]
  | .Compare a _ cs _ => a :: cs
  | .BoolOp _ vs _ => vs
  | .IfExp t a b _ => [t, a, b]
  | .Attribute o _ _ => [o]
  | .Subscript o i _ => [o, i]
  | .Slice a b _ _ => a.toList ++ b.toList
  | .Tuple es _ _ => es
  | .List es _ => es
  | .ListComp e gs _ _ => e :: gs.flatMap fun g => g.iter :: g.ifs
  | .Call f es _ _ => f :: es
  | _ => []
def locals (sc : Scope) : List Str := sc.names.filterMap fun y => match y.2 with
  | .local => if y.1 == (".0" : Str) then none else some y.1
  | .cell => some y.1
  | _ => none
def ownNs : Expr → List Str
  | .ListComp _ _ sc _ => locals sc
  | _ => []
def exNs : Nat → Expr → List Str
  | 0, _ => []
  | n + 1, e => ownNs e ++ (kids e).flatMap (exNs n)
def stNs : Nat → Stmt → List Str
  | 0, _ => []
  | n + 1, s => match s with
    | .Return e _ => e.toList.flatMap (exNs n)
    | .Expr e _ => exNs n e
    | .Assign ts e _ => ts.flatMap (exNs n) ++ exNs n e
    | .AugAssign t _ e _ => exNs n t ++ exNs n e
    | .If t a b _ => exNs n t ++ a.flatMap (stNs n) ++ b.flatMap (stNs n)
    | .For t it a b _ => exNs n t ++ exNs n it ++ a.flatMap (stNs n) ++ b.flatMap (stNs n)
    | .While t a b _ => exNs n t ++ a.flatMap (stNs n) ++ b.flatMap (stNs n)
    | .Raise e _ _ => e.toList.flatMap (exNs n)
    | _ => []
/-- one def -/
structure DI where
  key : Str × Str
  qual : Str
  name : Str
  params : Arguments
  body : List Stmt
  scope : Scope
  init : Option Str
  prop : Bool
structure CI where
  name : Str
  body : List Stmt
def plainArgs (a : Arguments) : Bool := a.posonlyargs.isEmpty && a.vararg.isNone && a.kwonlyargs.isEmpty && a.kwarg.isNone && a.defaults.isEmpty
def DI.ps (d : DI) : List Str := d.params.args.map (·.arg)
def slotN (ps : List Str) (sc : Scope) (body : List Stmt) : List Str := (ps ++ locals sc ++ body.flatMap (stNs 40)).eraseDups
def DI.N (d : DI) : List Str := slotN d.ps d.scope d.body
def scopeB (sc : Scope) : Bool := (match sc.kind with
  | .function => true
  | _ => false) && !sc.isCoroutine && !sc.isGenerator && sc.names.all fun y => match y.2 with
  | .free => false
  | _ => true
def isName (x : Str) : List Expr → Bool
  | [.Name y _] => y == x
  | _ => false
def topD : Stmt → List DI
  | .FunctionDef n a b dl _ _ sc _ bd _ => if plainArgs a && dl.isEmpty && scopeB sc then [⟨("", n), n, n, a, b, sc, none, false⟩] else []
  | _ => []
def clsD (c : Str) : Stmt → List DI
  | .FunctionDef n a b dl _ _ sc _ bd _ => if plainArgs a && scopeB sc && (dl.isEmpty || isName "property" dl) then [⟨(c, n), c ++ "." ++ n, n, a, b, sc, if n == ("__init__" : Str) then some c else none, !dl.isEmpty⟩] else []
  | _ => []
def clsOfS : Stmt → List CI
  | .ClassDef n bs _ b dl _ _ _ _ _ _ => if bs.isEmpty && dl.isEmpty then [⟨n, b⟩] else []
  | _ => []
def excOfS : Stmt → List Str
  | .ClassDef n bs _ _ dl _ _ _ _ _ _ => if bs.isEmpty then [] else [n]
  | _ => []
def conE : Expr → Option D
  | .Constant (.int i) _ _ => some (.int i)
  | .Constant (.str i) _ _ => some (.str i)
  | .BinOp (.Constant (.int i) _ _) .Pow (.Constant (.int j) _ _) _ => if 0 ≤ j ∧ j ≤ 100 then some (.int (i ^ j.toNat)) else none
  | _ => none
def conS : Stmt → List (Str × D)
  | .Assign [.Name x _] e _ => (match conE e with
    | some d => [(x, d)]
    | none => [])
  | _ => []
/-- a program's table -/
structure Tab where
  defs : List DI
  cls : List CI
  exs : List Str
  gl : List (Str × D)
  cells : List (Nat × Nat)
def bodyD (s : Stmt) : List DI := topD s ++ (clsOfS s).flatMap fun c => c.body.flatMap (clsD c.name)
def tabOf (p : Program) (cells : List (Nat × Nat)) : Tab := ⟨p.main.body.flatMap bodyD, p.main.body.flatMap clsOfS, p.main.body.flatMap excOfS, (p.main.body.flatMap conS).filter fun y => !(y.1 == ("__name__" : Str)), cells⟩
def posAt (b : List Stmt) (cells : List (Nat × Nat)) : List Pos := []
def Tab.cc (t : Tab) : List ((Str × Str) × D) := t.cls.flatMap fun c => (c.body.flatMap conS).map fun y => ((c.name, y.1), y.2)
/-- positions of lists that are cells -/
def exPs : Nat → Expr → List Pos
  | 0, _ => []
  | n + 1, e => (match e with
    | .List _ p => [p]
    | .ListComp _ _ _ p => [p]
    | .Call _ _ _ p => [p]
    | .BinOp _ _ _ p => [p]
    | .Subscript _ _ p => [p]
    | _ => []) ++ (kids e).flatMap (exPs n)
def stPs : Nat → Stmt → List Pos
  | 0, _ => []
  | n + 1, s => match s with
    | .Return e _ => e.toList.flatMap (exPs n)
    | .Expr e _ => exPs n e
    | .Assign ts e _ => ts.flatMap (exPs n) ++ exPs n e
    | .AugAssign t _ e _ => exPs n t ++ exPs n e
    | .If t a b _ => exPs n t ++ a.flatMap (stPs n) ++ b.flatMap (stPs n)
    | .For t it a b _ => exPs n t ++ exPs n it ++ a.flatMap (stPs n) ++ b.flatMap (stPs n)
    | .While t a b _ => exPs n t ++ a.flatMap (stPs n) ++ b.flatMap (stPs n)
    | .Raise e _ _ => e.toList.flatMap (exPs n)
    | _ => []
def Tab.ccOf (t : Tab) (d : DI) : Cc := ⟨d.N, d.scope, d.scope, t.defs.filterMap fun d => if d.key.1 == ("" : Str) then some d.key.2 else none, t.cls.map (·.name), t.exs, t.gl, t.cc, d.N, (d.body.flatMap (stPs 40)).filter fun p => t.cells.contains (p.line, p.col)⟩
def Tab.fnOf (t : Tab) (d : DI) : Fn := ⟨d.ps.length, d.N.length, blkM (cS 40 (t.ccOf d)) d.body, d.init⟩
/-- the names that a class's objects have as fields: stored by its own defs -/
def flds : Stmt → List Str
  | .Assign [.Attribute (.Name x _) f _] _ _ => if x == ("self" : Str) then [f] else []
  | _ => []
def Tab.fldB (t : Tab) (c f : Str) : Bool := t.cls.any fun k => k.name == c && (k.body.flatMap fun s => match s with
  | .FunctionDef _ _ b _ _ _ _ _ _ _ => b.flatMap flds
  | _ => []).contains f
def Tab.propB (t : Tab) (c f : Str) : Bool := t.defs.any fun d => d.prop && d.key.1 == c && d.key.2 == f
def Tab.text (t : Tab) (fuel : Nat) : Text := ⟨fun k => (t.defs.find? fun d => d.key.1 == k.1 && d.key.2 == k.2).map t.fnOf, t.fldB, t.propB, fun _ => none, fuel⟩
end Vm
namespace Vm
open PySem PySem.Spec L2
open PyProof.Rows hiding St
theorem zip_look {α : Type} : ∀ {ps : List Str} {us : List α} {n : Str}, us.length = ps.length → n ∈ ps → ((ps.zip us).lookup n).isSome = true
  | p :: ps, u :: us, n, hl, h => by
    rw [List.zip_cons_cons, List.lookup_cons]
    by_cases e : n = p
    · subst e
      simp
    · have e2 : (n == p) = false := by simpa using e
      rw [e2]
      exact zip_look (by simpa using hl) ((List.mem_cons.mp h).resolve_left e)
theorem zip_fm {α : Type} : ∀ (pre : List (Str × α)) {ps : List Str} {us : List α}, us.length = ps.length → ps.Nodup → (∀ p ∈ ps, pre.lookup p = none) → (ps.filterMap fun n => ((pre ++ ps.zip us).lookup n).map (n, ·)) = ps.zip us
  | _, [], _, _, _, _ => rfl
  | pre, p :: ps, u :: us, hl, nd, hp => by
    have h1 : (pre ++ (p :: ps).zip (u :: us)).lookup p = some u := by
      rw [List.lookup_append, hp p List.mem_cons_self]
      simp
    have nd2 := List.nodup_cons.mp nd
    have ih := zip_fm (pre ++ [(p, u)]) (ps := ps) (us := us) (by simpa using hl) nd2.2 fun q hq => by
      rw [List.lookup_append, hp q (List.mem_cons_of_mem _ hq)]
      have : (q == p) = false := by
        have : q ≠ p := fun e => nd2.1 (e ▸ hq)
        simpa using this
      show ([(p, u)].lookup q) = none
      rw [List.lookup_cons, this]
      rfl
    rw [List.append_assoc] at ih
    rw [List.filterMap_cons, h1, List.zip_cons_cons]
    show (p, u) :: _ = _
    congr 1
theorem bind_plain {x qual : Str} {params : Arguments} {body : List Stmt} {scope : Scope} {kV doc pm : Value} {an : Option Addr} {cdv ct : Value} {us : List Value} (hp : plainArgs params = true) (nd : (params.args.map (·.arg)).Nodup) (hl : us.length = (params.args.map (·.arg)).length) :
    bindArgs (PySem.W.fnOf x qual params body scope .none kV doc pm an cdv ct) ⟨us, []⟩ = pure ((params.args.map (·.arg)).zip us) := by
  obtain ⟨po, ar, va, ko, kd, kw, df⟩ := params
  have hp2 : po = [] ∧ va = none ∧ ko = [] ∧ kw = none := by
    unfold plainArgs at hp
    simp only [Bool.and_eq_true, List.isEmpty_iff, Option.isNone_iff_eq_none] at hp
    exact ⟨hp.1.1.1.1, hp.1.1.1.2, hp.1.1.2, hp.1.2⟩
  obtain ⟨rfl, rfl, rfl, rfl⟩ := hp2
  have h1 : ((ar.map (·.arg)).take (ar.map (·.arg)).length).filter (fun n => (((ar.map (·.arg)).zip us).lookup n).isNone) = [] := by
    rw [List.take_length, List.filter_eq_nil_iff]
    intro n hn
    have := zip_look hl hn
    simp [Option.isNone_iff_eq_none, Option.isSome_iff_ne_none] at this ⊢
    exact this
  have h2 := zip_fm [] hl nd (fun _ _ => rfl)
  simp only [] at hl nd h2
  generalize hps : List.map (fun x => x.arg) ar = ps at *
  unfold bindArgs
  simp only [PySem.W.fnOf, seqItems?, notAStandIn, List.map_nil, List.nil_append, List.append_nil, List.forIn_nil, hps, pure_bind, Option.getD_none, Option.isNone_none, Bool.and_true, hl, Nat.lt_irrefl, decide_false, Bool.false_eq_true, if_false, List.length_nil, Nat.zero_sub, List.drop_nil, Nat.sub_zero, h1, List.isEmpty_nil, Bool.not_true, List.zip_nil_right]
  simp only [List.nil_append] at h2
  rw [h2]
def adr (K : PySem.W.Frag) (d : DI) : Addr := if d.key.1 == ("" : Str) then He.ga K d.key.2 else if d.prop then (match PySem.W.recIn K (He.ma K (He.ga K d.key.1) d.key.2) "property" with
  | some (.ref g :: _) => g
  | _ => 0) else He.ma K (He.ga K d.key.1) d.key.2
def fnWa (K : PySem.W.Frag) (a : Addr) : He.FnW := match K.lookup a with
  | some ⟨_, _, .func fd, _⟩ => some (fd.name, fd.qualname, fd.params, fd.body, fd.scope, fd.globals, fd.closure, fd.builtins)
  | _ => none
def DI.val (d : DI) : He.FnW := some (d.name, d.qual, d.params, .stmts d.body, d.scope, mainGlobals, [], builtinsNs)
def nonB : Value → Bool
  | .none => true
  | _ => false
def okA (K : PySem.W.Frag) (a : Addr) (q : Str) : Bool := PySem.W.keepIn K (.ref a) && (match K.lookup a with
  | some ⟨_, _, .func fd, _⟩ => PySem.W.codeIn K fd.code q && nonB fd.defaults
  | _ => false)
/-- a def at an address -/
def DefA (K : PySem.W.Frag) (d : DI) (f : Addr) : Prop := PySem.W.keepIn K (.ref f) = true ∧ ∃ (oc : Value) (od : Option Addr) (kV doc pm : Value) (an : Option Addr) (cdv ct : Value) (osl : Array (Option Value)),
  K.lookup f = some ⟨oc, od, .func (PySem.W.fnOf d.name d.qual d.params d.body d.scope .none kV doc pm an cdv ct), osl⟩ ∧ PySem.W.codeIn K cdv d.qual = true
theorem defA_of {K : PySem.W.Frag} {d : DI} {a : Addr} (e : fnWa K a = d.val) (c : okA K a d.qual = true) : DefA K d a := by
  obtain ⟨kp, c2⟩ := Bool.and_eq_true_iff.mp c
  unfold fnWa at e
  cases q : K.lookup a with
  | none =>
    rw [q] at c2
    cases c2
  | some o =>
    obtain ⟨oc, od, dt, osl⟩ := o
    rw [q] at c2 e
    cases dt with
    | func fd =>
      obtain ⟨n1, n2, n3, n4, n5, n6, n7, n8, n9, n10, n11, n12, n13, n14, n15⟩ := fd
      have e2 : (some (n1, n2, n3, n4, n5, n6, n7, n15) : He.FnW) = some (d.name, d.qual, d.params, .stmts d.body, d.scope, mainGlobals, [], builtinsNs) := e
      simp only [Option.some.injEq, Prod.mk.injEq] at e2
      obtain ⟨h1, h2, h3, h4, h5, h6, h7, h8⟩ := e2
      have c3 : (PySem.W.codeIn K n13 d.qual && nonB n8) = true := c2
      obtain ⟨k1, k2⟩ := Bool.and_eq_true_iff.mp c3
      have h9 : n8 = .none := by
        cases n8 <;> first | rfl | cases k2
      subst h1 h2 h3 h4 h5 h6 h7 h8 h9
      exact ⟨kp, oc, od, n9, n10, n11, n12, n13, n14, osl, q, k1⟩
    | _ => cases c2
def DI.okB (d : DI) : Bool := plainArgs d.params && decide d.ps.Nodup && decide d.N.Nodup && decide (d.N.take d.ps.length = d.ps) && scopeB d.scope && d.ps.all fun x => match d.scope.names.lookup x with
  | some .local => true
  | some .cell => true
  | _ => false
structure DOk (d : DI) : Prop where
  pa : plainArgs d.params = true
  pn : d.ps.Nodup
  sc : FnScope d.N d.ps d.scope
theorem dok_of {d : DI} (h : d.okB = true) : DOk d := by
  unfold DI.okB at h
  simp only [Bool.and_eq_true, decide_eq_true_eq] at h
  obtain ⟨⟨⟨⟨⟨h1, h2⟩, h3⟩, h4⟩, h5⟩, h6⟩ := h
  unfold scopeB at h5
  simp only [Bool.and_eq_true, Bool.not_eq_true'] at h5
  obtain ⟨⟨⟨h7, h8⟩, h9⟩, h10⟩ := h5
  refine ⟨h1, h2, ⟨?_, h8, h9, h3, h4, fun x hx => ?_, fun y hy he => ?_⟩⟩
  · split at h7
    · assumption
    · cases h7
  · have := List.all_eq_true.mp h6 x hx
    split at this
    · exact .inl (by assumption)
    · exact .inr (by assumption)
    · cases this
  · have := List.all_eq_true.mp h10 y hy
    rw [he] at this
    cases this
theorem binds_of {K : PySem.W.Frag} {d : DI} (o : DOk d) {kV doc pm : Value} {an : Option Addr} {cdv ct : Value} : Binds K (PySem.W.fnOf d.name d.qual d.params d.body d.scope .none kV doc pm an cdv ct) d.ps [] := .all fun us hl => bind_plain o.pa o.pn hl
/-- which class's object: its methods, its properties -/
structure ProgOk (W : Wd) (K : PySem.W.Frag) (mg : Str → Option Value) (t : Tab) : Prop where
  wk : W.K = K
  keys : (t.defs.map (·.key)).Nodup
  noi : ∀ d ∈ t.defs, d.key = (("" : Str), ("__init__" : Str)) → False
  defs : ∀ d ∈ t.defs, DOk d ∧ DefA K d (adr K d)
  bt : ∀ x ∈ btNames, mg x = none
  con : ∀ x d, t.gl.lookup x = some d → ∃ u v, mg x = some u ∧ RelV v u ∧ ∀ F ad, Rp W F ad v d
  cc : ∀ c f d, t.cc.lookup (c, f) = some d → ∃ Ca mc v u, mg c = some (.ref Ca) ∧ ClX.CRead K Ca mc ∧ ClX.CVal K Ca mc f v u ∧ ∀ F ad, Rp W F ad v d
  fld : ∀ c f C, t.fldB c f = true → W.cls c = some C → Cls K C ∧ NoAttr K C f
  propI : ∀ d ∈ t.defs, d.prop = true → d.init = none
  prop : ∀ d ∈ t.defs, d.prop = true → ∀ C, W.cls d.key.1 = some C → Cls K C ∧ ∃ p, PropOf K C d.key.2 p (adr K d)
  meth : ∀ d ∈ t.defs, d.prop = false → ∀ C, W.cls d.key.1 = some C → Cls K C ∧ Meth K C d.key.2 (adr K d)
  fn : ∀ d ∈ t.defs, d.key.1 = "" → mg d.key.2 = some (.ref (adr K d)) ∧ d.init = none
  init : ∀ d ∈ t.defs, d.init = if d.key.2 = "__init__" ∧ d.key.1 ≠ "" then some d.key.1 else none
  made : ∀ d ∈ t.defs, d.key.1 ≠ "" → d.key.2 = "__init__" → ∃ C, W.cls d.key.1 = some C ∧ mg d.key.1 = some (.ref C) ∧ Mk K C (adr K d)
section
variable {P : Program} {w : World} {K : PySem.W.Frag} {mg : Str → Option Value} {base : Heap} {W : Wd} {t : Tab} {fuel n : Nat} {d : DI}
def FnA (P : Program) (w : World) (K : PySem.W.Frag) (mg : Str → Option Value) (base : Heap) (W : Wd) (call : Call) (d : DI) (n : Nat) : Prop :=
  ∃ fd, FnOk P w K mg base (L2.CX P w) n (adr K d) fd d.ps (match d.init with
    | none => spF W call d.key
    | some c => spI W call c) ∧ Binds K fd d.ps [] ∧ ∃ oc od osl, K.lookup (adr K d) = some ⟨oc, od, .func fd, osl⟩
theorem find_key : ∀ {ds : List DI} {d : DI}, (ds.map (·.key)).Nodup → d ∈ ds → (ds.find? fun e => e.key.1 == d.key.1 && e.key.2 == d.key.2) = some d
  | a :: ds, d, nd, h => by
    have nd2 := List.nodup_cons.mp nd
    rw [List.find?_cons]
    by_cases e : a.key = d.key
    · have : (a.key.1 == d.key.1 && a.key.2 == d.key.2) = true := by
        rw [e]
        simp
      rw [this]
      rcases List.mem_cons.mp h with rfl | h
      · rfl
      · exact absurd (List.mem_map.mpr ⟨d, h, e.symm⟩) nd2.1
    · have : (a.key.1 == d.key.1 && a.key.2 == d.key.2) = false := by
        rw [Bool.eq_false_iff]
        intro z
        obtain ⟨z1, z2⟩ := Bool.and_eq_true_iff.mp z
        exact e (Prod.ext (beq_iff_eq.mp z1) (beq_iff_eq.mp z2))
      rw [this]
      exact find_key nd2.2 ((List.mem_cons.mp h).resolve_left fun z => e (by rw [z]))
theorem text_fn (nd : (t.defs.map (·.key)).Nodup) (hd : d ∈ t.defs) : (t.text fuel).fn d.key = some (t.fnOf d) := by
  show (t.defs.find? fun e => e.key.1 == d.key.1 && e.key.2 == d.key.2).map t.fnOf = _
  rw [find_key nd hd]
  rfl
theorem has_def {key : Str × Str} (h : (api (t.text fuel) n).has key = true) : ∃ d ∈ t.defs, d.key = key := by
  have h2 : ((t.defs.find? fun e => e.key.1 == key.1 && e.key.2 == key.2).map t.fnOf).isSome = true := h
  cases q : t.defs.find? fun e => e.key.1 == key.1 && e.key.2 == key.2 with
  | none =>
    rw [q] at h2
    cases h2
  | some d =>
    have z0 := List.find?_some q
    have z := Bool.and_eq_true_iff.mp z0
    exact ⟨d, List.mem_of_find?_eq_some q, Prod.ext (beq_iff_eq.mp z.1) (beq_iff_eq.mp z.2)⟩
theorem xok_of (O : ProgOk W K mg t) (hd : d ∈ t.defs) (ih : ∀ d ∈ t.defs, FnA P w K mg base W (callN (t.text fuel) n) d (3 * n)) {f : Addr} {cdv : Value} {A : Around} {outer : List PySem.Env} {s : Shared} {H : Hp} {E : XK} (hr : Room (3 * n + 2) (A.deeper (envOfC d.qual d.scope s.heap.objs.size f cdv))) :
    XOk W (api (t.text fuel) n) (3 * n + 2 - 2) (t.ccOf d) (cxOf (L2.CX P w) P w K mg base d.N d.qual d.scope f cdv A outer s H E) := by
  have dk := (O.defs d hd).1
  refine ⟨rfl, rfl, dk.sc.kind, dk.sc.nd, rfl, ⟨O.wk, hr, O.fld, fun c f C hp hc => ?_, fun c m C hm hp hh hc => ?_, fun f hh => ?_, fun c hh => ?_⟩, fun _ _ => rfl, O.bt, O.con, O.cc⟩
  · obtain ⟨d2, h2, hb⟩ := List.any_eq_true.mp (show (t.defs.any fun d => d.prop && d.key.1 == c && d.key.2 == f) = true from hp)
    have hb1 := Bool.and_eq_true_iff.mp hb
    have hb2 := Bool.and_eq_true_iff.mp hb1.1
    have e1 : d2.key.1 = c := beq_iff_eq.mp hb2.2
    have e2 : d2.key.2 = f := beq_iff_eq.mp hb1.2
    subst e1
    subst e2
    obtain ⟨k1, p, k2⟩ := O.prop d2 h2 hb2.1 C hc
    obtain ⟨fd, F, B, _⟩ := ih d2 h2
    refine ⟨k1, p, adr K d2, k2, fd, d2.ps, ?_, B⟩
    have hi : d2.init = none := O.propI d2 h2 hb2.1
    rw [hi] at F
    exact F
  · obtain ⟨d2, h2, hk⟩ := has_def hh
    have e1 : d2.key.1 = c := by rw [hk]
    have e2 : d2.key.2 = m := by rw [hk]
    have hpf : d2.prop = false := by
      cases q : d2.prop with
      | false => rfl
      | true =>
        have : t.propB c m = true := List.any_eq_true.mpr ⟨d2, h2, by rw [q, e1, e2]; simp⟩
        have hp2 : t.propB c m = false := hp
        rw [this] at hp2
        cases hp2
    have hi : d2.init = none := by
      rw [O.init d2 h2, if_neg]
      intro z
      rw [e2] at z
      rw [z.1] at hm
      simp at hm
    obtain ⟨k1, k2⟩ := O.meth d2 h2 hpf C (by rw [e1]; exact hc)
    obtain ⟨fd, F, B, _⟩ := ih d2 h2
    rw [hi] at F
    rw [e2] at k2
    refine ⟨k1, adr K d2, k2, fd, d2.ps, ?_, B⟩
    rw [← hk]
    exact F
  · obtain ⟨d2, h2, hk⟩ := has_def hh
    have e1 : d2.key.1 = "" := by rw [hk]
    have e2 : d2.key.2 = f := by rw [hk]
    obtain ⟨k1, hi⟩ := O.fn d2 h2 e1
    obtain ⟨fd, F, B, _⟩ := ih d2 h2
    rw [hi] at F
    rw [e2] at k1
    refine ⟨adr K d2, k1, (O.defs d2 h2).2.1, fd, d2.ps, ?_, B⟩
    rw [← hk]
    exact F
  · obtain ⟨d2, h2, hk⟩ := has_def hh
    have e1 : d2.key.1 = c := by rw [hk]
    have e2 : d2.key.2 = "__init__" := by rw [hk]
    have hne : d2.key.1 ≠ "" := fun z => O.noi d2 h2 (Prod.ext z e2)
    have hi : d2.init = some c := by
      rw [O.init d2 h2, if_pos ⟨e2, hne⟩, e1]
    obtain ⟨Ca, k1, k2, k3⟩ := O.made d2 h2 hne e2
    obtain ⟨fd, F, B, _⟩ := ih d2 h2
    rw [hi] at F
    rw [e1] at k1 k2
    exact ⟨Ca, adr K d2, k1, k2, k3, fd, d2.ps, F, B⟩
theorem all_defs (O : ProgOk W K mg t) : ∀ (n : Nat), ∀ d ∈ t.defs, FnA P w K mg base W (callN (t.text fuel) n) d (3 * n)
  | 0, d, hd => by
    obtain ⟨dk, kp, oc, od, kV, doc, pm, an, cdv, ct, osl, lk, hcd⟩ := O.defs d hd
    refine ⟨_, fnOk_no fun vs H Q E q => ?_, binds_of dk (kV := kV) (doc := doc) (pm := pm) (an := an) (cdv := cdv) (ct := ct), oc, od, osl, lk⟩
    cases hi : d.init with
    | none =>
      rw [hi] at q
      obtain ⟨w0, S0, ds, R, r, p⟩ := q
      exact p
    | some c =>
      rw [hi] at q
      obtain ⟨x, rest, dx, CC, H0, w0, S0, ds, _, _, _, _, _, _, R, r, p⟩ := q
      exact p
  | n + 1, d, hd => by
    have ih := all_defs O n
    obtain ⟨dk, kp, oc, od, kV, doc, pm, an, cdv, ct, osl, lk, hcd⟩ := O.defs d hd
    refine ⟨_, ?_, binds_of dk (kV := kV) (doc := doc) (pm := pm) (an := an) (cdv := cdv) (ct := ct), oc, od, osl, lk⟩
    cases hi : d.init with
    | none =>
      exact fn_ok (k := 3 * n + 2) (n := n) (T := t.text fuel) (fn := t.fnOf d) (C := t.ccOf d) (fuel := 40) lk hcd dk.sc (text_fn O.keys hd) hi rfl rfl rfl fun A outer s H E hr => xok_of O hd ih hr
    | some c =>
      have hk : d.key = (c, ("__init__" : Str)) := by
        have z := O.init d hd
        rw [hi] at z
        by_cases y : d.key.2 = "__init__" ∧ d.key.1 ≠ ""
        · rw [if_pos y] at z
          have zc : c = d.key.1 := Option.some.inj z
          exact Prod.ext zc.symm y.1
        · rw [if_neg y] at z
          cases z
      have hT : (t.text fuel).fn (c, "__init__") = some (t.fnOf d) := by
        rw [← hk]
        exact text_fn O.keys hd
      exact init_ok (k := 3 * n + 2) (n := n) (T := t.text fuel) (fn := t.fnOf d) (C := t.ccOf d) (fuel := 40) lk hcd dk.sc hT hi rfl rfl rfl fun A outer s H E hr => xok_of O hd ih hr
end
end Vm
namespace Vm
open PySem PySem.Spec L2
open PyProof.Rows hiding St
def conB (K : PySem.W.Frag) (y : Str × D) : Bool := match PySem.W.nsIn K mainGlobals y.1 with
  | some (some u) => (match y.2 with
    | .int i => He.relB (.int i) u
    | .str s => He.relB (.str s) u
    | _ => false)
  | _ => false
def tyB : Option (Option Value) → Bool
  | _ => true
def ccB (K : PySem.W.Frag) (y : (Str × Str) × D) : Bool := (He.Fa.glo y.1.1).ok K && PySem.W.readsIn K (He.ga K y.1.1) (.type "type") && He.eqO (PySem.W.specialIn K (.ref (He.ga K y.1.1)) "__getattribute__") (some (some (.builtin "type.__getattribute__"))) && (match PySem.W.findCls K (.ref (He.ga K y.1.1)) (.type "type") y.1.2 with
  | some (.val u) => (match y.2 with
    | .int i => He.relB (.int i) u
    | .str s => He.relB (.str s) u
    | _ => false)
  | _ => false)
def propOkB (K : PySem.W.Frag) (c f : Str) : Bool := He.eqO (PySem.W.findIn K (.ref (He.ga K c)) f) (some (some (.ref (He.ma K (He.ga K c) f)))) && He.eqO (PySem.W.specialIn K (.ref (He.ma K (He.ga K c) f)) "__get__") (some (some (.builtin "property.__get__"))) &&
  decide (PySem.W.takesIn K (.ref (He.ma K (He.ga K c) f)) = some true) && (match PySem.W.recIn K (He.ma K (He.ga K c) f) "property" with
  | some (.ref _ :: _) => true
  | _ => false)
def defB (K : PySem.W.Frag) (d : DI) : Bool := okA K (adr K d) d.qual && (if d.key.1 == ("" : Str) then (He.Fa.glo d.key.2).ok K else if d.prop then propOkB K d.key.1 d.key.2 else (He.Fa.meth d.key.1 d.key.2).ok K && (if d.key.2 == ("__init__" : Str) then (He.Fa.mkr d.key.1).ok K else true))
def fieldsOf (k : CI) : List Str := k.body.flatMap fun s => match s with
  | .FunctionDef _ _ b _ _ _ _ _ _ _ => b.flatMap flds
  | _ => []
def clsB (K : PySem.W.Frag) (k : CI) : Bool := (He.Fa.glo k.name).ok K && (He.Fa.cls k.name).ok K && (fieldsOf k).all fun f => (He.Fa.noat k.name f).ok K
def Tab.chk (t : Tab) (K : PySem.W.Frag) : Bool := t.defs.all (defB K) && t.cls.all (clsB K) && t.gl.all (conB K) && t.cc.all (ccB K) && btNames.all fun x => (He.Fa.free x).ok K
/-- what the text alone shows -/
def Tab.okB (t : Tab) : Bool := (t.cls.all fun k => !(k.name == ("" : Str))) && decide (t.defs.map (·.key)).Nodup && t.defs.all fun d => d.okB && !(d.key.1 == ("" : Str) && d.key.2 == ("__init__" : Str)) && decide (d.init = if d.key.2 = "__init__" ∧ d.key.1 ≠ "" then some d.key.1 else none) && (!d.prop || (d.init.isNone && !(d.key.1 == ("" : Str)))) && (d.key.1 == ("" : Str) || t.cls.any fun c => c.name == d.key.1)
def wdOf (t : Tab) (K : PySem.W.Frag) : Wd := ⟨K, fun c => if t.cls.any (fun k => k.name == c) then some (He.ga K c) else none⟩
section
variable {t : Tab} {K : PySem.W.Frag} {h : Heap} {mg : Str → Option Value}
theorem conB_ok (X : K.In h) (G : h.Ns mainGlobals mg) {W : Wd} {y : Str × D} (c : conB K y = true) : ∃ u v, mg y.1 = some u ∧ RelV v u ∧ ∀ F ad, Rp W F ad v y.2 := by
  unfold conB at c
  split at c
  · rename_i u hu
    have hm := PySem.W.mg_of X G hu
    split at c
    · rename_i i hi
      rw [hi]
      exact ⟨u, .int i, hm, He.relB_ok c, fun _ _ => .int i⟩
    · rename_i s hi
      rw [hi]
      exact ⟨u, .str s, hm, He.relB_ok c, fun _ _ => .str s⟩
    · cases c
  · cases c
theorem ccB_ok (X : K.In h) (G : h.Ns mainGlobals mg) {W : Wd} {y : (Str × Str) × D} (c : ccB K y = true) : ∃ Ca mc v u, mg y.1.1 = some (.ref Ca) ∧ ClX.CRead K Ca mc ∧ ClX.CVal K Ca mc y.1.2 v u ∧ ∀ F ad, Rp W F ad v y.2 := by
  unfold ccB at c
  obtain ⟨c, c4⟩ := Bool.and_eq_true_iff.mp c
  obtain ⟨c, c3⟩ := Bool.and_eq_true_iff.mp c
  obtain ⟨c1, c2⟩ := Bool.and_eq_true_iff.mp c
  have k1 := He.glo_ok X G c1
  split at c4
  · rename_i u hu
    split at c4
    · rename_i i hi
      rw [hi]
      exact ⟨_, _, .int i, u, k1, ⟨c2, He.eqO_ok c3⟩, ⟨hu, He.relB_ok c4⟩, fun _ _ => .int i⟩
    · rename_i s hi
      rw [hi]
      exact ⟨_, _, .str s, u, k1, ⟨c2, He.eqO_ok c3⟩, ⟨hu, He.relB_ok c4⟩, fun _ _ => .str s⟩
    · cases c4
  · cases c4
theorem cls_at {c : Str} {C : Addr} (hc : (wdOf t K).cls c = some C) : C = He.ga K c ∧ ∃ k ∈ t.cls, k.name = c := by
  unfold wdOf at hc
  dsimp only at hc
  split at hc
  · rename_i ha
    obtain ⟨k, hk, e⟩ := List.any_eq_true.mp ha
    exact ⟨(Option.some.inj hc).symm, k, hk, beq_iff_eq.mp e⟩
  · cases hc
theorem prog_of (X : K.In h) (G : h.Ns mainGlobals mg) (st : t.okB = true) (ck : t.chk K = true) (fs : (t.defs.map fun d => fnWa K (adr K d)) = t.defs.map DI.val) : ProgOk (wdOf t K) K mg t := by
  unfold Tab.okB at st
  obtain ⟨s01, s2⟩ := Bool.and_eq_true_iff.mp st
  obtain ⟨s0, s1⟩ := Bool.and_eq_true_iff.mp s01
  unfold Tab.chk at ck
  obtain ⟨ck, c5⟩ := Bool.and_eq_true_iff.mp ck
  obtain ⟨ck, c4⟩ := Bool.and_eq_true_iff.mp ck
  obtain ⟨ck, c3⟩ := Bool.and_eq_true_iff.mp ck
  obtain ⟨c1, c2⟩ := Bool.and_eq_true_iff.mp ck
  have sd : ∀ d ∈ t.defs, d.okB = true ∧ (d.key.1 == ("" : Str) && d.key.2 == ("__init__" : Str)) = false ∧ (d.init = if d.key.2 = "__init__" ∧ d.key.1 ≠ "" then some d.key.1 else none) ∧ (d.prop = true → d.init = none ∧ (d.key.1 == ("" : Str)) = false) ∧ ((d.key.1 == ("" : Str)) = true ∨ t.cls.any (fun c => c.name == d.key.1) = true) := fun d hd => by
    have := List.all_eq_true.mp s2 d hd
    simp only [Bool.and_eq_true, Bool.not_eq_true', decide_eq_true_eq, Bool.or_eq_true, Option.isNone_iff_eq_none] at this
    obtain ⟨⟨⟨⟨a1, a2⟩, a3⟩, a4⟩, a5⟩ := this
    refine ⟨a1, a2, a3, fun hp => ?_, a5⟩
    rcases a4 with a4 | a4
    · rw [hp] at a4
      cases a4
    · exact a4
  have kd : ∀ d ∈ t.defs, okA K (adr K d) d.qual = true ∧ (if d.key.1 == ("" : Str) then (He.Fa.glo d.key.2).ok K else if d.prop then propOkB K d.key.1 d.key.2 else (He.Fa.meth d.key.1 d.key.2).ok K && (if d.key.2 == ("__init__" : Str) then (He.Fa.mkr d.key.1).ok K else true)) = true := fun d hd => Bool.and_eq_true_iff.mp (List.all_eq_true.mp c1 d hd)
  have kc : ∀ k ∈ t.cls, (He.Fa.glo k.name).ok K = true ∧ (He.Fa.cls k.name).ok K = true ∧ ∀ f ∈ fieldsOf k, (He.Fa.noat k.name f).ok K = true := fun k hk => by
    have := List.all_eq_true.mp c2 k hk
    obtain ⟨a, a3⟩ := Bool.and_eq_true_iff.mp this
    obtain ⟨a1, a2⟩ := Bool.and_eq_true_iff.mp a
    exact ⟨a1, a2, fun f hf => List.all_eq_true.mp a3 f hf⟩
  have cls_ : ∀ {c : Str} {C : Addr}, (wdOf t K).cls c = some C → C = He.ga K c ∧ Cls K (He.ga K c) ∧ mg c = some (.ref (He.ga K c)) := fun {c C} hc => by
    obtain ⟨e, k, hk, ek⟩ := cls_at hc
    obtain ⟨a1, a2, _⟩ := kc k hk
    rw [ek] at a1 a2
    exact ⟨e, He.cls_ok a2, He.glo_ok X G a1⟩
  have adr_m : ∀ d, (d.key.1 == ("" : Str)) = false → d.prop = false → adr K d = He.ma K (He.ga K d.key.1) d.key.2 := fun d h1 h2 => by
    unfold adr
    rw [h1, h2]
    rfl
  refine ⟨rfl, of_decide_eq_true s1, fun d hd he => ?_, fun d hd => ⟨dok_of (sd d hd).1, defA_of ?_ (kd d hd).1⟩, fun x hx => He.free_ok X G (List.all_eq_true.mp c5 x hx), fun x d hl => ?_, fun c f d hl => ?_, fun c f C hf hc => ?_, fun d hd hp => ((sd d hd).2.2.2.1 hp).1, fun d hd hp C hc => ?_, fun d hd hp C hc => ?_, fun d hd he => ?_, fun d hd => (sd d hd).2.2.1, fun d hd h1 h2 => ?_⟩
  · have := (sd d hd).2.1
    rw [he] at this
    simp at this
  · have := List.map_inj_left.mp fs d hd
    exact this
  · obtain ⟨l1, l2, e1, _⟩ := List.lookup_eq_some_iff.mp hl
    exact conB_ok X G (y := (x, d)) (List.all_eq_true.mp c3 _ (by rw [e1]; simp))
  · obtain ⟨l1, l2, e1, _⟩ := List.lookup_eq_some_iff.mp hl
    exact ccB_ok X G (y := ((c, f), d)) (List.all_eq_true.mp c4 _ (by rw [e1]; simp))
  · obtain ⟨e, k1, _⟩ := cls_ hc
    subst e
    obtain ⟨k, hk, hb⟩ := List.any_eq_true.mp hf
    obtain ⟨b1, b2⟩ := Bool.and_eq_true_iff.mp hb
    have en : k.name = c := beq_iff_eq.mp b1
    have := (kc k hk).2.2 f (List.contains_iff_mem.mp b2)
    rw [en] at this
    exact ⟨k1, He.noat_ok this⟩
  · obtain ⟨e, k1, _⟩ := cls_ hc
    subst e
    have h2 := (kd d hd).2
    have hne := ((sd d hd).2.2.2.1 hp).2
    rw [hne, hp] at h2
    have h3 : propOkB K d.key.1 d.key.2 = true := h2
    unfold propOkB at h3
    obtain ⟨h3, a4⟩ := Bool.and_eq_true_iff.mp h3
    obtain ⟨h3, a3⟩ := Bool.and_eq_true_iff.mp h3
    obtain ⟨a1, a2⟩ := Bool.and_eq_true_iff.mp h3
    refine ⟨k1, _, ⟨He.eqO_ok a1, He.eqO_ok a2, of_decide_eq_true a3, ?_⟩⟩
    have ea : adr K d = (match PySem.W.recIn K (He.ma K (He.ga K d.key.1) d.key.2) "property" with
      | some (.ref g :: _) => g
      | _ => 0) := by
      unfold adr
      rw [hne, hp]
      rfl
    rw [ea]
    split at a4
    · rename_i g rest hr
      exact ⟨rest, hr⟩
    · cases a4
  · obtain ⟨e, k1, _⟩ := cls_ hc
    subst e
    have hne : (d.key.1 == ("" : Str)) = false := by
      cases q : (d.key.1 == ("" : Str)) with
      | false => rfl
      | true =>
        obtain ⟨_, k, hk, ek⟩ := cls_at hc
        have z := List.all_eq_true.mp s0 k hk
        rw [ek, q] at z
        cases z
    have h2 := (kd d hd).2
    rw [hne, hp] at h2
    have h3 : ((He.Fa.meth d.key.1 d.key.2).ok K && (if d.key.2 == ("__init__" : Str) then (He.Fa.mkr d.key.1).ok K else true)) = true := h2
    rw [adr_m d hne hp]
    exact ⟨k1, He.meth_ok (Bool.and_eq_true_iff.mp h3).1⟩
  · have h2 := (kd d hd).2
    have hq : (d.key.1 == ("" : Str)) = true := by
      rw [he]
      rfl
    rw [hq] at h2
    have h3 : (He.Fa.glo d.key.2).ok K = true := h2
    have ea : adr K d = He.ga K d.key.2 := by
      unfold adr
      rw [hq]
      rfl
    rw [ea]
    refine ⟨He.glo_ok X G h3, ?_⟩
    rw [(sd d hd).2.2.1, if_neg (fun z => z.2 he)]
  · have hq : (d.key.1 == ("" : Str)) = false := by
      cases q : (d.key.1 == ("" : Str)) with
      | false => rfl
      | true => exact absurd (beq_iff_eq.mp q) h1
    have hca := (sd d hd).2.2.2.2.resolve_left (by rw [hq]; exact Bool.false_ne_true)
    have hcl : (wdOf t K).cls d.key.1 = some (He.ga K d.key.1) := if_pos hca
    have hp : d.prop = false := by
      cases q : d.prop with
      | false => rfl
      | true =>
        have z := ((sd d hd).2.2.2.1 q).1
        rw [(sd d hd).2.2.1, if_pos ⟨h2, h1⟩] at z
        cases z
    have h4 := (kd d hd).2
    rw [hq, hp] at h4
    have h3 : ((He.Fa.meth d.key.1 d.key.2).ok K && (if d.key.2 == ("__init__" : Str) then (He.Fa.mkr d.key.1).ok K else true)) = true := h4
    have h5 := (Bool.and_eq_true_iff.mp h3).2
    have h6 : (d.key.2 == ("__init__" : Str)) = true := by
      rw [h2]
      rfl
    rw [if_pos h6] at h5
    rw [adr_m d hq hp, h2]
    exact ⟨_, hcl, (cls_ hcl).2.2, He.mkr_ok h5⟩
def obsV (t : Tab) (K : PySem.W.Frag) : He.AlD := (t.chk K, t.defs.map fun d => fnWa K (adr K d))
def valV (t : Tab) : He.AlD := (true, t.defs.map DI.val)
/-- what the module's names reach, the statics -/
def asV (g : Addr → Option Obj) : Nat → List Addr
  | 0 => [mainGlobals, cStatics]
  | n + 1 => He.growD g (asV g n)
def obsVG (n : Nat) (t : Tab) (g : Addr → Option Obj) : He.AlD := obsV t (He.frG g (asV g n))
def hookV (n : Nat) (t : Tab) : PySem.W.Hook where
  α := He.AlD
  obs := fun s => obsVG n t s.heap.get?
  val := fun _ => valV t
  says := fun _ h => ∃ K : PySem.W.Frag, K.In h ∧ obsV t K = valV t
  of := fun _ _ e => ⟨_, He.frG_in, e⟩
  keeps := fun _ _ _ ⟨K, hK, c⟩ k => ⟨K, PySem.W.Frag.In.keeps hK k, c⟩
theorem obsVG_eq {n : Nat} {t : Tab} {g : Addr → Option Obj} {s : Shared} (h : ∀ a, g a = s.heap.get? a) : obsVG n t g = (hookV n t).obs s := by
  have e : g = s.heap.get? := funext h
  rw [e] <;> rfl
def obV (n : Nat) (t : Tab) (s : PySem.W.SharedT) : He.AlD := obsVG n t (HandSHeadRun.getT s)
theorem obV_eq (n : Nat) (t : Tab) (s : PySem.W.SharedT) : obV n t s = (hookV n t).obs s.abs := obsVG_eq (HandSHeadRun.getT_eq s)
/-- the plain claim -/
def Plain (t : Tab) (fuel n : Nat) : Prop := ∀ ns : List Int, ns.length ≤ 63 → (∀ z ∈ ns, Builtin.Int.intBits z ≤ 1048576) → ∃ S, callN (t.text fuel) n (("" : Str), ("law" : Str)) [.scr ns] [] = .ok (.bl true) S
theorem sp_law {t : Tab} {K : PySem.W.Frag} {fuel n : Nat} (pl : Plain t fuel n) (H : Hp) (a : Addr) (ns : List Int) (h1 : ns.length ≤ 63) (h2 : ∀ z ∈ ns, Builtin.Int.intBits z ≤ 1048576) (hS : SqL K H a (ns.map V.int)) :
    spF (wdOf t K) (callN (t.text fuel) n) (("" : Str), ("law" : Str)) [.ref a] H (fun v _ => v = .bl true) fun _ _ _ => False := by
  obtain ⟨S, hp⟩ := pl ns h1 h2
  refine ⟨⟨H, [], fun _ => none, none⟩, [], [.scr ns], ⟨Le.refl _, rfl, fun i => True.intro, fun k c q => ?_, rfl, fun _ _ _ => rfl, fun a x q => (nomatch q), fun i c fs a h1 h2 => nomatch h1⟩, .cons (.scr hS) .nil, ?_⟩
  · simp at q
  · rw [hp]
    intro w' H' v x R r
    exact bl_inv r
/-- the end -/
theorem law_at {l : PySem.W.OpenLaw} {t : Tab} {fuel n : Nat} {w : World} {K : PySem.W.Frag} {mg : Str → Option Value} {fa : Addr} {h : Heap} {d : DI} (X : K.In h) (G : h.Ns mainGlobals mg) (st : t.okB = true) (c : obsV t K = valV t) (hd : d ∈ t.defs) (hk : d.key = (("" : Str), ("law" : Str))) (hps : d.ps = [("script" : Str)])
    (hfa : mg "law" = some (.ref fa)) (pl : Plain t fuel n) : LamX.LawAtS l w K (L2.CX l.prog w) (3 * n) 63 "script" mg fa h := by
  have c1 : t.chk K = true := congrArg (fun z : He.AlD => z.1) c
  have c2 : (t.defs.map fun d => fnWa K (adr K d)) = t.defs.map DI.val := congrArg (fun z : He.AlD => z.2) c
  have O := prog_of X G st c1 c2
  have e1 : d.key.1 = "" := by rw [hk]
  have e2 : d.key.2 = "law" := by rw [hk]
  obtain ⟨m1, hi⟩ := O.fn d hd e1
  rw [e2, hfa] at m1
  have ea : fa = adr K d := by cases m1; rfl
  obtain ⟨dk, kp, oc, od, kV, doc, pm, an, cdv, ct, osl, lk, hcd⟩ := O.defs d hd
  refine ⟨PySem.W.fnOf d.name d.qual d.params d.body d.scope .none kV doc pm an cdv ct, [], spF (wdOf t K) (callN (t.text fuel) n) (("" : Str), ("law" : Str)), fun p hp => (nomatch hp), fun p hp => (nomatch hp), fun p hp => (nomatch hp), fun s u => ?_, fun H a ns h1 h2 _ hS => sp_law pl H a ns h1 h2 hS, fun base KB GB _ => ?_⟩
  · have hb := bind_plain (x := d.name) (qual := d.qual) (body := d.body) (scope := d.scope) (kV := kV) (doc := doc) (pm := pm) (an := an) (cdv := cdv) (ct := ct) (us := [u]) dk.pa dk.pn (by show 1 = d.ps.length; rw [hps]; rfl)
    have hps2 : d.params.args.map (·.arg) = [("script" : Str)] := hps
    rw [hps2] at hb
    exact .of_eq hb
  · have O2 := prog_of KB GB st c1 c2
    obtain ⟨fd, F, B, oc2, od2, osl2, lk2⟩ := all_defs (P := l.prog) (w := w) (base := base) (fuel := fuel) O2 n d hd
    rw [hi] at F
    rw [ea]
    rw [lk] at lk2
    cases lk2
    have F2 : FnOk l.prog w K mg base (L2.CX l.prog w) (3 * n) (adr K d) _ d.ps (spF (wdOf t K) (callN (t.text fuel) n) d.key) := F
    rw [hps, hk] at F2
    exact F2
/-- the law's def is in the table -/
def Tab.lawB (t : Tab) : Bool := t.defs.any fun d => decide (d.key = (("" : Str), ("law" : Str))) && decide (d.ps = [("script" : Str)])
theorem law_in {t : Tab} (h : t.lawB = true) : ∃ d ∈ t.defs, d.key = (("" : Str), ("law" : Str)) ∧ d.ps = [("script" : Str)] := by
  obtain ⟨d, hd, h2⟩ := List.any_eq_true.mp h
  have h3 := Bool.and_eq_true_iff.mp h2
  exact ⟨d, hd, of_decide_eq_true h3.1, of_decide_eq_true h3.2⟩
end
end Vm
namespace Vm
open PySem
def M.wp {α : Type} (m : M α) (e : Env) (s : Store) (Q : α → Env → Store → Prop) : Prop := ∃ a e' s', m e s = .ok a e' s' ∧ Q a e' s'
section
variable {α β : Type} {e e' : Env} {s s' : Store} {Q : α → Env → Store → Prop} {R : β → Env → Store → Prop} {QD : D → Env → Store → Prop} {QV : Vw → Env → Store → Prop} {QU : Unit → Env → Store → Prop}
theorem wp_pure {a : α} : (M.pure a).wp e s Q ↔ Q a e s := ⟨fun ⟨_, _, _, h, q⟩ => (by cases h; exact q), fun q => ⟨a, e, s, rfl, q⟩⟩
theorem wp_bad : (M.bad : M α).wp e s Q ↔ False := ⟨fun ⟨_, _, _, h, _⟩ => (nomatch h), False.elim⟩
theorem wp_bind {m : M α} {f : α → M β} : (m.bind f).wp e s R ↔ m.wp e s fun a e s => (f a).wp e s R := by
  constructor
  · rintro ⟨b, e2, s2, h, q⟩
    unfold M.bind at h
    cases hm : m e s with
    | ok a e1 s1 =>
      rw [hm] at h
      exact ⟨a, e1, s1, hm, b, e2, s2, h, q⟩
    | rz x e1 s1 =>
      rw [hm] at h
      cases h
    | bad =>
      rw [hm] at h
      cases h
  · rintro ⟨a, e1, s1, hm, b, e2, s2, h, q⟩
    refine ⟨b, e2, s2, ?_, q⟩
    unfold M.bind
    rw [hm]
    exact h
theorem wp_some {a : α} : (M.opt (some a)).wp e s Q ↔ Q a e s := wp_pure
theorem wp_none : (M.opt (none : Option α)).wp e s Q ↔ False := wp_bad
theorem wp_opt {o : Option α} : (M.opt o).wp e s Q ↔ ∃ a, o = some a ∧ Q a e s := by
  cases o with
  | none => simp [wp_none]
  | some a => simp [wp_some]
theorem wp_mono {m : M α} {Q' : α → Env → Store → Prop} (h : m.wp e s Q) (k : ∀ a e s, Q a e s → Q' a e s) : m.wp e s Q' := let ⟨a, e', s', h1, h2⟩ := h; ⟨a, e', s', h1, k _ _ _ h2⟩
theorem wp_if {p : Prop} [Decidable p] {a b : M α} : (if p then a else b).wp e s Q ↔ (p → a.wp e s Q) ∧ (¬ p → b.wp e s Q) := by
  by_cases h : p <;> simp [h]
theorem wp_app_if {p : Prop} [Decidable p] {a b : M α} : (M.wp (fun e s => (if p then a else b) e s) e s Q) ↔ (if p then a else b).wp e s Q := Iff.rfl
theorem wp_dec {p : Prop} [Decidable p] {a b : M α} : (match decide p with
    | true => a
    | false => b).wp e s Q ↔ (p → a.wp e s Q) ∧ (¬ p → b.wp e s Q) := by
  by_cases h : p <;> simp [h]
theorem wp_dec' {p : Prop} [Decidable p] {a b : M α} : (match decide p with
    | false => a
    | true => b).wp e s Q ↔ (p → b.wp e s Q) ∧ (¬ p → a.wp e s Q) := by
  by_cases h : p <;> simp [h]
theorem wp_out {m : M α} : m.wp e s Q ↔ (match m e s with
    | .ok a e' s' => Q a e' s'
    | _ => False) := by
  unfold M.wp
  cases m e s with
  | ok a e' s' => exact ⟨fun ⟨_, _, _, h, q⟩ => (by cases h; exact q), fun q => ⟨_, _, _, rfl, q⟩⟩
  | rz x e' s' => exact ⟨fun ⟨_, _, _, h, _⟩ => (nomatch h), False.elim⟩
  | bad => exact ⟨fun ⟨_, _, _, h, _⟩ => (nomatch h), False.elim⟩
theorem wp_readV {i : Nat} : (readV i).wp e s QD ↔ (match e.getD i .emp with
    | .emp => False
    | .val d => QD d e s
    | .own c => QD c.toD (e.set i (.val c.toD)) s) := by
  rw [wp_out]
  unfold readV
  cases e.getD i .emp <;> rfl
theorem wp_hdV {i : Nat} {Q : Hd → Env → Store → Prop} : (hdV i).wp e s Q ↔ (match e.getD i .emp with
    | .emp => False
    | _ => Q (.s i) e s) := by
  rw [wp_out]
  unfold hdV
  cases e.getD i .emp <;> rfl
theorem wp_setV {i : Nat} {d : D} : (setV i d).wp e s QU ↔ QU () (e.set i (.val d)) s := by
  rw [wp_out]
  rfl
def cellV (s : Store) (k : Nat) (Q : Vw → Prop) : Prop := match s.getD k none with
    | some c => Q (.c c)
    | none => False
theorem wp_resD {d : D} : (resD d).wp e s QV ↔ (match d with
    | .ref k => cellV s k fun v => QV v e s
    | d => QV (.d d) e s) := by
  rw [wp_out]
  cases d <;> try rfl
  unfold resD cellV
  dsimp only
  cases s.getD _ none <;> rfl
theorem wp_res {h : Hd} : (res h).wp e s QV ↔ (match h with
    | .s i => (match e.getD i .emp with
      | .emp => False
      | .val d => (resD d).wp e s QV
      | .own c => QV (.c c) e s)
    | .d d => (resD d).wp e s QV) := by
  cases h with
  | d d => rfl
  | s i =>
    dsimp only
    rw [wp_out]
    unfold res
    dsimp only
    cases e.getD i .emp with
    | emp => exact Iff.rfl
    | val d =>
      dsimp only
      rw [wp_out]
    | own c => exact Iff.rfl
theorem wp_plOf {h : Hd} {Q : Pl → Env → Store → Prop} : (plOf h).wp e s Q ↔ (match h with
    | .s i => (match e.getD i .emp with
      | .own _ => Q (.s i) e s
      | .val (.ref k) => Q (.k k) e s
      | _ => False)
    | .d (.ref k) => Q (.k k) e s
    | .d _ => False) := by
  rw [wp_out]
  cases h with
  | d d => cases d <;> rfl
  | s i =>
    unfold plOf
    dsimp only
    cases e.getD i .emp with
    | emp => rfl
    | own c => rfl
    | val d => cases d <;> rfl
theorem wp_getC {p : Pl} {Q : Cell → Env → Store → Prop} : (getC p).wp e s Q ↔ (match p with
    | .s i => (match e.getD i .emp with
      | .own c => Q c e s
      | _ => False)
    | .k k => (match s.getD k none with
      | some c => Q c e s
      | none => False)) := by
  rw [wp_out]
  cases p with
  | s i =>
    unfold getC
    dsimp only
    cases e.getD i .emp <;> rfl
  | k k =>
    unfold getC
    dsimp only
    cases s.getD k none <;> rfl
theorem wp_setC {p : Pl} {c : Cell} : (setC p c).wp e s QU ↔ (match p with
    | .s i => QU () (e.set i (.own c)) s
    | .k k => QU () e (s.set k (some c))) := by
  rw [wp_out]
  cases p <;> rfl
theorem wp_newC {c : Cell} : (newC c).wp e s QD ↔ QD (.ref s.length) e (s ++ [some c]) := by
  rw [wp_out]
  rfl
end
/-- what a call gives -/
def COut.wp (r : COut) (Q : D → Store → Prop) : Prop := ∃ d s, r = .ok d s ∧ Q d s
theorem wp_run {A : Api} {key : Str × Str} {ds : List D} {e : Env} {s : Store} {Q : D → Env → Store → Prop} : (A.run key ds).wp e s Q ↔ (A.call key ds s).wp fun d s => Q d e s := by
  rw [wp_out]
  unfold Api.run COut.wp
  cases A.call key ds s with
  | ok d s' => exact ⟨fun q => ⟨d, s', rfl, q⟩, fun ⟨_, _, h, q⟩ => (by cases h; exact q)⟩
  | rz x s' => exact ⟨False.elim, fun ⟨_, _, h, _⟩ => (nomatch h)⟩
  | bad => exact ⟨False.elim, fun ⟨_, _, h, _⟩ => (nomatch h)⟩
theorem cmp_eq_int {a b : Int} : cmpV .eq (.d (.int a)) (.d (.int b)) = some (decide (a = b)) := by
  show D.eq? (.int a) (.int b) = _
  unfold D.eq?
  rw [if_pos (by rfl)]
  congr 1
theorem cmp_ne_int {a b : Int} : cmpV .ne (.d (.int a)) (.d (.int b)) = some (decide (a ≠ b)) := by
  show (D.eq? (.int a) (.int b)).map _ = _
  have := cmp_eq_int (a := a) (b := b)
  have h2 : D.eq? (.int a) (.int b) = some (decide (a = b)) := this
  rw [h2]
  simp
theorem cmp_lt_int {a b : Int} : cmpV .lt (.d (.int a)) (.d (.int b)) = some (decide (a < b)) := rfl
theorem cmp_le_int {a b : Int} : cmpV .le (.d (.int a)) (.d (.int b)) = some (decide (a ≤ b)) := rfl
theorem cmp_gt_int {a b : Int} : cmpV .gt (.d (.int a)) (.d (.int b)) = some (decide (b < a)) := rfl
theorem cmp_ge_int {a b : Int} : cmpV .ge (.d (.int a)) (.d (.int b)) = some (decide (b ≤ a)) := rfl
def MulOk (i j : Int) : Prop := i.natAbs.log2 + j.natAbs.log2 < 1000000
def DivOk (j : Int) : Prop := 0 < j ∧ j.natAbs.log2 < 9000
theorem bop_add_int {i j : Int} : bop .add (.d (.int i)) (.d (.int j)) = some (.int (i + j)) := rfl
theorem bop_sub_int {i j : Int} : bop .sub (.d (.int i)) (.d (.int j)) = some (.int (i - j)) := rfl
theorem bop_mul_ex {i j : Int} {P : D → Prop} : (∃ a, bop .mul (.d (.int i)) (.d (.int j)) = some a ∧ P a) ↔ MulOk i j ∧ P (.int (i * j)) := by
  show (∃ a, (iOp .mul i j).map D.int = some a ∧ P a) ↔ _
  unfold iOp MulOk
  by_cases h : i.natAbs.log2 + j.natAbs.log2 < 1000000 <;> simp [h]
theorem bop_fdiv_ex {i j : Int} {P : D → Prop} : (∃ a, bop .fdiv (.d (.int i)) (.d (.int j)) = some a ∧ P a) ↔ DivOk j ∧ P (.int (i / j)) := by
  show (∃ a, (iOp .fdiv i j).map D.int = some a ∧ P a) ↔ _
  unfold iOp DivOk
  by_cases h : 0 < j ∧ j.natAbs.log2 < 9000 <;> simp [h]
theorem bop_mod_ex {i j : Int} {P : D → Prop} : (∃ a, bop .mod (.d (.int i)) (.d (.int j)) = some a ∧ P a) ↔ 0 < j ∧ P (.int (i % j)) := by
  show (∃ a, (iOp .mod i j).map D.int = some a ∧ P a) ↔ _
  unfold iOp
  by_cases h : 0 < j <;> simp [h]
theorem bop_pow_ex {i j : Int} {P : D → Prop} : (∃ a, bop .pow (.d (.int i)) (.d (.int j)) = some a ∧ P a) ↔ (0 ≤ j ∧ j ≤ 1000000 ∧ i.natAbs < 2 ^ 64) ∧ P (.int (i ^ j.toNat)) := by
  show (∃ a, (iOp .pow i j).map D.int = some a ∧ P a) ↔ _
  unfold iOp
  by_cases h : 0 ≤ j ∧ j ≤ 1000000 ∧ i.natAbs < 2 ^ 64 <;> simp [h]
theorem some_ex {α : Type} {x : α} {P : α → Prop} : (∃ a, some x = some a ∧ P a) ↔ P x := by simp
/-- an item by an index that is known to lie within -/
theorem ix_nat {xs : List D} {i : Int} {d : D} {n : Nat} (hi : i = (n : Int)) (h : xs[n]? = some d) : L2.atI xs i = some d := by
  subst hi
  obtain ⟨hl, _⟩ := List.getElem?_eq_some_iff.mp h
  unfold L2.atI L2.ixN
  have h0 : (0 : Int) ≤ (n : Int) := Int.natCast_nonneg n
  simp [hl]
  assumption
theorem ixV_cl {xs : List D} {i : Int} : ixV (.c (.lst xs)) i = L2.atI xs i := rfl
theorem ixV_dl {xs : List D} {i : Int} : ixV (.d (.lst xs)) i = L2.atI xs i := rfl
theorem ixV_dt {xs : List D} {i : Int} : ixV (.d (.tup xs)) i = L2.atI xs i := rfl
theorem at0 {a : D} {xs : List D} : L2.atI (a :: xs) 0 = some a := ix_nat (n := 0) rfl rfl
theorem at1 {a b : D} {xs : List D} : L2.atI (a :: b :: xs) 1 = some b := ix_nat (n := 1) rfl rfl
theorem at2 {a b c : D} {xs : List D} : L2.atI (a :: b :: c :: xs) 2 = some c := ix_nat (n := 2) rfl rfl
theorem at3 {a b c d : D} {xs : List D} : L2.atI (a :: b :: c :: d :: xs) 3 = some d := ix_nat (n := 3) rfl rfl
theorem at4 {a b c d f : D} {xs : List D} : L2.atI (a :: b :: c :: d :: f :: xs) 4 = some f := ix_nat (n := 4) rfl rfl
theorem ixN_nat {n j : Nat} (h : j < n) : L2.ixN n (j : Int) = some j := by
  unfold L2.ixN
  have h0 : (0 : Int) ≤ (j : Int) := Int.natCast_nonneg j
  simp [h]
theorem ixn0 {a : D} {xs : List D} : L2.ixN (a :: xs).length 0 = some 0 := ixN_nat (j := 0) (by simp)
theorem ixn1 {a b : D} {xs : List D} : L2.ixN (a :: b :: xs).length 1 = some 1 := ixN_nat (j := 1) (by simp)
theorem ixn2 {a b c : D} {xs : List D} : L2.ixN (a :: b :: c :: xs).length 2 = some 2 := ixN_nat (j := 2) (by simp)
theorem ixn3 {a b c d : D} {xs : List D} : L2.ixN (a :: b :: c :: d :: xs).length 3 = some 3 := ixN_nat (j := 3) (by simp)
theorem ixn4 {a b c d f : D} {xs : List D} : L2.ixN (a :: b :: c :: d :: f :: xs).length 4 = some 4 := ixN_nat (j := 4) (by simp)
theorem len_cl {xs : List D} : btF .len [.c (.lst xs)] = some (.int xs.length) := rfl
theorem len_dl {xs : List D} : btF .len [.d (.lst xs)] = some (.int xs.length) := rfl
theorem len_dt {xs : List D} : btF .len [.d (.tup xs)] = some (.int xs.length) := rfl
theorem abs_i {i : Int} : btF .abs [.d (.int i)] = some (.int (if i < 0 then -i else i)) := rfl
theorem int_i {i : Int} : btF .int [.d (.int i)] = some (.int i) := rfl
theorem int_b {b : Bool} : btF .int [.d (.bl b)] = some (.int (if b then 1 else 0)) := rfl
theorem min_i {i j : Int} : btF .min2 [.d (.int i), .d (.int j)] = some (.int (if j < i then j else i)) := rfl
theorem max_i {i j : Int} : btF .max2 [.d (.int i), .d (.int j)] = some (.int (if j > i then j else i)) := rfl
theorem wp_cons {A : Api} {a r : Sm} {e : Env} {s : Store} {Q : Fl → Env → Store → Prop} : (ex A (.cons a r)).wp e s Q ↔ (ex A a).wp e s fun f e s => match f with
    | .next => (ex A r).wp e s Q
    | f => Q f e s := by
  show (M.bind (ex A a) _).wp e s Q ↔ _
  rw [wp_bind]
  constructor <;> intro h <;> refine wp_mono h fun f e s q => ?_
  · cases f <;> first | exact q | exact wp_pure.mp q
  · cases f <;> first | exact q | exact wp_pure.mpr q
theorem wp_nil {A : Api} {e : Env} {s : Store} {Q : Fl → Env → Store → Prop} : (ex A .nil).wp e s Q ↔ Q .next e s := wp_pure
theorem wp_ifs {A : Api} {t : Tm} {a b : Sm} {e : Env} {s : Store} {Q : Fl → Env → Store → Prop} : (ex A (.ifs t a b)).wp e s Q ↔ (et A t).wp e s fun k e s => (match k with
    | true => (ex A a).wp e s Q
    | false => (ex A b).wp e s Q) := by
  show (M.bind (et A t) _).wp e s Q ↔ _
  rw [wp_bind]
  constructor <;> intro h <;> refine wp_mono h fun f e s q => ?_
  · cases f <;> exact q
  · cases f <;> exact q
theorem wp_setIm {o : Option Nat} {f : Nat → M Fl} {e : Env} {s : Store} {Q : Fl → Env → Store → Prop} {j : Nat} (h : o = some j) : (match o with
      | some j => f j
      | none => .bad).wp e s Q ↔ (f j).wp e s Q := by
  subst h
  rfl
theorem dec_pr {p : Prop} [Decidable p] {x y : Prop} : (match decide p with
    | true => x
    | false => y) ↔ (p → x) ∧ (¬ p → y) := by
  by_cases h : p <;> simp [h]
theorem run_wp {A : Api} {f : Fn} {ds : List D} {s : Store} {Q : D → Store → Prop} (hi : f.init = none) (hl : ds.length = f.params) (h : (ex A f.body).wp (ds.map Slot.val ++ List.replicate (f.slots - f.params) .emp) s fun fl _ s => match fl with
    | .ret d => Q d s
    | .next => Q .non s
    | _ => False) : (f.run A ds s).wp Q := by
  obtain ⟨fl, e', s', h1, h2⟩ := h
  unfold Fn.run
  rw [hi]
  dsimp only
  rw [if_pos hl, h1]
  cases fl with
  | ret d => exact ⟨d, s', rfl, h2⟩
  | next => exact ⟨.non, s', rfl, h2⟩
  | brk => exact h2.elim
  | cont => exact h2.elim
/-- the store, one cell changed -/
theorem getD_set_same {S : Store} {k : Nat} {c : Option Cell} (h : k < S.length) : (S.set k c).getD k none = c := by
  rw [List.getD_eq_getElem?_getD, List.getElem?_set_self h]
  rfl
end Vm
namespace Vm
open PySem
section
variable {α β : Type} {A : Api} {e : Env} {s : Store} {QD : D → Env → Store → Prop} {QB : Bool → Env → Store → Prop} {QF : Fl → Env → Store → Prop} {QW : Wk → Env → Store → Prop} {QL : List D → Env → Store → Prop} {QH : List Hd → Env → Store → Prop}
/-- a handle of a term -/
def hw (A : Api) (t : Tm) (e : Env) (s : Store) (Q : Hd → Env → Store → Prop) : Prop := (ehd (ev A t) t).wp e s Q
theorem hw_v {i : Nat} {Q : Hd → Env → Store → Prop} : hw A (.v i) e s Q ↔ (match e.getD i .emp with
    | .emp => False
    | _ => Q (.s i) e s) := wp_hdV
theorem hw_of {t : Tm} {Q : Hd → Env → Store → Prop} (h : ∀ i, t ≠ .v i) : hw A t e s Q ↔ (ev A t).wp e s fun d e s => Q (.d d) e s := by
  have : ehd (ev A t) t = (ev A t).bind fun d => .pure (.d d) := by
    cases t <;> first | rfl | exact absurd rfl (h _)
  unfold hw
  rw [this, wp_bind]
  constructor <;> intro h <;> refine wp_mono h fun f e s q => ?_
  · exact wp_pure.mp q
  · exact wp_pure.mpr q
theorem hw_cst {d : D} {Q : Hd → Env → Store → Prop} : hw A (.cst d) e s Q ↔ Q (.d d) e s := by
  rw [hw_of (fun i h => by cases h)]
  exact wp_pure
theorem wp_cst {d : D} : (ev A (.cst d)).wp e s QD ↔ QD d e s := wp_pure
theorem wp_v {i : Nat} : (ev A (.v i)).wp e s QD ↔ (match e.getD i .emp with
    | .emp => False
    | .val d => QD d e s
    | .own c => QD c.toD (e.set i (.val c.toD)) s) := wp_readV
theorem wp_bin {o : Bop} {a b : Tm} : (ev A (.bin o a b)).wp e s QD ↔ hw A a e s fun x e s => hw A b e s fun y e s => (res x).wp e s fun x e s => (res y).wp e s fun y e s => ∃ d, bop o x y = some d ∧ QD d e s := by
  show (M.bind _ _).wp e s QD ↔ _
  simp only [wp_bind, wp_opt, hw]
theorem wp_cmp {o : Cop} {a b : Tm} : (ev A (.cmp o a b)).wp e s QD ↔ hw A a e s fun x e s => hw A b e s fun y e s => (res x).wp e s fun x e s => (res y).wp e s fun y e s => ∃ k, cmpV o x y = some k ∧ QD (.bl k) e s := by
  show (M.bind _ _).wp e s QD ↔ _
  simp only [wp_bind, wp_opt, hw, wp_pure]
theorem int_match {d : D} {f : Int → M β} {Q : β → Env → Store → Prop} : (match d with
    | .int i => f i
    | _ => M.bad).wp e s Q ↔ ∃ i, d = .int i ∧ (f i).wp e s Q := by
  cases d <;> simp [wp_bad]
theorem bl_match {d : D} {f : Bool → M β} {Q : β → Env → Store → Prop} : (match d with
    | .bl i => f i
    | _ => M.bad).wp e s Q ↔ ∃ i, d = .bl i ∧ (f i).wp e s Q := by
  cases d <;> simp [wp_bad]
theorem wp_neg {a : Tm} : (ev A (.neg a)).wp e s QD ↔ (ev A a).wp e s fun d e s => ∃ i, d = .int i ∧ QD (.int (-i)) e s := by
  show (M.bind _ _).wp e s QD ↔ _
  rw [wp_bind]
  constructor <;> intro h <;> refine wp_mono h fun f e s q => ?_
  · cases f <;> first | exact (wp_bad.mp q).elim | exact ⟨_, rfl, wp_pure.mp q⟩
  · obtain ⟨i, rfl, q⟩ := q
    exact wp_pure.mpr q
theorem wp_ix {a b : Tm} : (ev A (.ix a b)).wp e s QD ↔ hw A a e s fun h e s => (ev A b).wp e s fun i e s => ∃ n, i = .int n ∧ (res h).wp e s fun v e s => ∃ d, ixV v n = some d ∧ QD d e s := by
  show (M.bind _ _).wp e s QD ↔ _
  simp only [wp_bind, hw]
  constructor <;> intro h <;> refine wp_mono h fun f e s q => wp_mono q fun i e s q => ?_
  · cases i <;> first | exact (wp_bad.mp q).elim | skip
    refine ⟨_, rfl, ?_⟩
    simpa only [wp_bind, wp_opt] using q
  · obtain ⟨n, rfl, q⟩ := q
    simpa only [wp_bind, wp_opt] using q
theorem wp_fld {a : Tm} {f : Str} : (ev A (.fld a f)).wp e s QD ↔ hw A a e s fun h e s => (res h).wp e s fun v e s => (fldV A v f).wp e s QD := by
  show (M.bind _ _).wp e s QD ↔ _
  simp only [wp_bind, hw]
theorem wp_tval {a : Tm} : (et A (.tval a)).wp e s QB ↔ (ev A a).wp e s fun d e s => ∃ b, d = .bl b ∧ QB b e s := by
  show (M.bind _ _).wp e s QB ↔ _
  rw [wp_bind]
  constructor <;> intro h <;> refine wp_mono h fun f e s q => ?_
  · cases f <;> first | exact (wp_bad.mp q).elim | exact ⟨_, rfl, wp_pure.mp q⟩
  · obtain ⟨i, rfl, q⟩ := q
    exact wp_pure.mpr q
theorem wp_tand {a b : Tm} : (et A (.tand a b)).wp e s QB ↔ (et A a).wp e s fun k e s => (k = true → (et A b).wp e s QB) ∧ (k = false → QB false e s) := by
  show (M.bind _ _).wp e s QB ↔ _
  rw [wp_bind]
  constructor <;> intro h <;> refine wp_mono h fun f e s q => ?_
  · cases f
    · exact ⟨nofun, fun _ => wp_pure.mp q⟩
    · exact ⟨fun _ => q, nofun⟩
  · cases f
    · exact wp_pure.mpr (q.2 rfl)
    · exact q.1 rfl
theorem wp_tor {a b : Tm} : (et A (.tor a b)).wp e s QB ↔ (et A a).wp e s fun k e s => (k = true → QB true e s) ∧ (k = false → (et A b).wp e s QB) := by
  show (M.bind _ _).wp e s QB ↔ _
  rw [wp_bind]
  constructor <;> intro h <;> refine wp_mono h fun f e s q => ?_
  · cases f
    · exact ⟨nofun, fun _ => q⟩
    · exact ⟨fun _ => wp_pure.mp q, nofun⟩
  · cases f
    · exact q.2 rfl
    · exact wp_pure.mpr (q.1 rfl)
theorem wp_tnot {a : Tm} : (et A (.tnot a)).wp e s QB ↔ (et A a).wp e s fun k e s => QB (!k) e s := by
  show (M.bind _ _).wp e s QB ↔ _
  simp only [wp_bind, wp_pure]
theorem wp_ifs2 {t : Tm} {a b : Sm} : (ex A (.ifs t a b)).wp e s QF ↔ (et A t).wp e s fun k e s => (k = true → (ex A a).wp e s QF) ∧ (k = false → (ex A b).wp e s QF) := by
  show (M.bind _ _).wp e s QF ↔ _
  rw [wp_bind]
  constructor <;> intro h <;> refine wp_mono h fun f e s q => ?_
  · cases f
    · exact ⟨nofun, fun _ => q⟩
    · exact ⟨fun _ => q, nofun⟩
  · cases f
    · exact q.2 rfl
    · exact q.1 rfl
/-- handles of several terms -/
theorem wp_ehs_nil : (ehs A .nil).wp e s QH ↔ QH [] e s := wp_pure
theorem wp_ehs_cons {a r : Tm} : (ehs A (.cons a r)).wp e s QH ↔ hw A a e s fun x e s => (ehs A r).wp e s fun xs e s => QH (x :: xs) e s := by
  show (M.bind _ _).wp e s QH ↔ _
  simp only [wp_bind, wp_pure, hw]
theorem wp_el_nil : (el A .nil).wp e s QL ↔ QL [] e s := wp_pure
theorem wp_el_cons {a r : Tm} : (el A (.cons a r)).wp e s QL ↔ (ev A a).wp e s fun x e s => (el A r).wp e s fun xs e s => QL (x :: xs) e s := by
  show (M.bind _ _).wp e s QL ↔ _
  simp only [wp_bind, wp_pure]
theorem wp_ress_nil {Q : List Vw → Env → Store → Prop} : (ress []).wp e s Q ↔ Q [] e s := wp_pure
theorem wp_ress_cons {h : Hd} {hs : List Hd} {Q : List Vw → Env → Store → Prop} : (ress (h :: hs)).wp e s Q ↔ (res h).wp e s fun v e s => (ress hs).wp e s fun vs e s => Q (v :: vs) e s := by
  show (M.bind _ _).wp e s Q ↔ _
  simp only [wp_bind, wp_pure]
theorem wp_blt {b : Bt} {es : Tm} : (ev A (.blt b es)).wp e s QD ↔ (ehs A es).wp e s fun hs e s => (ress hs).wp e s fun vs e s => ∃ d, btF b vs = some d ∧ QD d e s := by
  show (M.bind _ _).wp e s QD ↔ _
  simp only [wp_bind, wp_opt]
theorem wp_call {f : Str} {es : Tm} : (ev A (.call f es)).wp e s QD ↔ A.has ("", f) = true ∧ (el A es).wp e s fun xs e s => (A.call ("", f) xs s).wp fun d s => QD d e s := by
  show (if A.has ("", f) = true then _ else _ : M D).wp e s QD ↔ _
  by_cases h : A.has ("", f) = true
  · rw [if_pos h, wp_bind]
    simp only [wp_run, h, true_and]
  · rw [if_neg h, wp_bad]
    exact ⟨False.elim, fun q => h q.1⟩
theorem wp_asg {i : Nat} {t : Tm} : (ex A (.asg (.nm i) t)).wp e s QF ↔ (ev A t).wp e s fun d e s => QF .next (e.set i (.val d)) s := by
  show (M.bind _ _).wp e s QF ↔ _
  rw [wp_bind]
  constructor <;> intro h <;> refine wp_mono h fun f e s q => ?_
  · have q2 : (M.bind (setV i f) fun _ => M.pure Fl.next).wp e s QF := q
    rw [wp_bind, wp_setV, wp_pure] at q2
    exact q2
  · show (M.bind (setV i f) fun _ => M.pure Fl.next).wp e s QF
    rw [wp_bind, wp_setV, wp_pure]
    exact q
theorem wp_ret {t : Tm} : (ex A (.ret t)).wp e s QF ↔ (ev A t).wp e s fun d e s => QF (.ret d) e s := by
  show (M.bind _ _).wp e s QF ↔ _
  simp only [wp_bind, wp_pure]
theorem wp_ex {t : Tm} : (ex A (.ex t)).wp e s QF ↔ (ev A t).wp e s fun d e s => QF .next e s := by
  show (M.bind _ _).wp e s QF ↔ _
  simp only [wp_bind, wp_pure]
theorem wp_own {i : Nat} {t : Tm} : (ex A (.own i t)).wp e s QF ↔ (ev A t).wp e s fun d e s => ∃ xs, d = .lst xs ∧ QF .next (e.set i (.own (.lst xs))) s := by
  show (M.bind _ _).wp e s QF ↔ _
  rw [wp_bind]
  constructor <;> intro h <;> refine wp_mono h fun f e s q => ?_
  · cases f <;> first | exact (wp_bad.mp q).elim | skip
    refine ⟨_, rfl, ?_⟩
    obtain ⟨a, e', s', h1, h2⟩ := q
    cases h1
    exact h2
  · obtain ⟨xs, rfl, q⟩ := q
    exact ⟨_, _, _, rfl, q⟩
theorem wp_setI {o i t : Tm} : (ex A (.setI o i t)).wp e s QF ↔ (ev A t).wp e s fun y e s => hw A o e s fun h e s => (ev A i).wp e s fun k e s => (plOf h).wp e s fun p e s => (getC p).wp e s fun c e s =>
    ∃ xs n j, c = .lst xs ∧ k = .int n ∧ L2.ixN xs.length n = some j ∧ (setC p (.lst (xs.set j y))).wp e s fun _ e s => QF .next e s := by
  show (M.bind _ _).wp e s QF ↔ _
  simp only [wp_bind, hw]
  constructor <;> intro h <;> refine wp_mono h fun y e s q => wp_mono q fun h e s q => wp_mono q fun k e s q => wp_mono q fun p e s q => wp_mono q fun c e s q => ?_
  · cases c with
    | ob _ _ => exact (wp_bad.mp q).elim
    | lst xs =>
      cases k with
      | int n =>
        dsimp only at q
        cases hj : L2.ixN xs.length n with
        | none =>
          rw [hj] at q
          exact (wp_bad.mp q).elim
        | some j =>
          rw [hj] at q
          refine ⟨xs, n, j, rfl, rfl, hj, ?_⟩
          simpa only [wp_bind, wp_pure] using q
      | _ => exact (wp_bad.mp q).elim
  · obtain ⟨xs, n, j, rfl, rfl, hj, q⟩ := q
    dsimp only
    rw [hj]
    simpa only [wp_bind, wp_pure] using q
end
theorem log_le {n k : Nat} (h : n < 2 ^ k) : n.log2 ≤ k := by
  by_cases h0 : n = 0
  · subst h0
    have : Nat.log2 0 = 0 := by decide
    omega
  · exact Nat.le_of_lt ((Nat.log2_lt h0).mpr h)
/-- within 2 ^ 100 -/
def Sm100 (i : Int) : Prop := -1267650600228229401496703205376 < i ∧ i < 1267650600228229401496703205376
theorem sm_log {i : Int} (h : Sm100 i) : i.natAbs.log2 ≤ 100 := log_le (by
  have e : (2 : Nat) ^ 100 = 1267650600228229401496703205376 := by decide
  obtain ⟨h1, h2⟩ := h
  omega)
theorem mul_ok {i j : Int} (hi : Sm100 i) (hj : Sm100 j) : MulOk i j := by
  have h1 := sm_log hi
  have h2 := sm_log hj
  unfold MulOk
  omega
theorem div_ok {j : Int} (h0 : 0 < j) (hj : Sm100 j) : DivOk j := ⟨h0, by have := sm_log hj; omega⟩
end Vm
namespace Vm
open PySem
section
variable {α β : Type} {A : Api} {e : Env} {s : Store} {QD : D → Env → Store → Prop} {QF : Fl → Env → Store → Prop} {QW : Wk → Env → Store → Prop}
/-- a loop over items, by an invariant -/
theorem for_inv {put : D → M Unit} {b : M Fl} {xs : List D} (I : Nat → Env → Store → Prop) (step : ∀ j x e s, xs[j]? = some x → I j e s → (put x).wp e s fun _ e s => b.wp e s fun f e s => match f with
      | .brk => QF .next e s
      | .ret d => QF (.ret d) e s
      | _ => I (j + 1) e s) (fin : ∀ e s, I xs.length e s → QF .next e s) : ∀ (n j : Nat) (e : Env) (s : Store), j + n = xs.length + 1 → 0 < n → I j e s → (forN (.fix xs) put b n j).wp e s QF
  | 0, j, e, s, _, h0, _ => absurd h0 (Nat.lt_irrefl 0)
  | n + 1, j, e, s, hl, _, hI => by
    cases hx : xs[j]? with
    | none =>
      have hj : j = xs.length := by
        have := List.getElem?_eq_none_iff.mp hx
        omega
      subst hj
      refine ⟨Fl.next, e, s, ?_, fin e s hI⟩
      show (match nxtW (.fix xs) xs.length s with
        | none => Out.bad
        | some none => Out.ok Fl.next e s
        | some (some x) => ((put x).bind fun _ => b.bind fun f => match f with
          | .brk => M.pure Fl.next
          | .ret d => M.pure (Fl.ret d)
          | _ => forN (.fix xs) put b n (xs.length + 1)) e s) = _
      rw [show nxtW (.fix xs) xs.length s = some none from congrArg some hx]
    | some x =>
      have hj : j < xs.length := (List.getElem?_eq_some_iff.mp hx).1
      have h1 := step j x e s hx hI
      have h2 : ((put x).bind fun _ => b.bind fun f => match f with
        | .brk => .pure .next
        | .ret d => .pure (.ret d)
        | _ => forN (.fix xs) put b n (j + 1)).wp e s QF := by
        rw [wp_bind]
        refine wp_mono h1 fun _ e s h => ?_
        rw [wp_bind]
        refine wp_mono h fun f e s h => ?_
        cases f with
        | next => exact for_inv I step fin n (j + 1) e s (by omega) (by omega) h
        | cont => exact for_inv I step fin n (j + 1) e s (by omega) (by omega) h
        | brk => exact wp_pure.mpr h
        | ret d => exact wp_pure.mpr h
      obtain ⟨f, e', s', h3, h4⟩ := h2
      refine ⟨f, e', s', ?_, h4⟩
      rw [← h3]
      show (match nxtW (.fix xs) j s with
        | none => Out.bad
        | some none => Out.ok Fl.next e s
        | some (some x) => ((put x).bind fun _ => b.bind fun f => match f with
          | .brk => M.pure Fl.next
          | .ret d => M.pure (Fl.ret d)
          | _ => forN (.fix xs) put b n (j + 1)) e s) = _
      rw [show nxtW (.fix xs) j s = some (some x) from congrArg some hx]
theorem wp_for {g : Tg} {it : Tm} {b : Sm} : (ex A (.for_ g it b)).wp e s QF ↔ (ei A it).wp e s fun wk e s => (forN wk (Tg.put g) (ex A b) (turns A.fuel wk) 0).wp e s QF := by
  show (M.bind _ _).wp e s QF ↔ _
  rw [wp_bind]
/-- for x in items -/
theorem for_fix {g : Tg} {it : Tm} {b : Sm} {xs : List D} (I : Nat → Env → Store → Prop) (h : (ei A it).wp e s fun wk e s => wk = .fix xs ∧ I 0 e s) (step : ∀ j x e s, xs[j]? = some x → I j e s → (Tg.put g x).wp e s fun _ e s => (ex A b).wp e s fun f e s => match f with
      | .brk => QF .next e s
      | .ret d => QF (.ret d) e s
      | _ => I (j + 1) e s) (fin : ∀ e s, I xs.length e s → QF .next e s) : (ex A (.for_ g it b)).wp e s QF := by
  rw [wp_for]
  refine wp_mono h fun wk e s ⟨hw, hI⟩ => ?_
  subst hw
  exact for_inv I step fin _ 0 e s (by show 0 + (xs.length + 1) = _; omega) (by show 0 < xs.length + 1; omega) hI
theorem wp_irng1 {a : Tm} : (ei A (.irng1 a)).wp e s QW ↔ (ev A a).wp e s fun d e s => ∃ n, d = .int n ∧ small62 n = true ∧ QW (.fix (irange 0 n)) e s := by
  show (M.bind _ _).wp e s QW ↔ _
  rw [wp_bind]
  constructor <;> intro h <;> refine wp_mono h fun f e s q => ?_
  · cases f with
    | int n =>
      dsimp only at q
      by_cases hn : small62 n = true
      · rw [if_pos hn] at q
        exact ⟨n, rfl, hn, wp_pure.mp q⟩
      · rw [if_neg hn] at q
        exact (wp_bad.mp q).elim
    | _ => exact (wp_bad.mp q).elim
  · obtain ⟨n, rfl, hn, q⟩ := q
    dsimp only
    rw [if_pos hn]
    exact wp_pure.mpr q
theorem wp_irng2 {a b : Tm} : (ei A (.irng2 a b)).wp e s QW ↔ (ev A a).wp e s fun d e s => (ev A b).wp e s fun f e s => ∃ i j, d = .int i ∧ f = .int j ∧ small62 i = true ∧ small62 j = true ∧ QW (.fix (irange i j)) e s := by
  show (M.bind _ _).wp e s QW ↔ _
  simp only [wp_bind]
  constructor <;> intro h <;> refine wp_mono h fun d e s q => wp_mono q fun f e s q => ?_
  · cases d with
    | int i =>
      cases f with
      | int j =>
        dsimp only at q
        by_cases hn : (small62 i && small62 j) = true
        · rw [if_pos hn] at q
          have := Bool.and_eq_true_iff.mp hn
          exact ⟨i, j, rfl, rfl, this.1, this.2, wp_pure.mp q⟩
        · rw [if_neg hn] at q
          exact (wp_bad.mp q).elim
      | _ => exact (wp_bad.mp q).elim
    | _ => exact (wp_bad.mp q).elim
  · obtain ⟨i, j, rfl, rfl, h1, h2, q⟩ := q
    dsimp only
    rw [if_pos (by rw [h1, h2]; rfl)]
    exact wp_pure.mpr q
theorem irange_get {lo hi : Int} {j : Nat} {x : D} (h : (irange lo hi)[j]? = some x) : x = .int (lo + j) ∧ (j : Int) < hi - lo := by
  unfold irange at h
  rw [List.getElem?_map] at h
  by_cases hj : j < (hi - lo).toNat
  · rw [List.getElem?_range hj] at h
    have h2 := Option.some.inj h
    exact ⟨h2.symm, by omega⟩
  · rw [List.getElem?_eq_none (by rw [List.length_range]; omega)] at h
    cases h
theorem irange_len {lo hi : Int} : (irange lo hi).length = (hi - lo).toNat := by
  unfold irange
  simp
theorem wp_put_nm {i : Nat} {d : D} {Q : Unit → Env → Store → Prop} : (Tg.put (.nm i) d).wp e s Q ↔ Q () (e.set i (.val d)) s := wp_setV
theorem wipeE_len (e : Env) : ∀ is : List Nat, (wipeE e is).length = e.length
  | [] => rfl
  | i :: is => by
    show ((wipeE e is).set i _).length = _
    rw [List.length_set, wipeE_len e is]
theorem wipe_get (e : Env) (j : Nat) : ∀ is : List Nat, (wipeE e is)[j]? = if j ∈ is ∧ j < e.length then some .emp else e[j]?
  | [] => by simp [wipeE]
  | i :: is => by
    show ((wipeE e is).set i .emp)[j]? = _
    rw [List.getElem?_set, wipeE_len, wipe_get e j is]
    by_cases h : i = j
    · subst h
      by_cases hl : i < e.length
      · simp [hl]
      · simp [hl]
    · have : ¬ j = i := fun z => h z.symm
      simp [h, this]
theorem backE_get (e0 e : Env) (j : Nat) : ∀ is : List Nat, (backE e0 e is)[j]? = if j ∈ is ∧ j < e.length then some (e0.getD j .emp) else e[j]?
  | [] => by simp [backE]
  | i :: is => by
    have hl : ∀ is : List Nat, (backE e0 e is).length = e.length := by
      intro is
      induction is with
      | nil => rfl
      | cons a r ih =>
        show ((backE e0 e r).set a _).length = _
        rw [List.length_set, ih]
    show ((backE e0 e is).set i (e0.getD i .emp))[j]? = _
    rw [List.getElem?_set, hl, backE_get e0 e j is]
    by_cases h : i = j
    · subst h
      by_cases hl : i < e.length
      · simp [hl]
      · simp [hl]
    · have : ¬ j = i := fun z => h z.symm
      simp [h, this]
theorem back_wipe (e : Env) (own : List Nat) : backE e (wipeE e own) own = e := by
  apply List.ext_getElem?
  intro j
  rw [backE_get, wipe_get, wipeE_len]
  by_cases h : j ∈ own ∧ j < e.length
  · rw [if_pos h, List.getD_eq_getElem?_getD, List.getElem?_eq_getElem h.2]
    rfl
  · rw [if_neg h, if_neg h]
/-- turns that change nothing but the block's own slots -/
theorem lc_turn {own : List Nat} {put : D → M Unit} {tst : M Bool} {elt : M D} {xs : List D} {t : D → Bool} {f : D → D} {e : Env} {s : Store}
    (h : ∀ x ∈ xs, ∃ e1, put x (wipeE e own) s = .ok () e1 s ∧ wipeE e1 own = wipeE e own ∧ tst e1 s = .ok (t x) e1 s ∧ (t x = true → elt e1 s = .ok (f x) e1 s)) (hz : xs.length ≤ 2 ^ 24) :
    ∀ (n j : Nat) (acc : List D) (e0 : Env), wipeE e0 own = wipeE e own → acc.length ≤ j → j + n = xs.length + 1 → 0 < n → lcN (.fix xs) own put tst elt n j acc e0 s = .ok (acc ++ ((xs.drop j).filter t).map f) (wipeE e own) s
  | 0, j, acc, e0, _, _, _, h0 => absurd h0 (Nat.lt_irrefl 0)
  | n + 1, j, acc, e0, he, ha, hl, _ => by
    show (match nxtW (.fix xs) j s with
      | none => Out.bad
      | some none => .ok acc (wipeE e0 own) s
      | some (some x) => ((put x).bind fun _ => tst.bind fun b => match b with
        | true => elt.bind fun y => if acc.length < 2 ^ 24 then lcN (.fix xs) own put tst elt n (j + 1) (acc ++ [y]) else .bad
        | false => lcN (.fix xs) own put tst elt n (j + 1) acc) (wipeE e0 own) s) = _
    cases hx : xs[j]? with
    | none =>
      have hj := List.getElem?_eq_none_iff.mp hx
      rw [show nxtW (.fix xs) j s = some none from congrArg some hx]
      dsimp only
      rw [List.drop_eq_nil_of_le hj, he]
      simp
    | some x =>
      obtain ⟨hj, hxe⟩ := List.getElem?_eq_some_iff.mp hx
      obtain ⟨e1, p1, p2, p3, p4⟩ := h x (List.mem_of_getElem? hx)
      rw [show nxtW (.fix xs) j s = some (some x) from congrArg some hx]
      dsimp only
      rw [he]
      have hd : xs.drop j = x :: xs.drop (j + 1) := by
        rw [← hxe]
        exact List.drop_eq_getElem_cons hj
      unfold M.bind
      rw [p1]
      dsimp only
      rw [p3]
      dsimp only
      rw [hd, List.filter_cons]
      cases ht : t x with
      | true =>
        dsimp only
        rw [p4 ht]
        dsimp only
        rw [if_pos (by omega)]
        rw [lc_turn h hz n (j + 1) (acc ++ [f x]) e1 p2 (by simp; omega) (by omega) (by omega)]
        simp
      | false =>
        dsimp only
        rw [lc_turn h hz n (j + 1) acc e1 p2 (by omega) (by omega) (by omega)]
        simp
theorem lc_run {own : List Nat} {tg : Tg} {it ts elt : Tm} {t : D → Bool} {f : D → D} {xs : List D} (hs : tg.slots.all own.contains = true) (hz : xs.length ≤ 2 ^ 24)
    (h : (ei A it).wp e s fun wk e s => wk = .fix xs ∧ noOwn e own = true ∧ (∀ x ∈ xs, ∃ e1, Tg.put tg x (wipeE e own) s = .ok () e1 s ∧ wipeE e1 own = wipeE e own ∧ et A ts e1 s = .ok (t x) e1 s ∧ (t x = true → ev A elt e1 s = .ok (f x) e1 s)) ∧ QD (.lst ((xs.filter t).map f)) e s) :
    (ev A (.lc own tg it ts elt)).wp e s QD := by
  refine wp_bind.mpr ?_
  refine wp_mono h fun wk e s ⟨hw, no, hx, q⟩ => ?_
  subst hw
  refine ⟨_, _, _, ?_, q⟩
  have hr := lc_turn (own := own) (put := Tg.put tg) (tst := et A ts) (elt := ev A elt) hx hz (xs.length + 1) 0 [] e rfl (by simp) (by omega) (by omega)
  show (if (noOwn e own && tg.slots.all own.contains) = true then (match lcN (.fix xs) own (Tg.put tg) (et A ts) (ev A elt) (xs.length + 1) 0 [] e s with
    | .ok ys e' s' => .ok (D.lst ys) (backE e e' own) s'
    | _ => .bad) else Out.bad) = _
  rw [if_pos (by rw [no, hs]; rfl), hr]
  dsimp only
  rw [back_wipe]
  simp
end
end Vm
namespace Vm
open PySem
section
variable {α β : Type} {A : Api} {e : Env} {s : Store} {QD : D → Env → Store → Prop} {QB : Bool → Env → Store → Prop} {QF : Fl → Env → Store → Prop} {QL : List D → Env → Store → Prop}
theorem wp_iff {m : M α} {Q Q' : α → Env → Store → Prop} (k : ∀ a e s, Q a e s ↔ Q' a e s) : m.wp e s Q ↔ m.wp e s Q' := ⟨fun h => wp_mono h fun a e s => (k a e s).mp, fun h => wp_mono h fun a e s => (k a e s).mpr⟩
theorem wp_lst {es : Tm} : (ev A (.lst es)).wp e s QD ↔ (el A es).wp e s fun xs e s => xs.length ≤ 2 ^ 24 ∧ QD (.lst xs) e s := by
  refine wp_bind.trans (wp_iff fun xs e s => ?_)
  by_cases h : xs.length ≤ 2 ^ 24
  · rw [if_pos h, wp_pure]
    exact ⟨fun q => ⟨h, q⟩, fun q => q.2⟩
  · rw [if_neg h, wp_bad]
    exact ⟨False.elim, fun q => h q.1⟩
theorem wp_tup {es : Tm} : (ev A (.tup es)).wp e s QD ↔ (el A es).wp e s fun xs e s => xs.length ≤ 2 ^ 24 ∧ QD (.tup xs) e s := by
  refine wp_bind.trans (wp_iff fun xs e s => ?_)
  by_cases h : xs.length ≤ 2 ^ 24
  · rw [if_pos h, wp_pure]
    exact ⟨fun q => ⟨h, q⟩, fun q => q.2⟩
  · rw [if_neg h, wp_bad]
    exact ⟨False.elim, fun q => h q.1⟩
theorem wp_cell {a : Tm} : (ev A (.cell a)).wp e s QD ↔ (ev A a).wp e s fun d e s => ∃ xs, d = .lst xs ∧ QD (.ref s.length) e (s ++ [some (.lst xs)]) := by
  refine wp_bind.trans (wp_iff fun d e s => ?_)
  cases d with
  | lst xs =>
    dsimp only
    rw [wp_newC]
    exact ⟨fun q => ⟨xs, rfl, q⟩, fun ⟨_, h, q⟩ => (by cases h; exact q)⟩
  | _ => exact ⟨fun q => (wp_bad.mp q).elim, fun ⟨_, h, _⟩ => (nomatch h)⟩
theorem wp_mk {c : Str} {es : Tm} : (ev A (.mk c es)).wp e s QD ↔ A.has (c, "__init__") = true ∧ (el A es).wp e s fun xs e s => (A.call (c, "__init__") xs s).wp fun d s => QD d e s := by
  show (if A.has (c, "__init__") = true then _ else _ : M D).wp e s QD ↔ _
  by_cases h : A.has (c, "__init__") = true
  · rw [if_pos h, wp_bind]
    simp only [wp_run, h, true_and]
  · rw [if_neg h, wp_bad]
    exact ⟨False.elim, fun q => h q.1⟩
theorem wp_meth {m : Str} {o es : Tm} : (ev A (.meth m o es)).wp e s QD ↔ (ev A o).wp e s fun d e s => (resD d).wp e s fun v e s => ∃ c, gate A m v = some c ∧ (el A es).wp e s fun xs e s => (A.call (c, m) (d :: xs) s).wp fun d s => QD d e s := by
  refine wp_bind.trans (wp_iff fun d e s => wp_bind.trans (wp_iff fun v e s => wp_bind.trans ?_))
  rw [wp_opt]
  refine exists_congr fun c => and_congr_right fun _ => wp_bind.trans (wp_iff fun xs e s => ?_)
  exact wp_run
theorem wp_isLst {h : Hd} {Q : Unit → Env → Store → Prop} : (isLst h).wp e s Q ↔ (res h).wp e s fun v e s => ∃ xs, v = .c (.lst xs) ∧ Q () e s := by
  refine wp_bind.trans (wp_iff fun v e s => ?_)
  cases v with
  | d d => exact ⟨fun q => (wp_bad.mp q).elim, fun ⟨_, h, _⟩ => (nomatch h)⟩
  | c c =>
    cases c with
    | lst xs => exact wp_pure.trans ⟨fun q => ⟨xs, rfl, q⟩, fun ⟨_, _, q⟩ => q⟩
    | ob _ _ => exact ⟨fun q => (wp_bad.mp q).elim, fun ⟨_, h, _⟩ => (nomatch h)⟩
theorem wp_mut {m : Mt} {o es : Tm} : (ev A (.mut m o es)).wp e s QD ↔ hw A o e s fun h e s => (isLst h).wp e s fun _ e s => (el A es).wp e s fun ds e s => (mtArgs m ds).wp e s fun ds e s => (plOf h).wp e s fun p e s => (getC p).wp e s fun c e s =>
    ∃ xs, c = .lst xs ∧ ∃ r, mtF m xs ds = some r ∧ (setC p (.lst r.2)).wp e s fun _ e s => QD r.1 e s := by
  refine wp_bind.trans (wp_iff fun h e s => wp_bind.trans (wp_iff fun _ e s => wp_bind.trans (wp_iff fun ds e s => wp_bind.trans (wp_iff fun ds e s => wp_bind.trans (wp_iff fun p e s => wp_bind.trans (wp_iff fun c e s => ?_))))))
  cases c with
  | ob _ _ => exact ⟨fun q => (wp_bad.mp q).elim, fun ⟨_, h, _⟩ => (nomatch h)⟩
  | lst xs =>
    dsimp only
    rw [wp_bind, wp_opt]
    constructor
    · rintro ⟨r, hr, q⟩
      rw [wp_bind] at q
      exact ⟨xs, rfl, r, hr, wp_mono q fun _ _ _ z => wp_pure.mp z⟩
    · rintro ⟨_, h, r, hr, q⟩
      cases h
      refine ⟨r, hr, ?_⟩
      rw [wp_bind]
      exact wp_mono q fun _ _ _ z => wp_pure.mpr z
theorem wp_mtArgs {m : Mt} {ds : List D} (h : m ≠ .extend) : (mtArgs m ds).wp e s QL ↔ QL ds e s := by
  cases m <;> first | exact wp_pure | exact absurd rfl h
theorem wp_cnt {o a : Tm} : (ev A (.cnt o a)).wp e s QD ↔ hw A o e s fun h e s => (res h).wp e s fun v e s => ∃ k, (v.items.map fun p => p.1) = some k ∧ hw A a e s fun g e s => (res h).wp e s fun v e s => (res g).wp e s fun x e s => ∃ d, bCount k v x = some d ∧ QD d e s := by
  refine wp_bind.trans (wp_iff fun h e s => wp_bind.trans (wp_iff fun v e s => wp_bind.trans ?_))
  rw [wp_opt]
  exact exists_congr fun k => and_congr_right fun _ => wp_bind.trans (wp_iff fun g e s => wp_bind.trans (wp_iff fun v e s => wp_bind.trans (wp_iff fun x e s => wp_opt)))
theorem wp_setA {o t : Tm} {f : Str} : (ex A (.setA o f t)).wp e s QF ↔ (ev A t).wp e s fun y e s => hw A o e s fun h e s => (plOf h).wp e s fun p e s => (getC p).wp e s fun c e s =>
    ∃ c' fs, c = .ob c' fs ∧ (decide (fs.length < 1000) && A.fld c' f) = true ∧ (setC p (.ob c' (putD f y fs))).wp e s fun _ e s => QF .next e s := by
  refine wp_bind.trans (wp_iff fun y e s => wp_bind.trans (wp_iff fun h e s => wp_bind.trans (wp_iff fun p e s => wp_bind.trans (wp_iff fun c e s => ?_))))
  cases c with
  | lst _ => exact ⟨fun q => (wp_bad.mp q).elim, fun ⟨_, _, h, _⟩ => (nomatch h)⟩
  | ob c fs =>
    dsimp only
    by_cases hc : (decide (fs.length < 1000) && A.fld c f) = true
    · rw [if_pos hc, wp_bind]
      constructor
      · intro q
        exact ⟨c, fs, rfl, hc, wp_mono q fun _ _ _ z => wp_pure.mp z⟩
      · rintro ⟨_, _, h, _, q⟩
        cases h
        exact wp_mono q fun _ _ _ z => wp_pure.mpr z
    · rw [if_neg hc, wp_bad]
      constructor
      · exact False.elim
      · rintro ⟨_, _, h, h2, _⟩
        cases h
        exact hc h2
theorem wp_iseq {a : Tm} {QW : Wk → Env → Store → Prop} : (ei A (.iseq a)).wp e s QW ↔ (ev A a).wp e s fun d e s => (match d with
    | .lst xs => QW (.fix xs) e s
    | .tup xs => QW (.fix xs) e s
    | .scr ns => QW (.fix (ns.map D.int)) e s
    | .ref k => cellV s k fun v => (match v with
      | .c (.lst _) => QW (.cell k) e s
      | _ => False)
    | _ => False) := by
  refine wp_bind.trans (wp_iff fun d e s => ?_)
  cases d with
  | lst xs => exact wp_pure
  | tup xs => exact wp_pure
  | scr xs => exact wp_pure
  | ref k =>
    refine wp_bind.trans (wp_resD.trans ?_)
    unfold cellV
    dsimp only
    cases hk : s.getD k none with
    | none => exact Iff.rfl
    | some c =>
      cases c with
      | lst xs => exact wp_pure
      | ob _ _ => exact wp_bad
  | _ => exact wp_bad
end
end Vm
namespace Vm
open PySem
def b__law_take_0 : Sm := .cons (.setI (.v 0) (.cst (.int (0))) (.v 2)) .nil
def b__law_take_1 : Sm := .cons (.setI (.v 0) (.cst (.int (1))) (.bin .mod (.blt .int (.cons (.bin .add (.bin .add (.bin .mul (.ix (.v 0) (.cst (.int (1)))) (.cst (.int (48271)))) (.v 2)) (.cst (.int (1)))) .nil)) (.cst (.int (2147483399))))) .nil
def b__law_take_2 : Sm := .cons (.ifs (.tval (.cmp .ge (.v 2) (.bin .pow (.cst (.int (10))) (.cst (.int (18)))))) b__law_take_0 b__law_take_1) .nil
def b__law_take_3 : Sm := .cons (.setI (.v 0) (.cst (.int (3))) (.bin .add (.ix (.v 0) (.cst (.int (3)))) (.cst (.int (1))))) b__law_take_2
def b__law_take_4 : Sm := .cons (.asg (.nm 2) (.blt .abs (.cons (.ix (.ix (.v 0) (.cst (.int (4)))) (.ix (.v 0) (.cst (.int (3))))) .nil))) b__law_take_3
def b__law_take_5 : Sm := .cons (.ret (.v 3)) .nil
def b__law_take_6 : Sm := .cons (.setI (.v 0) (.cst (.int (0))) (.bin .fdiv (.ix (.v 0) (.cst (.int (0)))) (.v 1))) b__law_take_5
def b__law_take_7 : Sm := .cons (.asg (.nm 3) (.bin .mod (.blt .int (.cons (.ix (.v 0) (.cst (.int (0)))) .nil)) (.v 1))) b__law_take_6
def b__law_take_8 : Sm := .cons (.ret (.bin .mod (.blt .int (.cons (.bin .fdiv (.v 5) (.cst (.int (8)))) .nil)) (.v 1))) .nil
def b__law_take_9 : Sm := .cons (.setI (.v 0) (.cst (.int (1))) (.v 5)) b__law_take_8
def b__law_take_10 : Sm := .cons (.asg (.nm 5) (.bin .mod (.blt .int (.cons (.bin .add (.bin .mul (.v 5) (.v 5)) (.bin .fdiv (.v 5) (.cst (.int (97))))) .nil)) (.cst (.int (2147483629))))) b__law_take_9
def b__law_take_11 : Sm := .cons (.asg (.nm 5) (.bin .mod (.blt .int (.cons (.bin .add (.bin .add (.bin .mul (.v 5) (.v 5)) (.bin .mul (.v 4) (.cst (.int (3571))))) (.cst (.int (40692)))) .nil)) (.cst (.int (2147483399))))) b__law_take_10
def b__law_take_12 : Sm := .cons (.asg (.nm 5) (.ix (.v 0) (.cst (.int (1))))) b__law_take_11
def b__law_take_13 : Sm := .cons (.setI (.v 0) (.cst (.int (2))) (.v 4)) b__law_take_12
def b__law_take_14 : Sm := .cons (.asg (.nm 4) (.bin .add (.ix (.v 0) (.cst (.int (2)))) (.cst (.int (1))))) b__law_take_13
def b__law_take_15 : Sm := .cons (.ifs (.tval (.cmp .gt (.ix (.v 0) (.cst (.int (0)))) (.cst (.int (0))))) b__law_take_7 .nil) b__law_take_14
def b__law_take_16 : Sm := .cons (.ifs (.tand (.tval (.cmp .eq (.ix (.v 0) (.cst (.int (0)))) (.cst (.int (0))))) (.tval (.cmp .lt (.ix (.v 0) (.cst (.int (3)))) (.blt .len (.cons (.ix (.v 0) (.cst (.int (4)))) .nil))))) b__law_take_4 .nil) b__law_take_15
def f__law_take : Fn := ⟨2, 6, b__law_take_16, none⟩
def pool (a b c i : Int) (xs : List Int) : Cell := .lst [.int a, .int b, .int c, .int i, .lst (xs.map .int)]
/-- what stands in a pool: b, c, i within bounds -/
structure PoolOk (N : Int) (a b c i : Int) : Prop where
  a0 : 0 ≤ a
  b0 : 0 ≤ b
  b1 : b < 2147483648
  c0 : 0 ≤ c
  c1 : c ≤ N
  i0 : 0 ≤ i
def TakeQ (k : Nat) (S : Store) (N l : Int) (r : D) (S' : Store) : Prop := ∃ n a b c i, ∃ xs : List Int, r = .int n ∧ 0 ≤ n ∧ n < l ∧ S' = S.set k (some (pool a b c i xs)) ∧ PoolOk (N + 1) a b c i
theorem take_tail {A : Api} {k : Nat} {S : Store} {N a b c i l : Int} {xs : List Int} {x : Slot} (hS : S.getD k none = some (pool a b c i xs)) (hk : k < S.length) (p : PoolOk N a b c i) (hN : N < 1000000000) (hl : 1 ≤ l) (hl2 : Sm100 l) :
    (ex A b__law_take_15).wp [.val (.ref k), .val (.int l), x, .emp, .emp, .emp] S fun f _ S' => ∃ d, f = .ret d ∧ TakeQ k S N l d S' := by
  have hG : ∀ c, (S.set k c).getD k none = c := fun c => getD_set_same hk
  obtain ⟨a0, b0, b1, c0, c1, i0⟩ := p
  simp only [wp_cons, wp_nil, wp_ifs2, wp_tand, wp_tor, wp_tnot, wp_tval, wp_cmp, wp_ix, wp_bin, wp_neg, wp_fld, hw_v, hw_cst, hw_of, ne_eq, reduceCtorEq, not_false_eq_true, implies_true, forall_const, wp_cst, wp_v, wp_res, wp_resD, wp_blt, wp_ehs_cons, wp_ehs_nil, wp_ress_cons, wp_ress_nil, wp_asg, wp_setI, wp_ret, wp_ex, wp_own, wp_plOf, wp_getC, wp_setC, wp_call, wp_el_cons, wp_el_nil, List.getD_cons_zero, List.getD_cons_succ, List.set_cons_zero, List.set_cons_succ, cellV, ixV_cl, ixV_dl, ixV_dt, at0, at1, at2, at3, at4, ixn0, ixn1, ixn2, ixn3, ixn4, cmp_eq_int, cmp_ne_int, cmp_lt_int, cmp_le_int, cmp_gt_int, cmp_ge_int, bop_add_int, bop_sub_int, bop_mul_ex, bop_mod_ex, bop_fdiv_ex, bop_pow_ex, some_ex, len_cl, len_dl, len_dt, abs_i, int_i, int_b, min_i, max_i, List.length_map, D.int.injEq, D.bl.injEq, D.lst.injEq, Cell.lst.injEq, Option.some.injEq, exists_eq_left', exists_and_left, exists_eq_left, exists_and_right, decide_eq_true_eq, decide_eq_false_iff_not, false_implies, true_implies, and_true, true_and,  b__law_take_15, hS, pool]
  refine ⟨fun ha => ?_, fun ha => ?_⟩
  · simp only [wp_cons, wp_nil, wp_ifs2, wp_tand, wp_tor, wp_tnot, wp_tval, wp_cmp, wp_ix, wp_bin, wp_neg, wp_fld, hw_v, hw_cst, hw_of, ne_eq, reduceCtorEq, not_false_eq_true, implies_true, forall_const, wp_cst, wp_v, wp_res, wp_resD, wp_blt, wp_ehs_cons, wp_ehs_nil, wp_ress_cons, wp_ress_nil, wp_asg, wp_setI, wp_ret, wp_ex, wp_own, wp_plOf, wp_getC, wp_setC, wp_call, wp_el_cons, wp_el_nil, List.getD_cons_zero, List.getD_cons_succ, List.set_cons_zero, List.set_cons_succ, cellV, ixV_cl, ixV_dl, ixV_dt, at0, at1, at2, at3, at4, ixn0, ixn1, ixn2, ixn3, ixn4, cmp_eq_int, cmp_ne_int, cmp_lt_int, cmp_le_int, cmp_gt_int, cmp_ge_int, bop_add_int, bop_sub_int, bop_mul_ex, bop_mod_ex, bop_fdiv_ex, bop_pow_ex, some_ex, len_cl, len_dl, len_dt, abs_i, int_i, int_b, min_i, max_i, List.length_map, D.int.injEq, D.bl.injEq, D.lst.injEq, Cell.lst.injEq, Option.some.injEq, exists_eq_left', exists_and_left, exists_eq_left, exists_and_right, decide_eq_true_eq, decide_eq_false_iff_not, false_implies, true_implies, and_true, true_and,  b__law_take_7, hS, pool]
    refine ⟨by omega, ?_⟩
    simp only [wp_cons, wp_nil, wp_ifs2, wp_tand, wp_tor, wp_tnot, wp_tval, wp_cmp, wp_ix, wp_bin, wp_neg, wp_fld, hw_v, hw_cst, hw_of, ne_eq, reduceCtorEq, not_false_eq_true, implies_true, forall_const, wp_cst, wp_v, wp_res, wp_resD, wp_blt, wp_ehs_cons, wp_ehs_nil, wp_ress_cons, wp_ress_nil, wp_asg, wp_setI, wp_ret, wp_ex, wp_own, wp_plOf, wp_getC, wp_setC, wp_call, wp_el_cons, wp_el_nil, List.getD_cons_zero, List.getD_cons_succ, List.set_cons_zero, List.set_cons_succ, cellV, ixV_cl, ixV_dl, ixV_dt, at0, at1, at2, at3, at4, ixn0, ixn1, ixn2, ixn3, ixn4, cmp_eq_int, cmp_ne_int, cmp_lt_int, cmp_le_int, cmp_gt_int, cmp_ge_int, bop_add_int, bop_sub_int, bop_mul_ex, bop_mod_ex, bop_fdiv_ex, bop_pow_ex, some_ex, len_cl, len_dl, len_dt, abs_i, int_i, int_b, min_i, max_i, List.length_map, D.int.injEq, D.bl.injEq, D.lst.injEq, Cell.lst.injEq, Option.some.injEq, exists_eq_left', exists_and_left, exists_eq_left, exists_and_right, decide_eq_true_eq, decide_eq_false_iff_not, false_implies, true_implies, and_true, true_and,  b__law_take_6, hS, pool]
    refine ⟨div_ok (by omega) hl2, ?_⟩
    simp only [wp_cons, wp_nil, wp_ifs2, wp_tand, wp_tor, wp_tnot, wp_tval, wp_cmp, wp_ix, wp_bin, wp_neg, wp_fld, hw_v, hw_cst, hw_of, ne_eq, reduceCtorEq, not_false_eq_true, implies_true, forall_const, wp_cst, wp_v, wp_res, wp_resD, wp_blt, wp_ehs_cons, wp_ehs_nil, wp_ress_cons, wp_ress_nil, wp_asg, wp_setI, wp_ret, wp_ex, wp_own, wp_plOf, wp_getC, wp_setC, wp_call, wp_el_cons, wp_el_nil, List.getD_cons_zero, List.getD_cons_succ, List.set_cons_zero, List.set_cons_succ, cellV, ixV_cl, ixV_dl, ixV_dt, at0, at1, at2, at3, at4, ixn0, ixn1, ixn2, ixn3, ixn4, cmp_eq_int, cmp_ne_int, cmp_lt_int, cmp_le_int, cmp_gt_int, cmp_ge_int, bop_add_int, bop_sub_int, bop_mul_ex, bop_mod_ex, bop_fdiv_ex, bop_pow_ex, some_ex, len_cl, len_dl, len_dt, abs_i, int_i, int_b, min_i, max_i, List.length_map, D.int.injEq, D.bl.injEq, D.lst.injEq, Cell.lst.injEq, Option.some.injEq, exists_eq_left', exists_and_left, exists_eq_left, exists_and_right, decide_eq_true_eq, decide_eq_false_iff_not, false_implies, true_implies, and_true, true_and,  b__law_take_5]
    refine ⟨_, rfl, a % l, a / l, b, c, i, xs, rfl, Int.emod_nonneg _ (by omega), Int.emod_lt_of_pos _ (by omega), rfl, Int.ediv_nonneg a0 (by omega), b0, b1, c0, by omega, i0⟩
  · simp only [wp_cons, wp_nil, wp_ifs2, wp_tand, wp_tor, wp_tnot, wp_tval, wp_cmp, wp_ix, wp_bin, wp_neg, wp_fld, hw_v, hw_cst, hw_of, ne_eq, reduceCtorEq, not_false_eq_true, implies_true, forall_const, wp_cst, wp_v, wp_res, wp_resD, wp_blt, wp_ehs_cons, wp_ehs_nil, wp_ress_cons, wp_ress_nil, wp_asg, wp_setI, wp_ret, wp_ex, wp_own, wp_plOf, wp_getC, wp_setC, wp_call, wp_el_cons, wp_el_nil, List.getD_cons_zero, List.getD_cons_succ, List.set_cons_zero, List.set_cons_succ, cellV, ixV_cl, ixV_dl, ixV_dt, at0, at1, at2, at3, at4, ixn0, ixn1, ixn2, ixn3, ixn4, cmp_eq_int, cmp_ne_int, cmp_lt_int, cmp_le_int, cmp_gt_int, cmp_ge_int, bop_add_int, bop_sub_int, bop_mul_ex, bop_mod_ex, bop_fdiv_ex, bop_pow_ex, some_ex, len_cl, len_dl, len_dt, abs_i, int_i, int_b, min_i, max_i, List.length_map, D.int.injEq, D.bl.injEq, D.lst.injEq, Cell.lst.injEq, Option.some.injEq, exists_eq_left', exists_and_left, exists_eq_left, exists_and_right, decide_eq_true_eq, decide_eq_false_iff_not, false_implies, true_implies, and_true, true_and,  b__law_take_14, hS, pool]
    simp only [wp_cons, wp_nil, wp_ifs2, wp_tand, wp_tor, wp_tnot, wp_tval, wp_cmp, wp_ix, wp_bin, wp_neg, wp_fld, hw_v, hw_cst, hw_of, ne_eq, reduceCtorEq, not_false_eq_true, implies_true, forall_const, wp_cst, wp_v, wp_res, wp_resD, wp_blt, wp_ehs_cons, wp_ehs_nil, wp_ress_cons, wp_ress_nil, wp_asg, wp_setI, wp_ret, wp_ex, wp_own, wp_plOf, wp_getC, wp_setC, wp_call, wp_el_cons, wp_el_nil, List.getD_cons_zero, List.getD_cons_succ, List.set_cons_zero, List.set_cons_succ, cellV, ixV_cl, ixV_dl, ixV_dt, at0, at1, at2, at3, at4, ixn0, ixn1, ixn2, ixn3, ixn4, cmp_eq_int, cmp_ne_int, cmp_lt_int, cmp_le_int, cmp_gt_int, cmp_ge_int, bop_add_int, bop_sub_int, bop_mul_ex, bop_mod_ex, bop_fdiv_ex, bop_pow_ex, some_ex, len_cl, len_dl, len_dt, abs_i, int_i, int_b, min_i, max_i, List.length_map, D.int.injEq, D.bl.injEq, D.lst.injEq, Cell.lst.injEq, Option.some.injEq, exists_eq_left', exists_and_left, exists_eq_left, exists_and_right, decide_eq_true_eq, decide_eq_false_iff_not, false_implies, true_implies, and_true, true_and,  b__law_take_13, hS, pool]
    simp only [wp_cons, wp_nil, wp_ifs2, wp_tand, wp_tor, wp_tnot, wp_tval, wp_cmp, wp_ix, wp_bin, wp_neg, wp_fld, hw_v, hw_cst, hw_of, ne_eq, reduceCtorEq, not_false_eq_true, implies_true, forall_const, wp_cst, wp_v, wp_res, wp_resD, wp_blt, wp_ehs_cons, wp_ehs_nil, wp_ress_cons, wp_ress_nil, wp_asg, wp_setI, wp_ret, wp_ex, wp_own, wp_plOf, wp_getC, wp_setC, wp_call, wp_el_cons, wp_el_nil, List.getD_cons_zero, List.getD_cons_succ, List.set_cons_zero, List.set_cons_succ, cellV, ixV_cl, ixV_dl, ixV_dt, at0, at1, at2, at3, at4, ixn0, ixn1, ixn2, ixn3, ixn4, cmp_eq_int, cmp_ne_int, cmp_lt_int, cmp_le_int, cmp_gt_int, cmp_ge_int, bop_add_int, bop_sub_int, bop_mul_ex, bop_mod_ex, bop_fdiv_ex, bop_pow_ex, some_ex, len_cl, len_dl, len_dt, abs_i, int_i, int_b, min_i, max_i, List.length_map, D.int.injEq, D.bl.injEq, D.lst.injEq, Cell.lst.injEq, Option.some.injEq, exists_eq_left', exists_and_left, exists_eq_left, exists_and_right, decide_eq_true_eq, decide_eq_false_iff_not, false_implies, true_implies, and_true, true_and,  b__law_take_12, hS, pool, hG]
    simp only [wp_cons, wp_nil, wp_ifs2, wp_tand, wp_tor, wp_tnot, wp_tval, wp_cmp, wp_ix, wp_bin, wp_neg, wp_fld, hw_v, hw_cst, hw_of, ne_eq, reduceCtorEq, not_false_eq_true, implies_true, forall_const, wp_cst, wp_v, wp_res, wp_resD, wp_blt, wp_ehs_cons, wp_ehs_nil, wp_ress_cons, wp_ress_nil, wp_asg, wp_setI, wp_ret, wp_ex, wp_own, wp_plOf, wp_getC, wp_setC, wp_call, wp_el_cons, wp_el_nil, List.getD_cons_zero, List.getD_cons_succ, List.set_cons_zero, List.set_cons_succ, cellV, ixV_cl, ixV_dl, ixV_dt, at0, at1, at2, at3, at4, ixn0, ixn1, ixn2, ixn3, ixn4, cmp_eq_int, cmp_ne_int, cmp_lt_int, cmp_le_int, cmp_gt_int, cmp_ge_int, bop_add_int, bop_sub_int, bop_mul_ex, bop_mod_ex, bop_fdiv_ex, bop_pow_ex, some_ex, len_cl, len_dl, len_dt, abs_i, int_i, int_b, min_i, max_i, List.length_map, D.int.injEq, D.bl.injEq, D.lst.injEq, Cell.lst.injEq, Option.some.injEq, exists_eq_left', exists_and_left, exists_eq_left, exists_and_right, decide_eq_true_eq, decide_eq_false_iff_not, false_implies, true_implies, and_true, true_and,  b__law_take_11]
    refine ⟨mul_ok ⟨by omega, by omega⟩ ⟨by omega, by omega⟩, mul_ok ⟨by omega, by omega⟩ ⟨by omega, by omega⟩, by omega, ?_⟩
    have m1 : 0 ≤ (b * b + (c + 1) * 3571 + 40692) % 2147483399 := Int.emod_nonneg _ (by omega)
    have m2 : (b * b + (c + 1) * 3571 + 40692) % 2147483399 < 2147483399 := Int.emod_lt_of_pos _ (by omega)
    generalize (b * b + (c + 1) * 3571 + 40692) % 2147483399 = y at m1 m2 ⊢
    simp only [wp_cons, wp_nil, wp_ifs2, wp_tand, wp_tor, wp_tnot, wp_tval, wp_cmp, wp_ix, wp_bin, wp_neg, wp_fld, hw_v, hw_cst, hw_of, ne_eq, reduceCtorEq, not_false_eq_true, implies_true, forall_const, wp_cst, wp_v, wp_res, wp_resD, wp_blt, wp_ehs_cons, wp_ehs_nil, wp_ress_cons, wp_ress_nil, wp_asg, wp_setI, wp_ret, wp_ex, wp_own, wp_plOf, wp_getC, wp_setC, wp_call, wp_el_cons, wp_el_nil, List.getD_cons_zero, List.getD_cons_succ, List.set_cons_zero, List.set_cons_succ, cellV, ixV_cl, ixV_dl, ixV_dt, at0, at1, at2, at3, at4, ixn0, ixn1, ixn2, ixn3, ixn4, cmp_eq_int, cmp_ne_int, cmp_lt_int, cmp_le_int, cmp_gt_int, cmp_ge_int, bop_add_int, bop_sub_int, bop_mul_ex, bop_mod_ex, bop_fdiv_ex, bop_pow_ex, some_ex, len_cl, len_dl, len_dt, abs_i, int_i, int_b, min_i, max_i, List.length_map, D.int.injEq, D.bl.injEq, D.lst.injEq, Cell.lst.injEq, Option.some.injEq, exists_eq_left', exists_and_left, exists_eq_left, exists_and_right, decide_eq_true_eq, decide_eq_false_iff_not, false_implies, true_implies, and_true, true_and,  b__law_take_10]
    refine ⟨mul_ok ⟨by omega, by omega⟩ ⟨by omega, by omega⟩, div_ok (by omega) ⟨by omega, by omega⟩, by omega, ?_⟩
    have m3 : 0 ≤ (y * y + y / 97) % 2147483629 := Int.emod_nonneg _ (by omega)
    have m4 : (y * y + y / 97) % 2147483629 < 2147483629 := Int.emod_lt_of_pos _ (by omega)
    generalize (y * y + y / 97) % 2147483629 = z at m3 m4 ⊢
    simp only [wp_cons, wp_nil, wp_ifs2, wp_tand, wp_tor, wp_tnot, wp_tval, wp_cmp, wp_ix, wp_bin, wp_neg, wp_fld, hw_v, hw_cst, hw_of, ne_eq, reduceCtorEq, not_false_eq_true, implies_true, forall_const, wp_cst, wp_v, wp_res, wp_resD, wp_blt, wp_ehs_cons, wp_ehs_nil, wp_ress_cons, wp_ress_nil, wp_asg, wp_setI, wp_ret, wp_ex, wp_own, wp_plOf, wp_getC, wp_setC, wp_call, wp_el_cons, wp_el_nil, List.getD_cons_zero, List.getD_cons_succ, List.set_cons_zero, List.set_cons_succ, cellV, ixV_cl, ixV_dl, ixV_dt, at0, at1, at2, at3, at4, ixn0, ixn1, ixn2, ixn3, ixn4, cmp_eq_int, cmp_ne_int, cmp_lt_int, cmp_le_int, cmp_gt_int, cmp_ge_int, bop_add_int, bop_sub_int, bop_mul_ex, bop_mod_ex, bop_fdiv_ex, bop_pow_ex, some_ex, len_cl, len_dl, len_dt, abs_i, int_i, int_b, min_i, max_i, List.length_map, D.int.injEq, D.bl.injEq, D.lst.injEq, Cell.lst.injEq, Option.some.injEq, exists_eq_left', exists_and_left, exists_eq_left, exists_and_right, decide_eq_true_eq, decide_eq_false_iff_not, false_implies, true_implies, and_true, true_and,  b__law_take_9, hG, List.set_set]
    simp only [wp_cons, wp_nil, wp_ifs2, wp_tand, wp_tor, wp_tnot, wp_tval, wp_cmp, wp_ix, wp_bin, wp_neg, wp_fld, hw_v, hw_cst, hw_of, ne_eq, reduceCtorEq, not_false_eq_true, implies_true, forall_const, wp_cst, wp_v, wp_res, wp_resD, wp_blt, wp_ehs_cons, wp_ehs_nil, wp_ress_cons, wp_ress_nil, wp_asg, wp_setI, wp_ret, wp_ex, wp_own, wp_plOf, wp_getC, wp_setC, wp_call, wp_el_cons, wp_el_nil, List.getD_cons_zero, List.getD_cons_succ, List.set_cons_zero, List.set_cons_succ, cellV, ixV_cl, ixV_dl, ixV_dt, at0, at1, at2, at3, at4, ixn0, ixn1, ixn2, ixn3, ixn4, cmp_eq_int, cmp_ne_int, cmp_lt_int, cmp_le_int, cmp_gt_int, cmp_ge_int, bop_add_int, bop_sub_int, bop_mul_ex, bop_mod_ex, bop_fdiv_ex, bop_pow_ex, some_ex, len_cl, len_dl, len_dt, abs_i, int_i, int_b, min_i, max_i, List.length_map, D.int.injEq, D.bl.injEq, D.lst.injEq, Cell.lst.injEq, Option.some.injEq, exists_eq_left', exists_and_left, exists_eq_left, exists_and_right, decide_eq_true_eq, decide_eq_false_iff_not, false_implies, true_implies, and_true, true_and,  b__law_take_8]
    refine ⟨div_ok (by omega) ⟨by omega, by omega⟩, by omega, ?_⟩
    refine ⟨_, rfl, z / 8 % l, a, z, c + 1, i, xs, rfl, Int.emod_nonneg _ (by omega), Int.emod_lt_of_pos _ (by omega), rfl, a0, m3, by omega, by omega, by omega, i0⟩
/-- _law_take: a number below the limit; the pool stays a pool -/
theorem take_spec {A : Api} {k : Nat} {S : Store} {N a b c i l : Int} {xs : List Int} (hS : S.getD k none = some (pool a b c i xs)) (hk : k < S.length) (p : PoolOk N a b c i) (hN : N < 1000000000) (hl : 1 ≤ l) (hl2 : Sm100 l) :
    (f__law_take.run A [.ref k, .int l] S).wp (TakeQ k S N l) := by
  have hG : ∀ c, (S.set k c).getD k none = c := fun c => getD_set_same hk
  have p0 := p
  obtain ⟨a0, b0, b1, c0, c1, i0⟩ := p
  refine run_wp rfl rfl ?_
  show (ex A b__law_take_16).wp [.val (.ref k), .val (.int l), .emp, .emp, .emp, .emp] S _
  have fin : ∀ {S1 : Store} {a b c i : Int} {x : Slot}, S1.getD k none = some (pool a b c i xs) → S1.length = S.length → (∀ c, S1.set k c = S.set k c) → PoolOk N a b c i → (ex A b__law_take_15).wp [.val (.ref k), .val (.int l), x, .emp, .emp, .emp] S1 fun fl _ s => match fl with
    | .ret d => TakeQ k S N l d s
    | .next => TakeQ k S N l .non s
    | _ => False := fun {S1 a b c i x} h1 h2 h3 h4 => wp_mono (take_tail h1 (by rw [h2]; exact hk) h4 hN hl hl2) fun f e s ⟨d, hd, q⟩ => by
      subst hd
      obtain ⟨n, a, b, c, i, xs, q1, q2, q3, q4, q5⟩ := q
      exact ⟨n, a, b, c, i, xs, q1, q2, q3, by rw [q4, h3], q5⟩
  simp only [wp_cons, wp_nil, wp_ifs2, wp_tand, wp_tor, wp_tnot, wp_tval, wp_cmp, wp_ix, wp_bin, wp_neg, wp_fld, hw_v, hw_cst, hw_of, ne_eq, reduceCtorEq, not_false_eq_true, implies_true, forall_const, wp_cst, wp_v, wp_res, wp_resD, wp_blt, wp_ehs_cons, wp_ehs_nil, wp_ress_cons, wp_ress_nil, wp_asg, wp_setI, wp_ret, wp_ex, wp_own, wp_plOf, wp_getC, wp_setC, wp_call, wp_el_cons, wp_el_nil, List.getD_cons_zero, List.getD_cons_succ, List.set_cons_zero, List.set_cons_succ, cellV, ixV_cl, ixV_dl, ixV_dt, at0, at1, at2, at3, at4, ixn0, ixn1, ixn2, ixn3, ixn4, cmp_eq_int, cmp_ne_int, cmp_lt_int, cmp_le_int, cmp_gt_int, cmp_ge_int, bop_add_int, bop_sub_int, bop_mul_ex, bop_mod_ex, bop_fdiv_ex, bop_pow_ex, some_ex, len_cl, len_dl, len_dt, abs_i, int_i, int_b, min_i, max_i, List.length_map, D.int.injEq, D.bl.injEq, D.lst.injEq, Cell.lst.injEq, Option.some.injEq, exists_eq_left', exists_and_left, exists_eq_left, exists_and_right, decide_eq_true_eq, decide_eq_false_iff_not, false_implies, true_implies, and_true, true_and,  b__law_take_16, hS, pool]
  refine ⟨fun ha => ⟨fun hi => ?_, fun hi => ?_⟩, fun ha => ?_⟩
  · obtain ⟨j, rfl⟩ : ∃ j : Nat, i = (j : Int) := ⟨i.toNat, by omega⟩
    have hj : j < xs.length := by omega
    obtain ⟨z, hz⟩ : ∃ z, xs[j]? = some z := ⟨_, List.getElem?_eq_getElem hj⟩
    have hat : L2.atI (xs.map D.int) (j : Int) = some (.int z) := ix_nat rfl (by rw [List.getElem?_map, hz]; rfl)
    simp only [wp_cons, wp_nil, wp_ifs2, wp_tand, wp_tor, wp_tnot, wp_tval, wp_cmp, wp_ix, wp_bin, wp_neg, wp_fld, hw_v, hw_cst, hw_of, ne_eq, reduceCtorEq, not_false_eq_true, implies_true, forall_const, wp_cst, wp_v, wp_res, wp_resD, wp_blt, wp_ehs_cons, wp_ehs_nil, wp_ress_cons, wp_ress_nil, wp_asg, wp_setI, wp_ret, wp_ex, wp_own, wp_plOf, wp_getC, wp_setC, wp_call, wp_el_cons, wp_el_nil, List.getD_cons_zero, List.getD_cons_succ, List.set_cons_zero, List.set_cons_succ, cellV, ixV_cl, ixV_dl, ixV_dt, at0, at1, at2, at3, at4, ixn0, ixn1, ixn2, ixn3, ixn4, cmp_eq_int, cmp_ne_int, cmp_lt_int, cmp_le_int, cmp_gt_int, cmp_ge_int, bop_add_int, bop_sub_int, bop_mul_ex, bop_mod_ex, bop_fdiv_ex, bop_pow_ex, some_ex, len_cl, len_dl, len_dt, abs_i, int_i, int_b, min_i, max_i, List.length_map, D.int.injEq, D.bl.injEq, D.lst.injEq, Cell.lst.injEq, Option.some.injEq, exists_eq_left', exists_and_left, exists_eq_left, exists_and_right, decide_eq_true_eq, decide_eq_false_iff_not, false_implies, true_implies, and_true, true_and,  b__law_take_4, hS, pool, hat]
    simp only [wp_cons, wp_nil, wp_ifs2, wp_tand, wp_tor, wp_tnot, wp_tval, wp_cmp, wp_ix, wp_bin, wp_neg, wp_fld, hw_v, hw_cst, hw_of, ne_eq, reduceCtorEq, not_false_eq_true, implies_true, forall_const, wp_cst, wp_v, wp_res, wp_resD, wp_blt, wp_ehs_cons, wp_ehs_nil, wp_ress_cons, wp_ress_nil, wp_asg, wp_setI, wp_ret, wp_ex, wp_own, wp_plOf, wp_getC, wp_setC, wp_call, wp_el_cons, wp_el_nil, List.getD_cons_zero, List.getD_cons_succ, List.set_cons_zero, List.set_cons_succ, cellV, ixV_cl, ixV_dl, ixV_dt, at0, at1, at2, at3, at4, ixn0, ixn1, ixn2, ixn3, ixn4, cmp_eq_int, cmp_ne_int, cmp_lt_int, cmp_le_int, cmp_gt_int, cmp_ge_int, bop_add_int, bop_sub_int, bop_mul_ex, bop_mod_ex, bop_fdiv_ex, bop_pow_ex, some_ex, len_cl, len_dl, len_dt, abs_i, int_i, int_b, min_i, max_i, List.length_map, D.int.injEq, D.bl.injEq, D.lst.injEq, Cell.lst.injEq, Option.some.injEq, exists_eq_left', exists_and_left, exists_eq_left, exists_and_right, decide_eq_true_eq, decide_eq_false_iff_not, false_implies, true_implies, and_true, true_and,  b__law_take_3, hS, pool]
    simp only [wp_cons, wp_nil, wp_ifs2, wp_tand, wp_tor, wp_tnot, wp_tval, wp_cmp, wp_ix, wp_bin, wp_neg, wp_fld, hw_v, hw_cst, hw_of, ne_eq, reduceCtorEq, not_false_eq_true, implies_true, forall_const, wp_cst, wp_v, wp_res, wp_resD, wp_blt, wp_ehs_cons, wp_ehs_nil, wp_ress_cons, wp_ress_nil, wp_asg, wp_setI, wp_ret, wp_ex, wp_own, wp_plOf, wp_getC, wp_setC, wp_call, wp_el_cons, wp_el_nil, List.getD_cons_zero, List.getD_cons_succ, List.set_cons_zero, List.set_cons_succ, cellV, ixV_cl, ixV_dl, ixV_dt, at0, at1, at2, at3, at4, ixn0, ixn1, ixn2, ixn3, ixn4, cmp_eq_int, cmp_ne_int, cmp_lt_int, cmp_le_int, cmp_gt_int, cmp_ge_int, bop_add_int, bop_sub_int, bop_mul_ex, bop_mod_ex, bop_fdiv_ex, bop_pow_ex, some_ex, len_cl, len_dl, len_dt, abs_i, int_i, int_b, min_i, max_i, List.length_map, D.int.injEq, D.bl.injEq, D.lst.injEq, Cell.lst.injEq, Option.some.injEq, exists_eq_left', exists_and_left, exists_eq_left, exists_and_right, decide_eq_true_eq, decide_eq_false_iff_not, false_implies, true_implies, and_true, true_and,  b__law_take_2]
    refine ⟨by decide, fun h18 => ?_, fun h18 => ?_⟩
    · simp only [wp_cons, wp_nil, wp_ifs2, wp_tand, wp_tor, wp_tnot, wp_tval, wp_cmp, wp_ix, wp_bin, wp_neg, wp_fld, hw_v, hw_cst, hw_of, ne_eq, reduceCtorEq, not_false_eq_true, implies_true, forall_const, wp_cst, wp_v, wp_res, wp_resD, wp_blt, wp_ehs_cons, wp_ehs_nil, wp_ress_cons, wp_ress_nil, wp_asg, wp_setI, wp_ret, wp_ex, wp_own, wp_plOf, wp_getC, wp_setC, wp_call, wp_el_cons, wp_el_nil, List.getD_cons_zero, List.getD_cons_succ, List.set_cons_zero, List.set_cons_succ, cellV, ixV_cl, ixV_dl, ixV_dt, at0, at1, at2, at3, at4, ixn0, ixn1, ixn2, ixn3, ixn4, cmp_eq_int, cmp_ne_int, cmp_lt_int, cmp_le_int, cmp_gt_int, cmp_ge_int, bop_add_int, bop_sub_int, bop_mul_ex, bop_mod_ex, bop_fdiv_ex, bop_pow_ex, some_ex, len_cl, len_dl, len_dt, abs_i, int_i, int_b, min_i, max_i, List.length_map, D.int.injEq, D.bl.injEq, D.lst.injEq, Cell.lst.injEq, Option.some.injEq, exists_eq_left', exists_and_left, exists_eq_left, exists_and_right, decide_eq_true_eq, decide_eq_false_iff_not, false_implies, true_implies, and_true, true_and,  b__law_take_0, hG, List.set_set]
      refine fin (hG _) (List.length_set ..) (fun c => List.set_set ..) ⟨?_, b0, b1, c0, c1, by omega⟩
      split <;> omega
    · simp only [wp_cons, wp_nil, wp_ifs2, wp_tand, wp_tor, wp_tnot, wp_tval, wp_cmp, wp_ix, wp_bin, wp_neg, wp_fld, hw_v, hw_cst, hw_of, ne_eq, reduceCtorEq, not_false_eq_true, implies_true, forall_const, wp_cst, wp_v, wp_res, wp_resD, wp_blt, wp_ehs_cons, wp_ehs_nil, wp_ress_cons, wp_ress_nil, wp_asg, wp_setI, wp_ret, wp_ex, wp_own, wp_plOf, wp_getC, wp_setC, wp_call, wp_el_cons, wp_el_nil, List.getD_cons_zero, List.getD_cons_succ, List.set_cons_zero, List.set_cons_succ, cellV, ixV_cl, ixV_dl, ixV_dt, at0, at1, at2, at3, at4, ixn0, ixn1, ixn2, ixn3, ixn4, cmp_eq_int, cmp_ne_int, cmp_lt_int, cmp_le_int, cmp_gt_int, cmp_ge_int, bop_add_int, bop_sub_int, bop_mul_ex, bop_mod_ex, bop_fdiv_ex, bop_pow_ex, some_ex, len_cl, len_dl, len_dt, abs_i, int_i, int_b, min_i, max_i, List.length_map, D.int.injEq, D.bl.injEq, D.lst.injEq, Cell.lst.injEq, Option.some.injEq, exists_eq_left', exists_and_left, exists_eq_left, exists_and_right, decide_eq_true_eq, decide_eq_false_iff_not, false_implies, true_implies, and_true, true_and,  b__law_take_1, hG, List.set_set]
      have m1 : 0 ≤ (b * 48271 + (if z < 0 then -z else z) + 1) % 2147483399 := Int.emod_nonneg _ (by omega)
      have m2 : (b * 48271 + (if z < 0 then -z else z) + 1) % 2147483399 < 2147483399 := Int.emod_lt_of_pos _ (by omega)
      exact ⟨mul_ok ⟨by omega, by omega⟩ ⟨by omega, by omega⟩, by omega, fin (hG _) (List.length_set ..) (fun c => List.set_set ..) ⟨a0, m1, by omega, c0, c1, by omega⟩⟩
  · exact fin hS rfl (fun _ => rfl) p0
  · exact fin hS rfl (fun _ => rfl) p0
end Vm
namespace Vm
open PySem
def b__law_great_0 : Sm := .cons (.ret (.blt .min2 (.cons (.v 1) (.cons (.call "_law_take" (.cons (.v 0) (.cons (.cst (.int (40))) .nil))) .nil)))) .nil
def b__law_great_1 : Sm := .cons (.ret (.blt .min2 (.cons (.v 1) (.cons (.call "_law_take" (.cons (.v 0) (.cons (.cst (.int (4000))) .nil))) .nil)))) .nil
def b__law_great_2 : Sm := .cons (.ret (.call "_law_take" (.cons (.v 0) (.cons (.bin .add (.v 1) (.cst (.int (1)))) .nil)))) .nil
def b__law_great_3 : Sm := .cons (.asg (.nm 3) (.bin .add (.bin .mul (.v 3) (.bin .pow (.cst (.int (10))) (.cst (.int (8))))) (.call "_law_take" (.cons (.v 0) (.cons (.bin .pow (.cst (.int (10))) (.cst (.int (8)))) .nil))))) .nil
def b__law_great_4 : Sm := .cons (.ret (.bin .mod (.blt .int (.cons (.v 3) .nil)) (.bin .add (.v 1) (.cst (.int (1)))))) .nil
def b__law_great_5 : Sm := .cons (.for_ (.nm 4) (.irng1 (.cst (.int (4)))) b__law_great_3) b__law_great_4
def b__law_great_6 : Sm := .cons (.asg (.nm 3) (.cst (.int (0)))) b__law_great_5
def b__law_great_7 : Sm := .cons (.ifs (.tval (.cmp .gt (.ix (.v 0) (.cst (.int (0)))) (.v 1))) b__law_great_2 .nil) b__law_great_6
def b__law_great_8 : Sm := .cons (.ifs (.tval (.cmp .eq (.v 2) (.cst (.int (2))))) b__law_great_1 .nil) b__law_great_7
def b__law_great_9 : Sm := .cons (.ifs (.tval (.cmp .lt (.v 2) (.cst (.int (2))))) b__law_great_0 .nil) b__law_great_8
def b__law_great_10 : Sm := .cons (.asg (.nm 2) (.call "_law_take" (.cons (.v 0) (.cons (.cst (.int (4))) .nil)))) b__law_great_9
def f__law_great : Fn := ⟨2, 5, b__law_great_10, none⟩
/-- the pool at k, all else as in S0 -/
def PoolSt (k : Nat) (N : Int) (S0 S : Store) : Prop := ∃ a b c i, ∃ xs : List Int, S = S0.set k (some (pool a b c i xs)) ∧ PoolOk N a b c i ∧ k < S0.length
theorem PoolSt.mono {k : Nat} {N M : Int} {S0 S : Store} (h : PoolSt k N S0 S) (hm : N ≤ M) : PoolSt k M S0 S := by
  obtain ⟨a, b, c, i, xs, h1, ⟨p1, p2, p3, p4, p5, p6⟩, h3⟩ := h
  exact ⟨a, b, c, i, xs, h1, ⟨p1, p2, p3, p4, by omega, p6⟩, h3⟩
theorem take_st {A : Api} {k : Nat} {S0 S : Store} {N l : Int} (p : PoolSt k N S0 S) (hN : N < 1000000000) (hl : 1 ≤ l) (hl2 : Sm100 l) :
    (f__law_take.run A [.ref k, .int l] S).wp fun d S' => ∃ n, d = .int n ∧ 0 ≤ n ∧ n < l ∧ PoolSt k (N + 1) S0 S' := by
  obtain ⟨a, b, c, i, xs, rfl, h2, h3⟩ := p
  have hk : k < (S0.set k (some (pool a b c i xs))).length := by rw [List.length_set]; exact h3
  obtain ⟨d, S', h4, n, a', b', c', i', xs', q1, q2, q3, q4, q5⟩ := take_spec (A := A) (getD_set_same h3) hk h2 hN hl hl2
  refine ⟨d, S', h4, n, q1, q2, q3, a', b', c', i', xs', ?_, q5, h3⟩
  rw [q4, List.set_set]
/-- a program that draws by _law_take -/
structure Draws (A : Api) : Prop where
  has : A.has ("", "_law_take") = true
  call : ∃ B, ∀ ds s, A.call ("", "_law_take") ds s = f__law_take.run B ds s
theorem Draws.st {A : Api} (h : Draws A) {k : Nat} {S0 S : Store} {N l : Int} (p : PoolSt k N S0 S) (hN : N < 1000000000) (hl : 1 ≤ l) (hl2 : Sm100 l) :
    (A.call ("", "_law_take") [.ref k, .int l] S).wp fun d S' => ∃ n, d = .int n ∧ 0 ≤ n ∧ n < l ∧ PoolSt k (N + 1) S0 S' := by
  obtain ⟨B, hB⟩ := h.call
  rw [hB]
  exact take_st p hN hl hl2
theorem cwp_mono {r : COut} {Q Q' : D → Store → Prop} (h : r.wp Q) (k : ∀ d s, Q d s → Q' d s) : r.wp Q' := let ⟨d, s, h1, h2⟩ := h; ⟨d, s, h1, k d s h2⟩
theorem great_body {A : Api} (hA : Draws A) {k : Nat} {S0 S : Store} {N m w g : Int} {x : Slot} {Q : Fl → Env → Store → Prop} (p : PoolSt k N S0 S) (hN : N < 1000000000) (g0 : 0 ≤ g) (g1 : g < 1267650600228229401496703205376)
    (h : ∀ v S', 0 ≤ v → v < 100000000 → PoolSt k (N + 1) S0 S' → Q .next [.val (.ref k), .val (.int m), .val (.int w), .val (.int (g * 10 ^ 8 + v)), x] S') : (ex A b__law_great_3).wp [.val (.ref k), .val (.int m), .val (.int w), .val (.int g), x] S Q := by
  have e8 : (10 : Int) ^ (8 : Int).toNat = 100000000 := by decide
  simp only [wp_cons, wp_nil, wp_ifs2, wp_tand, wp_tor, wp_tnot, wp_tval, wp_cmp, wp_ix, wp_bin, wp_neg, wp_fld, hw_v, hw_cst, hw_of, ne_eq, reduceCtorEq, not_false_eq_true, implies_true, forall_const, wp_cst, wp_v, wp_res, wp_resD, wp_blt, wp_ehs_cons, wp_ehs_nil, wp_ress_cons, wp_ress_nil, wp_asg, wp_setI, wp_ret, wp_ex, wp_own, wp_plOf, wp_getC, wp_setC, wp_call, wp_el_cons, wp_el_nil, List.getD_cons_zero, List.getD_cons_succ, List.set_cons_zero, List.set_cons_succ, cellV, ixV_cl, ixV_dl, ixV_dt, at0, at1, at2, at3, at4, ixn0, ixn1, ixn2, ixn3, ixn4, cmp_eq_int, cmp_ne_int, cmp_lt_int, cmp_le_int, cmp_gt_int, cmp_ge_int, bop_add_int, bop_sub_int, bop_mul_ex, bop_mod_ex, bop_fdiv_ex, bop_pow_ex, some_ex, len_cl, len_dl, len_dt, abs_i, int_i, int_b, min_i, max_i, List.length_map, D.int.injEq, D.bl.injEq, D.lst.injEq, Cell.lst.injEq, Option.some.injEq, exists_eq_left', exists_and_left, exists_eq_left, exists_and_right, decide_eq_true_eq, decide_eq_false_iff_not, false_implies, true_implies, and_true, true_and,  b__law_great_3, hA.has, e8]
  refine ⟨⟨by decide, by decide, by decide⟩, mul_ok ⟨by omega, by omega⟩ ⟨by decide, by decide⟩, ⟨by decide, by decide, by decide⟩, ?_⟩
  refine cwp_mono (hA.st p (by omega) (by omega) ⟨by omega, by omega⟩) fun d S' ⟨v, hd, v0, v1, p1⟩ => ?_
  subst hd
  simp only [wp_cons, wp_nil, wp_ifs2, wp_tand, wp_tor, wp_tnot, wp_tval, wp_cmp, wp_ix, wp_bin, wp_neg, wp_fld, hw_v, hw_cst, hw_of, ne_eq, reduceCtorEq, not_false_eq_true, implies_true, forall_const, wp_cst, wp_v, wp_res, wp_resD, wp_blt, wp_ehs_cons, wp_ehs_nil, wp_ress_cons, wp_ress_nil, wp_asg, wp_setI, wp_ret, wp_ex, wp_own, wp_plOf, wp_getC, wp_setC, wp_call, wp_el_cons, wp_el_nil, List.getD_cons_zero, List.getD_cons_succ, List.set_cons_zero, List.set_cons_succ, cellV, ixV_cl, ixV_dl, ixV_dt, at0, at1, at2, at3, at4, ixn0, ixn1, ixn2, ixn3, ixn4, cmp_eq_int, cmp_ne_int, cmp_lt_int, cmp_le_int, cmp_gt_int, cmp_ge_int, bop_add_int, bop_sub_int, bop_mul_ex, bop_mod_ex, bop_fdiv_ex, bop_pow_ex, some_ex, len_cl, len_dl, len_dt, abs_i, int_i, int_b, min_i, max_i, List.length_map, D.int.injEq, D.bl.injEq, D.lst.injEq, Cell.lst.injEq, Option.some.injEq, exists_eq_left', exists_and_left, exists_eq_left, exists_and_right, decide_eq_true_eq, decide_eq_false_iff_not, false_implies, true_implies, and_true, true_and,  e8]
  exact h v S' v0 v1 p1
theorem great_spec {A : Api} (hA : Draws A) {k : Nat} {S0 S : Store} {N m : Int} (p : PoolSt k N S0 S) (hN : N < 900000000) (h0 : 0 ≤ m) (hm : m < 1267650600228229401496703205375) :
    (f__law_great.run A [.ref k, .int m] S).wp fun d S' => ∃ n, d = .int n ∧ 0 ≤ n ∧ n ≤ m ∧ PoolSt k (N + 5) S0 S' := by
  refine run_wp rfl rfl ?_
  show (ex A b__law_great_10).wp [.val (.ref k), .val (.int m), .emp, .emp, .emp] S _
  simp only [wp_cons, wp_nil, wp_ifs2, wp_tand, wp_tor, wp_tnot, wp_tval, wp_cmp, wp_ix, wp_bin, wp_neg, wp_fld, hw_v, hw_cst, hw_of, ne_eq, reduceCtorEq, not_false_eq_true, implies_true, forall_const, wp_cst, wp_v, wp_res, wp_resD, wp_blt, wp_ehs_cons, wp_ehs_nil, wp_ress_cons, wp_ress_nil, wp_asg, wp_setI, wp_ret, wp_ex, wp_own, wp_plOf, wp_getC, wp_setC, wp_call, wp_el_cons, wp_el_nil, List.getD_cons_zero, List.getD_cons_succ, List.set_cons_zero, List.set_cons_succ, cellV, ixV_cl, ixV_dl, ixV_dt, at0, at1, at2, at3, at4, ixn0, ixn1, ixn2, ixn3, ixn4, cmp_eq_int, cmp_ne_int, cmp_lt_int, cmp_le_int, cmp_gt_int, cmp_ge_int, bop_add_int, bop_sub_int, bop_mul_ex, bop_mod_ex, bop_fdiv_ex, bop_pow_ex, some_ex, len_cl, len_dl, len_dt, abs_i, int_i, int_b, min_i, max_i, List.length_map, D.int.injEq, D.bl.injEq, D.lst.injEq, Cell.lst.injEq, Option.some.injEq, exists_eq_left', exists_and_left, exists_eq_left, exists_and_right, decide_eq_true_eq, decide_eq_false_iff_not, false_implies, true_implies, and_true, true_and,  b__law_great_10, hA.has]
  refine cwp_mono (hA.st p (by omega) (by omega) ⟨by omega, by omega⟩) fun d S' ⟨w, hd, w0, w1, p1⟩ => ?_
  subst hd
  simp only [wp_cons, wp_nil, wp_ifs2, wp_tand, wp_tor, wp_tnot, wp_tval, wp_cmp, wp_ix, wp_bin, wp_neg, wp_fld, hw_v, hw_cst, hw_of, ne_eq, reduceCtorEq, not_false_eq_true, implies_true, forall_const, wp_cst, wp_v, wp_res, wp_resD, wp_blt, wp_ehs_cons, wp_ehs_nil, wp_ress_cons, wp_ress_nil, wp_asg, wp_setI, wp_ret, wp_ex, wp_own, wp_plOf, wp_getC, wp_setC, wp_call, wp_el_cons, wp_el_nil, List.getD_cons_zero, List.getD_cons_succ, List.set_cons_zero, List.set_cons_succ, cellV, ixV_cl, ixV_dl, ixV_dt, at0, at1, at2, at3, at4, ixn0, ixn1, ixn2, ixn3, ixn4, cmp_eq_int, cmp_ne_int, cmp_lt_int, cmp_le_int, cmp_gt_int, cmp_ge_int, bop_add_int, bop_sub_int, bop_mul_ex, bop_mod_ex, bop_fdiv_ex, bop_pow_ex, some_ex, len_cl, len_dl, len_dt, abs_i, int_i, int_b, min_i, max_i, List.length_map, D.int.injEq, D.bl.injEq, D.lst.injEq, Cell.lst.injEq, Option.some.injEq, exists_eq_left', exists_and_left, exists_eq_left, exists_and_right, decide_eq_true_eq, decide_eq_false_iff_not, false_implies, true_implies, and_true, true_and,  b__law_great_9]
  refine ⟨fun hw => ?_, fun hw => ?_⟩
  · simp only [wp_cons, wp_nil, wp_ifs2, wp_tand, wp_tor, wp_tnot, wp_tval, wp_cmp, wp_ix, wp_bin, wp_neg, wp_fld, hw_v, hw_cst, hw_of, ne_eq, reduceCtorEq, not_false_eq_true, implies_true, forall_const, wp_cst, wp_v, wp_res, wp_resD, wp_blt, wp_ehs_cons, wp_ehs_nil, wp_ress_cons, wp_ress_nil, wp_asg, wp_setI, wp_ret, wp_ex, wp_own, wp_plOf, wp_getC, wp_setC, wp_call, wp_el_cons, wp_el_nil, List.getD_cons_zero, List.getD_cons_succ, List.set_cons_zero, List.set_cons_succ, cellV, ixV_cl, ixV_dl, ixV_dt, at0, at1, at2, at3, at4, ixn0, ixn1, ixn2, ixn3, ixn4, cmp_eq_int, cmp_ne_int, cmp_lt_int, cmp_le_int, cmp_gt_int, cmp_ge_int, bop_add_int, bop_sub_int, bop_mul_ex, bop_mod_ex, bop_fdiv_ex, bop_pow_ex, some_ex, len_cl, len_dl, len_dt, abs_i, int_i, int_b, min_i, max_i, List.length_map, D.int.injEq, D.bl.injEq, D.lst.injEq, Cell.lst.injEq, Option.some.injEq, exists_eq_left', exists_and_left, exists_eq_left, exists_and_right, decide_eq_true_eq, decide_eq_false_iff_not, false_implies, true_implies, and_true, true_and,  b__law_great_0, hA.has]
    refine cwp_mono (hA.st p1 (by omega) (by omega) ⟨by omega, by omega⟩) fun d S' ⟨v, hd, v0, v1, p2⟩ => ?_
    subst hd
    simp only [wp_cons, wp_nil, wp_ifs2, wp_tand, wp_tor, wp_tnot, wp_tval, wp_cmp, wp_ix, wp_bin, wp_neg, wp_fld, hw_v, hw_cst, hw_of, ne_eq, reduceCtorEq, not_false_eq_true, implies_true, forall_const, wp_cst, wp_v, wp_res, wp_resD, wp_blt, wp_ehs_cons, wp_ehs_nil, wp_ress_cons, wp_ress_nil, wp_asg, wp_setI, wp_ret, wp_ex, wp_own, wp_plOf, wp_getC, wp_setC, wp_call, wp_el_cons, wp_el_nil, List.getD_cons_zero, List.getD_cons_succ, List.set_cons_zero, List.set_cons_succ, cellV, ixV_cl, ixV_dl, ixV_dt, at0, at1, at2, at3, at4, ixn0, ixn1, ixn2, ixn3, ixn4, cmp_eq_int, cmp_ne_int, cmp_lt_int, cmp_le_int, cmp_gt_int, cmp_ge_int, bop_add_int, bop_sub_int, bop_mul_ex, bop_mod_ex, bop_fdiv_ex, bop_pow_ex, some_ex, len_cl, len_dl, len_dt, abs_i, int_i, int_b, min_i, max_i, List.length_map, D.int.injEq, D.bl.injEq, D.lst.injEq, Cell.lst.injEq, Option.some.injEq, exists_eq_left', exists_and_left, exists_eq_left, exists_and_right, decide_eq_true_eq, decide_eq_false_iff_not, false_implies, true_implies, and_true, true_and,  min_i]
    refine ⟨?_, ?_, p2.mono (by omega)⟩
    · split <;> omega
    · split <;> omega
  simp only [wp_cons, wp_nil, wp_ifs2, wp_tand, wp_tor, wp_tnot, wp_tval, wp_cmp, wp_ix, wp_bin, wp_neg, wp_fld, hw_v, hw_cst, hw_of, ne_eq, reduceCtorEq, not_false_eq_true, implies_true, forall_const, wp_cst, wp_v, wp_res, wp_resD, wp_blt, wp_ehs_cons, wp_ehs_nil, wp_ress_cons, wp_ress_nil, wp_asg, wp_setI, wp_ret, wp_ex, wp_own, wp_plOf, wp_getC, wp_setC, wp_call, wp_el_cons, wp_el_nil, List.getD_cons_zero, List.getD_cons_succ, List.set_cons_zero, List.set_cons_succ, cellV, ixV_cl, ixV_dl, ixV_dt, at0, at1, at2, at3, at4, ixn0, ixn1, ixn2, ixn3, ixn4, cmp_eq_int, cmp_ne_int, cmp_lt_int, cmp_le_int, cmp_gt_int, cmp_ge_int, bop_add_int, bop_sub_int, bop_mul_ex, bop_mod_ex, bop_fdiv_ex, bop_pow_ex, some_ex, len_cl, len_dl, len_dt, abs_i, int_i, int_b, min_i, max_i, List.length_map, D.int.injEq, D.bl.injEq, D.lst.injEq, Cell.lst.injEq, Option.some.injEq, exists_eq_left', exists_and_left, exists_eq_left, exists_and_right, decide_eq_true_eq, decide_eq_false_iff_not, false_implies, true_implies, and_true, true_and,  b__law_great_8]
  refine ⟨fun hw => ?_, fun hw => ?_⟩
  · simp only [wp_cons, wp_nil, wp_ifs2, wp_tand, wp_tor, wp_tnot, wp_tval, wp_cmp, wp_ix, wp_bin, wp_neg, wp_fld, hw_v, hw_cst, hw_of, ne_eq, reduceCtorEq, not_false_eq_true, implies_true, forall_const, wp_cst, wp_v, wp_res, wp_resD, wp_blt, wp_ehs_cons, wp_ehs_nil, wp_ress_cons, wp_ress_nil, wp_asg, wp_setI, wp_ret, wp_ex, wp_own, wp_plOf, wp_getC, wp_setC, wp_call, wp_el_cons, wp_el_nil, List.getD_cons_zero, List.getD_cons_succ, List.set_cons_zero, List.set_cons_succ, cellV, ixV_cl, ixV_dl, ixV_dt, at0, at1, at2, at3, at4, ixn0, ixn1, ixn2, ixn3, ixn4, cmp_eq_int, cmp_ne_int, cmp_lt_int, cmp_le_int, cmp_gt_int, cmp_ge_int, bop_add_int, bop_sub_int, bop_mul_ex, bop_mod_ex, bop_fdiv_ex, bop_pow_ex, some_ex, len_cl, len_dl, len_dt, abs_i, int_i, int_b, min_i, max_i, List.length_map, D.int.injEq, D.bl.injEq, D.lst.injEq, Cell.lst.injEq, Option.some.injEq, exists_eq_left', exists_and_left, exists_eq_left, exists_and_right, decide_eq_true_eq, decide_eq_false_iff_not, false_implies, true_implies, and_true, true_and,  b__law_great_1, hA.has]
    refine cwp_mono (hA.st p1 (by omega) (by omega) ⟨by omega, by omega⟩) fun d S' ⟨v, hd, v0, v1, p2⟩ => ?_
    subst hd
    simp only [wp_cons, wp_nil, wp_ifs2, wp_tand, wp_tor, wp_tnot, wp_tval, wp_cmp, wp_ix, wp_bin, wp_neg, wp_fld, hw_v, hw_cst, hw_of, ne_eq, reduceCtorEq, not_false_eq_true, implies_true, forall_const, wp_cst, wp_v, wp_res, wp_resD, wp_blt, wp_ehs_cons, wp_ehs_nil, wp_ress_cons, wp_ress_nil, wp_asg, wp_setI, wp_ret, wp_ex, wp_own, wp_plOf, wp_getC, wp_setC, wp_call, wp_el_cons, wp_el_nil, List.getD_cons_zero, List.getD_cons_succ, List.set_cons_zero, List.set_cons_succ, cellV, ixV_cl, ixV_dl, ixV_dt, at0, at1, at2, at3, at4, ixn0, ixn1, ixn2, ixn3, ixn4, cmp_eq_int, cmp_ne_int, cmp_lt_int, cmp_le_int, cmp_gt_int, cmp_ge_int, bop_add_int, bop_sub_int, bop_mul_ex, bop_mod_ex, bop_fdiv_ex, bop_pow_ex, some_ex, len_cl, len_dl, len_dt, abs_i, int_i, int_b, min_i, max_i, List.length_map, D.int.injEq, D.bl.injEq, D.lst.injEq, Cell.lst.injEq, Option.some.injEq, exists_eq_left', exists_and_left, exists_eq_left, exists_and_right, decide_eq_true_eq, decide_eq_false_iff_not, false_implies, true_implies, and_true, true_and,  min_i]
    refine ⟨?_, ?_, p2.mono (by omega)⟩
    · split <;> omega
    · split <;> omega
  have p1' := p1
  obtain ⟨a, b, c, i, xs, rfl, q1, q2⟩ := p1'
  have hG : ∀ c, (S0.set k c).getD k none = c := fun c => getD_set_same q2
  simp only [wp_cons, wp_nil, wp_ifs2, wp_tand, wp_tor, wp_tnot, wp_tval, wp_cmp, wp_ix, wp_bin, wp_neg, wp_fld, hw_v, hw_cst, hw_of, ne_eq, reduceCtorEq, not_false_eq_true, implies_true, forall_const, wp_cst, wp_v, wp_res, wp_resD, wp_blt, wp_ehs_cons, wp_ehs_nil, wp_ress_cons, wp_ress_nil, wp_asg, wp_setI, wp_ret, wp_ex, wp_own, wp_plOf, wp_getC, wp_setC, wp_call, wp_el_cons, wp_el_nil, List.getD_cons_zero, List.getD_cons_succ, List.set_cons_zero, List.set_cons_succ, cellV, ixV_cl, ixV_dl, ixV_dt, at0, at1, at2, at3, at4, ixn0, ixn1, ixn2, ixn3, ixn4, cmp_eq_int, cmp_ne_int, cmp_lt_int, cmp_le_int, cmp_gt_int, cmp_ge_int, bop_add_int, bop_sub_int, bop_mul_ex, bop_mod_ex, bop_fdiv_ex, bop_pow_ex, some_ex, len_cl, len_dl, len_dt, abs_i, int_i, int_b, min_i, max_i, List.length_map, D.int.injEq, D.bl.injEq, D.lst.injEq, Cell.lst.injEq, Option.some.injEq, exists_eq_left', exists_and_left, exists_eq_left, exists_and_right, decide_eq_true_eq, decide_eq_false_iff_not, false_implies, true_implies, and_true, true_and,  b__law_great_7, hG, pool]
  refine ⟨fun ha => ?_, fun ha => ?_⟩
  · simp only [wp_cons, wp_nil, wp_ifs2, wp_tand, wp_tor, wp_tnot, wp_tval, wp_cmp, wp_ix, wp_bin, wp_neg, wp_fld, hw_v, hw_cst, hw_of, ne_eq, reduceCtorEq, not_false_eq_true, implies_true, forall_const, wp_cst, wp_v, wp_res, wp_resD, wp_blt, wp_ehs_cons, wp_ehs_nil, wp_ress_cons, wp_ress_nil, wp_asg, wp_setI, wp_ret, wp_ex, wp_own, wp_plOf, wp_getC, wp_setC, wp_call, wp_el_cons, wp_el_nil, List.getD_cons_zero, List.getD_cons_succ, List.set_cons_zero, List.set_cons_succ, cellV, ixV_cl, ixV_dl, ixV_dt, at0, at1, at2, at3, at4, ixn0, ixn1, ixn2, ixn3, ixn4, cmp_eq_int, cmp_ne_int, cmp_lt_int, cmp_le_int, cmp_gt_int, cmp_ge_int, bop_add_int, bop_sub_int, bop_mul_ex, bop_mod_ex, bop_fdiv_ex, bop_pow_ex, some_ex, len_cl, len_dl, len_dt, abs_i, int_i, int_b, min_i, max_i, List.length_map, D.int.injEq, D.bl.injEq, D.lst.injEq, Cell.lst.injEq, Option.some.injEq, exists_eq_left', exists_and_left, exists_eq_left, exists_and_right, decide_eq_true_eq, decide_eq_false_iff_not, false_implies, true_implies, and_true, true_and,  b__law_great_2, hA.has]
    refine cwp_mono (hA.st (S0 := S0) p1 (by omega) (by omega) ⟨by omega, by omega⟩) fun d S' ⟨v, hd, v0, v1, p2⟩ => ?_
    subst hd
    exact ⟨_, rfl, v0, by omega, p2.mono (by omega)⟩
  simp only [wp_cons, wp_nil, wp_ifs2, wp_tand, wp_tor, wp_tnot, wp_tval, wp_cmp, wp_ix, wp_bin, wp_neg, wp_fld, hw_v, hw_cst, hw_of, ne_eq, reduceCtorEq, not_false_eq_true, implies_true, forall_const, wp_cst, wp_v, wp_res, wp_resD, wp_blt, wp_ehs_cons, wp_ehs_nil, wp_ress_cons, wp_ress_nil, wp_asg, wp_setI, wp_ret, wp_ex, wp_own, wp_plOf, wp_getC, wp_setC, wp_call, wp_el_cons, wp_el_nil, List.getD_cons_zero, List.getD_cons_succ, List.set_cons_zero, List.set_cons_succ, cellV, ixV_cl, ixV_dl, ixV_dt, at0, at1, at2, at3, at4, ixn0, ixn1, ixn2, ixn3, ixn4, cmp_eq_int, cmp_ne_int, cmp_lt_int, cmp_le_int, cmp_gt_int, cmp_ge_int, bop_add_int, bop_sub_int, bop_mul_ex, bop_mod_ex, bop_fdiv_ex, bop_pow_ex, some_ex, len_cl, len_dl, len_dt, abs_i, int_i, int_b, min_i, max_i, List.length_map, D.int.injEq, D.bl.injEq, D.lst.injEq, Cell.lst.injEq, Option.some.injEq, exists_eq_left', exists_and_left, exists_eq_left, exists_and_right, decide_eq_true_eq, decide_eq_false_iff_not, false_implies, true_implies, and_true, true_and,  b__law_great_6]
  rw [b__law_great_5, wp_cons]
  refine for_fix (xs := irange 0 4) (fun j e s => ∃ g x, e = [.val (.ref k), .val (.int m), .val (.int w), .val (.int g), x] ∧ 0 ≤ g ∧ g < 10 ^ (8 * j) ∧ PoolSt k (N + 1 + j) S0 s) ?_ ?_ ?_
  · rw [wp_irng1, wp_cst]
    exact ⟨4, rfl, by decide, rfl, 0, _, rfl, by omega, by decide, p1.mono (by omega)⟩
  · rintro j x e s hx ⟨g, y, rfl, g0, g1, ps⟩
    obtain ⟨rfl, hj⟩ := irange_get hx
    rw [wp_put_nm]
    have hj4 : j < 4 := by omega
    refine great_body hA ps (by omega) g0 (by
      have : (10 : Int) ^ (8 * j) ≤ 1000000000000000000000000 := by
        obtain rfl | rfl | rfl | rfl : j = 0 ∨ j = 1 ∨ j = 2 ∨ j = 3 := by omega
        all_goals decide
      omega) fun v S' v0 v1 p2 => ?_
    refine ⟨g * 10 ^ 8 + v, _, rfl, ?_, ?_, p2.mono (by omega)⟩
    · have e : (10 : Int) ^ 8 = 100000000 := by decide
      omega
    · have e : (10 : Int) ^ (8 * (j + 1)) = 10 ^ (8 * j) * 100000000 := by
        rw [show 8 * (j + 1) = 8 * j + 8 by omega, Int.pow_add]
        congr 1
      have e8 : (10 : Int) ^ 8 = 100000000 := by decide
      rw [e, e8]
      omega
  · rintro e s ⟨g, x, rfl, g0, g1, ps⟩
    simp only [wp_cons, wp_nil, wp_ifs2, wp_tand, wp_tor, wp_tnot, wp_tval, wp_cmp, wp_ix, wp_bin, wp_neg, wp_fld, hw_v, hw_cst, hw_of, ne_eq, reduceCtorEq, not_false_eq_true, implies_true, forall_const, wp_cst, wp_v, wp_res, wp_resD, wp_blt, wp_ehs_cons, wp_ehs_nil, wp_ress_cons, wp_ress_nil, wp_asg, wp_setI, wp_ret, wp_ex, wp_own, wp_plOf, wp_getC, wp_setC, wp_call, wp_el_cons, wp_el_nil, List.getD_cons_zero, List.getD_cons_succ, List.set_cons_zero, List.set_cons_succ, cellV, ixV_cl, ixV_dl, ixV_dt, at0, at1, at2, at3, at4, ixn0, ixn1, ixn2, ixn3, ixn4, cmp_eq_int, cmp_ne_int, cmp_lt_int, cmp_le_int, cmp_gt_int, cmp_ge_int, bop_add_int, bop_sub_int, bop_mul_ex, bop_mod_ex, bop_fdiv_ex, bop_pow_ex, some_ex, len_cl, len_dl, len_dt, abs_i, int_i, int_b, min_i, max_i, List.length_map, D.int.injEq, D.bl.injEq, D.lst.injEq, Cell.lst.injEq, Option.some.injEq, exists_eq_left', exists_and_left, exists_eq_left, exists_and_right, decide_eq_true_eq, decide_eq_false_iff_not, false_implies, true_implies, and_true, true_and,  b__law_great_4]
    have h5 := Int.emod_lt_of_pos g (show 0 < m + 1 by omega)
    refine ⟨by omega, Int.emod_nonneg _ (by omega), by omega, ps.mono (by rw [irange_len]; omega)⟩
end Vm
namespace Vm
open PySem
def b__law_depot_0 : Sm := .cons (.asg (.nm 5) (.bin .add (.cst (.int (1))) (.call "_law_take" (.cons (.v 0) (.cons (.blt .min2 (.cons (.v 4) (.cons (.cst (.int (2))) .nil))) .nil))))) .nil
def b__law_depot_1 : Sm := .cons (.ex (.mut .insert (.v 6) (.cons (.call "_law_take" (.cons (.v 0) (.cons (.bin .add (.blt .len (.cons (.v 6) .nil)) (.cst (.int (1)))) .nil))) (.cons (.bin .add (.cst (.int (1))) (.call "_law_take" (.cons (.v 0) (.cons (.v 3) .nil)))) .nil)))) .nil
def b__law_depot_2 : Sm := .cons (.ret (.lst (.cons (.v 3) (.cons (.v 5) (.cons (.v 6) .nil))))) .nil
def b__law_depot_3 : Sm := .cons (.for_ (.nm 7) (.irng1 (.bin .sub (.v 4) (.v 5))) b__law_depot_1) b__law_depot_2
def b__law_depot_4 : Sm := .cons (.own 6 (.bin .mul (.lst (.cons (.cst (.int (1))) .nil)) (.v 5))) b__law_depot_3
def b__law_depot_5 : Sm := .cons (.ifs (.tval (.cmp .gt (.call "_law_take" (.cons (.v 0) (.cons (.cst (.int (3))) .nil))) (.cst (.int (0))))) b__law_depot_0 .nil) b__law_depot_4
def b__law_depot_6 : Sm := .cons (.asg (.nm 5) (.bin .add (.cst (.int (1))) (.call "_law_take" (.cons (.v 0) (.cons (.v 4) .nil))))) b__law_depot_5
def b__law_depot_7 : Sm := .cons (.asg (.nm 4) (.bin .add (.cst (.int (1))) (.call "_law_take" (.cons (.v 0) (.cons (.v 1) .nil))))) b__law_depot_6
def b__law_depot_8 : Sm := .cons (.asg (.nm 3) (.bin .add (.cst (.int (1))) (.call "_law_take" (.cons (.v 0) (.cons (.v 2) .nil))))) b__law_depot_7
def f__law_depot : Fn := ⟨3, 8, b__law_depot_8, none⟩
structure PlanOk (dr pe m q : Int) (fs : List Int) : Prop where
  m1 : 1 ≤ m
  m2 : m ≤ pe
  q1 : 1 ≤ q
  q2 : q ≤ fs.count 1
  n2 : (fs.length : Int) ≤ dr
  f : ∀ x ∈ fs, 1 ≤ x ∧ x ≤ m
theorem mul_rep {xs : List D} {n : Int} (h0 : 0 ≤ n) (h1 : xs.length * n.toNat ≤ 2 ^ 24) (h2 : n < 2 ^ 63) : bop .mul (.d (.lst xs)) (.d (.int n)) = some (.lst (List.replicate n.toNat xs).flatten) := by
  show (if -(2 ^ 63) ≤ n ∧ n < 2 ^ 63 ∧ xs.length * n.toNat ≤ 2 ^ 24 then some _ else none) = _
  rw [if_pos ⟨by omega, h2, h1⟩]
theorem insert_ok {xs : List D} {i : Int} {y : D} (h0 : 0 ≤ i) (h1 : i < 2 ^ 63) (h2 : xs.length < 2 ^ 24) : mtF .insert xs [.int i, y] = some (.non, xs.take i.toNat ++ [y] ++ xs.drop i.toNat) := by
  show (if 0 ≤ i ∧ i < 2 ^ 63 ∧ xs.length < 2 ^ 24 then some _ else none) = _
  rw [if_pos ⟨h0, h1, h2⟩]
/-- one more first, drawn in -/
theorem depot_body {A : Api} (hA : Draws A) {k : Nat} {S0 S : Store} {N dr pe m n q : Int} {fs : List Int} {x : Slot} {Q : Fl → Env → Store → Prop} (p : PoolSt k N S0 S) (hN : N < 900000000) (hm : 1 ≤ m) (hm2 : m < 1000) (hl : fs.length < 1000)
    (h : ∀ i v S', 0 ≤ i → i < (fs.length : Int) + 1 → 1 ≤ v → v ≤ m → PoolSt k (N + 2) S0 S' → Q .next [.val (.ref k), .val (.int dr), .val (.int pe), .val (.int m), .val (.int n), .val (.int q), .own (.lst ((fs.take i.toNat ++ [v] ++ fs.drop i.toNat).map .int)), x] S') :
    (ex A b__law_depot_1).wp [.val (.ref k), .val (.int dr), .val (.int pe), .val (.int m), .val (.int n), .val (.int q), .own (.lst (fs.map .int)), x] S Q := by
  simp only [wp_cons, wp_nil, wp_ifs2, wp_tand, wp_tor, wp_tnot, wp_tval, wp_cmp, wp_ix, wp_bin, wp_neg, wp_fld, hw_v, hw_cst, hw_of, ne_eq, reduceCtorEq, not_false_eq_true, implies_true, forall_const, wp_cst, wp_v, wp_res, wp_resD, wp_blt, wp_ehs_cons, wp_ehs_nil, wp_ress_cons, wp_ress_nil, wp_asg, wp_setI, wp_ret, wp_ex, wp_own, wp_plOf, wp_getC, wp_setC, wp_call, wp_el_cons, wp_el_nil, List.getD_cons_zero, List.getD_cons_succ, List.set_cons_zero, List.set_cons_succ, cellV, ixV_cl, ixV_dl, ixV_dt, at0, at1, at2, at3, at4, ixn0, ixn1, ixn2, ixn3, ixn4, cmp_eq_int, cmp_ne_int, cmp_lt_int, cmp_le_int, cmp_gt_int, cmp_ge_int, bop_add_int, bop_sub_int, bop_mul_ex, bop_mod_ex, bop_fdiv_ex, bop_pow_ex, some_ex, len_cl, len_dl, len_dt, abs_i, int_i, int_b, min_i, max_i, List.length_map, D.int.injEq, D.bl.injEq, D.lst.injEq, Cell.lst.injEq, Option.some.injEq, exists_eq_left', exists_and_left, exists_eq_left, exists_and_right, decide_eq_true_eq, decide_eq_false_iff_not, false_implies, true_implies, and_true, true_and,  b__law_depot_1, hA.has, wp_mut, wp_isLst]
  refine ⟨⟨_, rfl⟩, ?_⟩
  refine cwp_mono (hA.st p (by omega) (by omega) ⟨by omega, by omega⟩) fun d S1 ⟨i, hd, i0, i1, p1⟩ => ?_
  subst hd
  refine cwp_mono (hA.st p1 (by omega) (by omega) ⟨by omega, by omega⟩) fun d S2 ⟨v, hd, v0, v1, p2⟩ => ?_
  subst hd
  simp only [wp_cons, wp_nil, wp_ifs2, wp_tand, wp_tor, wp_tnot, wp_tval, wp_cmp, wp_ix, wp_bin, wp_neg, wp_fld, hw_v, hw_cst, hw_of, ne_eq, reduceCtorEq, not_false_eq_true, implies_true, forall_const, wp_cst, wp_v, wp_res, wp_resD, wp_blt, wp_ehs_cons, wp_ehs_nil, wp_ress_cons, wp_ress_nil, wp_asg, wp_setI, wp_ret, wp_ex, wp_own, wp_plOf, wp_getC, wp_setC, wp_call, wp_el_cons, wp_el_nil, List.getD_cons_zero, List.getD_cons_succ, List.set_cons_zero, List.set_cons_succ, cellV, ixV_cl, ixV_dl, ixV_dt, at0, at1, at2, at3, at4, ixn0, ixn1, ixn2, ixn3, ixn4, cmp_eq_int, cmp_ne_int, cmp_lt_int, cmp_le_int, cmp_gt_int, cmp_ge_int, bop_add_int, bop_sub_int, bop_mul_ex, bop_mod_ex, bop_fdiv_ex, bop_pow_ex, some_ex, len_cl, len_dl, len_dt, abs_i, int_i, int_b, min_i, max_i, List.length_map, D.int.injEq, D.bl.injEq, D.lst.injEq, Cell.lst.injEq, Option.some.injEq, exists_eq_left', exists_and_left, exists_eq_left, exists_and_right, decide_eq_true_eq, decide_eq_false_iff_not, false_implies, true_implies, and_true, true_and,  wp_mtArgs]
  refine ⟨_, insert_ok i0 (by omega) (by rw [List.length_map]; omega), ?_⟩
  have e : (fs.map D.int).take i.toNat ++ [D.int (1 + v)] ++ (fs.map D.int).drop i.toNat = (fs.take i.toNat ++ [1 + v] ++ fs.drop i.toNat).map .int := by
    simp [List.map_take, List.map_drop]
  dsimp only
  rw [e]
  exact h i (1 + v) S2 i0 i1 (by omega) (by omega) (p2.mono (by omega))
theorem count_ins {fs : List Int} {i : Nat} {v : Int} : fs.count 1 ≤ (fs.take i ++ [v] ++ fs.drop i).count 1 := by
  have h : fs.count 1 = (fs.take i).count 1 + (fs.drop i).count 1 := by
    rw [← List.count_append, List.take_append_drop]
  rw [List.count_append, List.count_append]
  omega
theorem len_ins {fs : List Int} {i : Nat} {v : Int} : (fs.take i ++ [v] ++ fs.drop i).length = fs.length + 1 := by
  simp only [List.length_append, List.length_take, List.length_drop, List.length_cons, List.length_nil]
  omega
theorem rep_one (c : Nat) : (List.replicate (c : Int).toNat [D.int 1]).flatten = (List.replicate c (1 : Int)).map D.int := by
  rw [Int.toNat_natCast]
  induction c with
  | zero => rfl
  | succ c ih =>
    rw [List.replicate_succ, List.flatten_cons, ih, List.replicate_succ]
    rfl
theorem depot_spec {A : Api} (hA : Draws A) {k : Nat} {S0 S : Store} {N dr pe : Int} (p : PoolSt k N S0 S) (hN : N < 800000000) (h1 : 1 ≤ dr) (h2 : dr < 100) (h3 : 1 ≤ pe) (h4 : pe < 100) :
    (f__law_depot.run A [.ref k, .int dr, .int pe] S).wp fun d S' => ∃ (m q : Int) (fs : List Int), d = .lst [.int m, .int q, .lst (fs.map .int)] ∧ PlanOk dr pe m q fs ∧ PoolSt k (N + 300) S0 S' := by
  refine run_wp rfl rfl ?_
  show (ex A b__law_depot_8).wp [.val (.ref k), .val (.int dr), .val (.int pe), .emp, .emp, .emp, .emp, .emp] S _
  simp only [wp_cons, wp_nil, wp_ifs2, wp_tand, wp_tor, wp_tnot, wp_tval, wp_cmp, wp_ix, wp_bin, wp_neg, wp_fld, hw_v, hw_cst, hw_of, ne_eq, reduceCtorEq, not_false_eq_true, implies_true, forall_const, wp_cst, wp_v, wp_res, wp_resD, wp_blt, wp_ehs_cons, wp_ehs_nil, wp_ress_cons, wp_ress_nil, wp_asg, wp_setI, wp_ret, wp_ex, wp_own, wp_plOf, wp_getC, wp_setC, wp_call, wp_el_cons, wp_el_nil, List.getD_cons_zero, List.getD_cons_succ, List.set_cons_zero, List.set_cons_succ, cellV, ixV_cl, ixV_dl, ixV_dt, at0, at1, at2, at3, at4, ixn0, ixn1, ixn2, ixn3, ixn4, cmp_eq_int, cmp_ne_int, cmp_lt_int, cmp_le_int, cmp_gt_int, cmp_ge_int, bop_add_int, bop_sub_int, bop_mul_ex, bop_mod_ex, bop_fdiv_ex, bop_pow_ex, some_ex, len_cl, len_dl, len_dt, abs_i, int_i, int_b, min_i, max_i, List.length_map, D.int.injEq, D.bl.injEq, D.lst.injEq, Cell.lst.injEq, Option.some.injEq, exists_eq_left', exists_and_left, exists_eq_left, exists_and_right, decide_eq_true_eq, decide_eq_false_iff_not, false_implies, true_implies, and_true, true_and,  b__law_depot_8, hA.has]
  refine cwp_mono (hA.st p (by omega) (by omega) ⟨by omega, by omega⟩) fun d S1 ⟨m, hd, m0, m1, p1⟩ => ?_
  subst hd
  simp only [wp_cons, wp_nil, wp_ifs2, wp_tand, wp_tor, wp_tnot, wp_tval, wp_cmp, wp_ix, wp_bin, wp_neg, wp_fld, hw_v, hw_cst, hw_of, ne_eq, reduceCtorEq, not_false_eq_true, implies_true, forall_const, wp_cst, wp_v, wp_res, wp_resD, wp_blt, wp_ehs_cons, wp_ehs_nil, wp_ress_cons, wp_ress_nil, wp_asg, wp_setI, wp_ret, wp_ex, wp_own, wp_plOf, wp_getC, wp_setC, wp_call, wp_el_cons, wp_el_nil, List.getD_cons_zero, List.getD_cons_succ, List.set_cons_zero, List.set_cons_succ, cellV, ixV_cl, ixV_dl, ixV_dt, at0, at1, at2, at3, at4, ixn0, ixn1, ixn2, ixn3, ixn4, cmp_eq_int, cmp_ne_int, cmp_lt_int, cmp_le_int, cmp_gt_int, cmp_ge_int, bop_add_int, bop_sub_int, bop_mul_ex, bop_mod_ex, bop_fdiv_ex, bop_pow_ex, some_ex, len_cl, len_dl, len_dt, abs_i, int_i, int_b, min_i, max_i, List.length_map, D.int.injEq, D.bl.injEq, D.lst.injEq, Cell.lst.injEq, Option.some.injEq, exists_eq_left', exists_and_left, exists_eq_left, exists_and_right, decide_eq_true_eq, decide_eq_false_iff_not, false_implies, true_implies, and_true, true_and,  b__law_depot_7, hA.has]
  refine cwp_mono (hA.st p1 (by omega) (by omega) ⟨by omega, by omega⟩) fun d S1 ⟨n, hd, n0, n1, p2⟩ => ?_
  subst hd
  simp only [wp_cons, wp_nil, wp_ifs2, wp_tand, wp_tor, wp_tnot, wp_tval, wp_cmp, wp_ix, wp_bin, wp_neg, wp_fld, hw_v, hw_cst, hw_of, ne_eq, reduceCtorEq, not_false_eq_true, implies_true, forall_const, wp_cst, wp_v, wp_res, wp_resD, wp_blt, wp_ehs_cons, wp_ehs_nil, wp_ress_cons, wp_ress_nil, wp_asg, wp_setI, wp_ret, wp_ex, wp_own, wp_plOf, wp_getC, wp_setC, wp_call, wp_el_cons, wp_el_nil, List.getD_cons_zero, List.getD_cons_succ, List.set_cons_zero, List.set_cons_succ, cellV, ixV_cl, ixV_dl, ixV_dt, at0, at1, at2, at3, at4, ixn0, ixn1, ixn2, ixn3, ixn4, cmp_eq_int, cmp_ne_int, cmp_lt_int, cmp_le_int, cmp_gt_int, cmp_ge_int, bop_add_int, bop_sub_int, bop_mul_ex, bop_mod_ex, bop_fdiv_ex, bop_pow_ex, some_ex, len_cl, len_dl, len_dt, abs_i, int_i, int_b, min_i, max_i, List.length_map, D.int.injEq, D.bl.injEq, D.lst.injEq, Cell.lst.injEq, Option.some.injEq, exists_eq_left', exists_and_left, exists_eq_left, exists_and_right, decide_eq_true_eq, decide_eq_false_iff_not, false_implies, true_implies, and_true, true_and,  b__law_depot_6, hA.has]
  refine cwp_mono (hA.st p2 (by omega) (by omega) ⟨by omega, by omega⟩) fun d S1 ⟨q, hd, q0, q1, p3⟩ => ?_
  subst hd
  simp only [wp_cons, wp_nil, wp_ifs2, wp_tand, wp_tor, wp_tnot, wp_tval, wp_cmp, wp_ix, wp_bin, wp_neg, wp_fld, hw_v, hw_cst, hw_of, ne_eq, reduceCtorEq, not_false_eq_true, implies_true, forall_const, wp_cst, wp_v, wp_res, wp_resD, wp_blt, wp_ehs_cons, wp_ehs_nil, wp_ress_cons, wp_ress_nil, wp_asg, wp_setI, wp_ret, wp_ex, wp_own, wp_plOf, wp_getC, wp_setC, wp_call, wp_el_cons, wp_el_nil, List.getD_cons_zero, List.getD_cons_succ, List.set_cons_zero, List.set_cons_succ, cellV, ixV_cl, ixV_dl, ixV_dt, at0, at1, at2, at3, at4, ixn0, ixn1, ixn2, ixn3, ixn4, cmp_eq_int, cmp_ne_int, cmp_lt_int, cmp_le_int, cmp_gt_int, cmp_ge_int, bop_add_int, bop_sub_int, bop_mul_ex, bop_mod_ex, bop_fdiv_ex, bop_pow_ex, some_ex, len_cl, len_dl, len_dt, abs_i, int_i, int_b, min_i, max_i, List.length_map, D.int.injEq, D.bl.injEq, D.lst.injEq, Cell.lst.injEq, Option.some.injEq, exists_eq_left', exists_and_left, exists_eq_left, exists_and_right, decide_eq_true_eq, decide_eq_false_iff_not, false_implies, true_implies, and_true, true_and,  b__law_depot_5, hA.has]
  have tail : ∀ {q S1}, 1 ≤ q → q ≤ 1 + n → PoolSt k (N + 5) S0 S1 → (ex A b__law_depot_4).wp [.val (.ref k), .val (.int dr), .val (.int pe), .val (.int (1 + m)), .val (.int (1 + n)), .val (.int q), .emp, .emp] S1 fun fl _ s => ∃ d, fl = .ret d ∧ ∃ (m q : Int) (fs : List Int), d = .lst [.int m, .int q, .lst (fs.map .int)] ∧ PlanOk dr pe m q fs ∧ PoolSt k (N + 300) S0 s := fun {q S1} q1 q2 p4 => by
    obtain ⟨c, rfl⟩ : ∃ c : Nat, q = (c : Int) := ⟨q.toNat, by omega⟩
    have er : (List.replicate (c : Int).toNat [D.int 1]).flatten = (List.replicate c (1 : Int)).map D.int := rep_one c
    have em := mul_rep (xs := [D.int 1]) (n := (c : Int)) (by omega) (by simp; omega) (by omega)
    rw [er] at em
    simp only [wp_cons, wp_nil, wp_ifs2, wp_tand, wp_tor, wp_tnot, wp_tval, wp_cmp, wp_ix, wp_bin, wp_neg, wp_fld, hw_v, hw_cst, hw_of, ne_eq, reduceCtorEq, not_false_eq_true, implies_true, forall_const, wp_cst, wp_v, wp_res, wp_resD, wp_blt, wp_ehs_cons, wp_ehs_nil, wp_ress_cons, wp_ress_nil, wp_asg, wp_setI, wp_ret, wp_ex, wp_own, wp_plOf, wp_getC, wp_setC, wp_call, wp_el_cons, wp_el_nil, List.getD_cons_zero, List.getD_cons_succ, List.set_cons_zero, List.set_cons_succ, cellV, ixV_cl, ixV_dl, ixV_dt, at0, at1, at2, at3, at4, ixn0, ixn1, ixn2, ixn3, ixn4, cmp_eq_int, cmp_ne_int, cmp_lt_int, cmp_le_int, cmp_gt_int, cmp_ge_int, bop_add_int, bop_sub_int, bop_mul_ex, bop_mod_ex, bop_fdiv_ex, bop_pow_ex, some_ex, len_cl, len_dl, len_dt, abs_i, int_i, int_b, min_i, max_i, List.length_map, D.int.injEq, D.bl.injEq, D.lst.injEq, Cell.lst.injEq, Option.some.injEq, exists_eq_left', exists_and_left, exists_eq_left, exists_and_right, decide_eq_true_eq, decide_eq_false_iff_not, false_implies, true_implies, and_true, true_and,  b__law_depot_4, wp_lst, List.length_cons, List.length_nil, em]
    refine ⟨by decide, ?_⟩
    rw [b__law_depot_3, wp_cons]
    refine for_fix (xs := irange 0 (1 + n - c)) (fun j e s => ∃ (fs : List Int) (x : Slot), e = [.val (.ref k), .val (.int dr), .val (.int pe), .val (.int (1 + m)), .val (.int (1 + n)), .val (.int (c : Int)), .own (.lst (fs.map .int)), x] ∧ fs.length = c + j ∧ c ≤ fs.count 1 ∧ (∀ x ∈ fs, 1 ≤ x ∧ x ≤ 1 + m) ∧ PoolSt k (N + 5 + 2 * j) S0 s) ?_ ?_ ?_
    · rw [wp_irng1]
      simp only [wp_cons, wp_nil, wp_ifs2, wp_tand, wp_tor, wp_tnot, wp_tval, wp_cmp, wp_ix, wp_bin, wp_neg, wp_fld, hw_v, hw_cst, hw_of, ne_eq, reduceCtorEq, not_false_eq_true, implies_true, forall_const, wp_cst, wp_v, wp_res, wp_resD, wp_blt, wp_ehs_cons, wp_ehs_nil, wp_ress_cons, wp_ress_nil, wp_asg, wp_setI, wp_ret, wp_ex, wp_own, wp_plOf, wp_getC, wp_setC, wp_call, wp_el_cons, wp_el_nil, List.getD_cons_zero, List.getD_cons_succ, List.set_cons_zero, List.set_cons_succ, cellV, ixV_cl, ixV_dl, ixV_dt, at0, at1, at2, at3, at4, ixn0, ixn1, ixn2, ixn3, ixn4, cmp_eq_int, cmp_ne_int, cmp_lt_int, cmp_le_int, cmp_gt_int, cmp_ge_int, bop_add_int, bop_sub_int, bop_mul_ex, bop_mod_ex, bop_fdiv_ex, bop_pow_ex, some_ex, len_cl, len_dl, len_dt, abs_i, int_i, int_b, min_i, max_i, List.length_map, D.int.injEq, D.bl.injEq, D.lst.injEq, Cell.lst.injEq, Option.some.injEq, exists_eq_left', exists_and_left, exists_eq_left, exists_and_right, decide_eq_true_eq, decide_eq_false_iff_not, false_implies, true_implies, and_true, true_and]
      exact ⟨decide_eq_true ⟨by omega, by omega⟩, List.replicate c 1, ⟨_, rfl⟩, by simp, by rw [List.count_replicate_self]; exact Nat.le_refl _, fun x hx => by have := List.eq_of_mem_replicate hx; omega, p4.mono (by omega)⟩
    · rintro j x e s hx ⟨fs, y, rfl, fl, fc, ff, ps⟩
      obtain ⟨rfl, hj⟩ := irange_get hx
      rw [wp_put_nm]
      refine depot_body hA ps (by omega) (by omega) (by omega) (by omega) fun i v S' i0 i1 v0 v1 p5 => ?_
      refine ⟨fs.take i.toNat ++ [v] ++ fs.drop i.toNat, _, rfl, ?_, ?_, ?_, p5.mono (by omega)⟩
      · rw [len_ins]
        omega
      · exact Nat.le_trans fc count_ins
      · intro z hz
        simp only [List.mem_append, List.mem_singleton] at hz
        rcases hz with (hz | rfl) | hz
        · exact ff z (List.mem_of_mem_take hz)
        · exact ⟨v0, v1⟩
        · exact ff z (List.mem_of_mem_drop hz)
    · rintro e s ⟨fs, y, rfl, fl, fc, ff, ps⟩
      rw [irange_len] at fl ps
      simp only [wp_cons, wp_nil, wp_ifs2, wp_tand, wp_tor, wp_tnot, wp_tval, wp_cmp, wp_ix, wp_bin, wp_neg, wp_fld, hw_v, hw_cst, hw_of, ne_eq, reduceCtorEq, not_false_eq_true, implies_true, forall_const, wp_cst, wp_v, wp_res, wp_resD, wp_blt, wp_ehs_cons, wp_ehs_nil, wp_ress_cons, wp_ress_nil, wp_asg, wp_setI, wp_ret, wp_ex, wp_own, wp_plOf, wp_getC, wp_setC, wp_call, wp_el_cons, wp_el_nil, List.getD_cons_zero, List.getD_cons_succ, List.set_cons_zero, List.set_cons_succ, cellV, ixV_cl, ixV_dl, ixV_dt, at0, at1, at2, at3, at4, ixn0, ixn1, ixn2, ixn3, ixn4, cmp_eq_int, cmp_ne_int, cmp_lt_int, cmp_le_int, cmp_gt_int, cmp_ge_int, bop_add_int, bop_sub_int, bop_mul_ex, bop_mod_ex, bop_fdiv_ex, bop_pow_ex, some_ex, len_cl, len_dl, len_dt, abs_i, int_i, int_b, min_i, max_i, List.length_map, D.int.injEq, D.bl.injEq, D.lst.injEq, Cell.lst.injEq, Option.some.injEq, exists_eq_left', exists_and_left, exists_eq_left, exists_and_right, decide_eq_true_eq, decide_eq_false_iff_not, false_implies, true_implies, and_true, true_and,  b__law_depot_2, wp_lst, Cell.toD]
      exact ⟨by simp, _, rfl, 1 + m, (c : Int), fs, rfl, ⟨by omega, by omega, q1, by omega, by omega, ff⟩, ps.mono (by omega)⟩
  refine cwp_mono (hA.st p3 (by omega) (by omega) ⟨by omega, by omega⟩) fun d S1 ⟨t, hd, t0, t1, p4⟩ => ?_
  subst hd
  simp only [wp_cons, wp_nil, wp_ifs2, wp_tand, wp_tor, wp_tnot, wp_tval, wp_cmp, wp_ix, wp_bin, wp_neg, wp_fld, hw_v, hw_cst, hw_of, ne_eq, reduceCtorEq, not_false_eq_true, implies_true, forall_const, wp_cst, wp_v, wp_res, wp_resD, wp_blt, wp_ehs_cons, wp_ehs_nil, wp_ress_cons, wp_ress_nil, wp_asg, wp_setI, wp_ret, wp_ex, wp_own, wp_plOf, wp_getC, wp_setC, wp_call, wp_el_cons, wp_el_nil, List.getD_cons_zero, List.getD_cons_succ, List.set_cons_zero, List.set_cons_succ, cellV, ixV_cl, ixV_dl, ixV_dt, at0, at1, at2, at3, at4, ixn0, ixn1, ixn2, ixn3, ixn4, cmp_eq_int, cmp_ne_int, cmp_lt_int, cmp_le_int, cmp_gt_int, cmp_ge_int, bop_add_int, bop_sub_int, bop_mul_ex, bop_mod_ex, bop_fdiv_ex, bop_pow_ex, some_ex, len_cl, len_dl, len_dt, abs_i, int_i, int_b, min_i, max_i, List.length_map, D.int.injEq, D.bl.injEq, D.lst.injEq, Cell.lst.injEq, Option.some.injEq, exists_eq_left', exists_and_left, exists_eq_left, exists_and_right, decide_eq_true_eq, decide_eq_false_iff_not, false_implies, true_implies, and_true, true_and]
  refine ⟨fun ht => ?_, fun ht => wp_mono (tail (q := 1 + q) (by omega) (by omega) (p4.mono (by omega))) fun f e s ⟨d, hd, z⟩ => by subst hd; exact z⟩
  simp only [wp_cons, wp_nil, wp_ifs2, wp_tand, wp_tor, wp_tnot, wp_tval, wp_cmp, wp_ix, wp_bin, wp_neg, wp_fld, hw_v, hw_cst, hw_of, ne_eq, reduceCtorEq, not_false_eq_true, implies_true, forall_const, wp_cst, wp_v, wp_res, wp_resD, wp_blt, wp_ehs_cons, wp_ehs_nil, wp_ress_cons, wp_ress_nil, wp_asg, wp_setI, wp_ret, wp_ex, wp_own, wp_plOf, wp_getC, wp_setC, wp_call, wp_el_cons, wp_el_nil, List.getD_cons_zero, List.getD_cons_succ, List.set_cons_zero, List.set_cons_succ, cellV, ixV_cl, ixV_dl, ixV_dt, at0, at1, at2, at3, at4, ixn0, ixn1, ixn2, ixn3, ixn4, cmp_eq_int, cmp_ne_int, cmp_lt_int, cmp_le_int, cmp_gt_int, cmp_ge_int, bop_add_int, bop_sub_int, bop_mul_ex, bop_mod_ex, bop_fdiv_ex, bop_pow_ex, some_ex, len_cl, len_dl, len_dt, abs_i, int_i, int_b, min_i, max_i, List.length_map, D.int.injEq, D.bl.injEq, D.lst.injEq, Cell.lst.injEq, Option.some.injEq, exists_eq_left', exists_and_left, exists_eq_left, exists_and_right, decide_eq_true_eq, decide_eq_false_iff_not, false_implies, true_implies, and_true, true_and,  b__law_depot_0, hA.has, min_i]
  refine cwp_mono (hA.st p4 (by omega) (by split <;> omega) (by split <;> exact ⟨by omega, by omega⟩)) fun d S1 ⟨v, hd, v0, v1, p5⟩ => ?_
  subst hd
  simp only [wp_cons, wp_nil, wp_ifs2, wp_tand, wp_tor, wp_tnot, wp_tval, wp_cmp, wp_ix, wp_bin, wp_neg, wp_fld, hw_v, hw_cst, hw_of, ne_eq, reduceCtorEq, not_false_eq_true, implies_true, forall_const, wp_cst, wp_v, wp_res, wp_resD, wp_blt, wp_ehs_cons, wp_ehs_nil, wp_ress_cons, wp_ress_nil, wp_asg, wp_setI, wp_ret, wp_ex, wp_own, wp_plOf, wp_getC, wp_setC, wp_call, wp_el_cons, wp_el_nil, List.getD_cons_zero, List.getD_cons_succ, List.set_cons_zero, List.set_cons_succ, cellV, ixV_cl, ixV_dl, ixV_dt, at0, at1, at2, at3, at4, ixn0, ixn1, ixn2, ixn3, ixn4, cmp_eq_int, cmp_ne_int, cmp_lt_int, cmp_le_int, cmp_gt_int, cmp_ge_int, bop_add_int, bop_sub_int, bop_mul_ex, bop_mod_ex, bop_fdiv_ex, bop_pow_ex, some_ex, len_cl, len_dl, len_dt, abs_i, int_i, int_b, min_i, max_i, List.length_map, D.int.injEq, D.bl.injEq, D.lst.injEq, Cell.lst.injEq, Option.some.injEq, exists_eq_left', exists_and_left, exists_eq_left, exists_and_right, decide_eq_true_eq, decide_eq_false_iff_not, false_implies, true_implies, and_true, true_and]
  have hv : v < 1 + n := by
    split at v1 <;> omega
  exact wp_mono (tail (q := 1 + v) (by omega) (by omega) (p5.mono (by omega))) fun f e s ⟨d, hd, z⟩ => by subst hd; exact z
end Vm
namespace Vm
open PySem
def b__law_day_0 : Sm := .cons (.ret (.v 2)) .nil
def b__law_day_1 : Sm := .cons (.ifs (.tval (.cmp .eq (.bin .mod (.blt .int (.cons (.bin .sub (.v 0) (.v 2)) .nil)) (.v 1)) (.cst (.int (0))))) b__law_day_0 .nil) .nil
def b__law_day_2 : Sm := .cons (.ret (.cst (.int (0)))) .nil
def b__law_day_3 : Sm := .cons (.for_ (.nm 2) (.irng2 (.cst (.int (1))) (.bin .add (.v 1) (.cst (.int (1))))) b__law_day_1) b__law_day_2
def f__law_day : Fn := ⟨2, 3, b__law_day_3, none⟩
theorem day_hit {s m j : Int} (hm : 0 < m) (h0 : 0 ≤ j) (h1 : j < m) (h : (s - (1 + j)) % m = 0) : 1 + j = (s - 1) % m + 1 := by
  have e : s - 1 = (s - (1 + j)) + j := by omega
  have : (s - 1) % m = j := by
    rw [e, Int.add_emod, h, Int.zero_add, Int.emod_emod, Int.emod_eq_of_lt h0 h1]
  omega
theorem day_is {s m : Int} (hm : 0 < m) : (s - (1 + (s - 1) % m)) % m = 0 := by
  have : s - (1 + (s - 1) % m) = m * ((s - 1) / m) := by
    have := Int.emod_add_mul_ediv (s - 1) m
    omega
  rw [this, Int.mul_emod_right]
theorem day_spec {A : Api} {S : Store} {s m : Int} (hm : 1 ≤ m) (hm2 : m < 1000) : (f__law_day.run A [.int s, .int m] S).wp fun d S' => d = .int ((s - 1) % m + 1) ∧ S' = S := by
  refine run_wp rfl rfl ?_
  show (ex A b__law_day_3).wp [.val (.int s), .val (.int m), .emp] S _
  rw [b__law_day_3, wp_cons]
  refine for_fix (xs := irange 1 (m + 1)) (fun j e S' => ∃ x, e = [.val (.int s), .val (.int m), x] ∧ S' = S ∧ ∀ c : Int, 0 ≤ c → c < j → (s - (1 + c)) % m ≠ 0) ?_ ?_ ?_
  · rw [wp_irng2]
    simp only [wp_cons, wp_nil, wp_ifs2, wp_tand, wp_tor, wp_tnot, wp_tval, wp_cmp, wp_ix, wp_bin, wp_neg, wp_fld, hw_v, hw_cst, hw_of, ne_eq, reduceCtorEq, not_false_eq_true, implies_true, forall_const, wp_cst, wp_v, wp_res, wp_resD, wp_blt, wp_ehs_cons, wp_ehs_nil, wp_ress_cons, wp_ress_nil, wp_asg, wp_setI, wp_ret, wp_ex, wp_own, wp_plOf, wp_getC, wp_setC, wp_call, wp_el_cons, wp_el_nil, List.getD_cons_zero, List.getD_cons_succ, List.set_cons_zero, List.set_cons_succ, cellV, ixV_cl, ixV_dl, ixV_dt, at0, at1, at2, at3, at4, ixn0, ixn1, ixn2, ixn3, ixn4, cmp_eq_int, cmp_ne_int, cmp_lt_int, cmp_le_int, cmp_gt_int, cmp_ge_int, bop_add_int, bop_sub_int, bop_mul_ex, bop_mod_ex, bop_fdiv_ex, bop_pow_ex, some_ex, len_cl, len_dl, len_dt, abs_i, int_i, int_b, min_i, max_i, List.length_map, D.int.injEq, D.bl.injEq, D.lst.injEq, Cell.lst.injEq, Option.some.injEq, exists_eq_left', exists_and_left, exists_eq_left, exists_and_right, decide_eq_true_eq, decide_eq_false_iff_not, false_implies, true_implies, and_true, true_and]
    exact ⟨decide_eq_true ⟨by omega, by omega⟩, decide_eq_true ⟨by omega, by omega⟩, ⟨_, rfl⟩, by omega⟩
  · rintro j x e S' hx ⟨y, rfl, rfl, hc⟩
    obtain ⟨rfl, hj⟩ := irange_get hx
    rw [wp_put_nm]
    simp only [wp_cons, wp_nil, wp_ifs2, wp_tand, wp_tor, wp_tnot, wp_tval, wp_cmp, wp_ix, wp_bin, wp_neg, wp_fld, hw_v, hw_cst, hw_of, ne_eq, reduceCtorEq, not_false_eq_true, implies_true, forall_const, wp_cst, wp_v, wp_res, wp_resD, wp_blt, wp_ehs_cons, wp_ehs_nil, wp_ress_cons, wp_ress_nil, wp_asg, wp_setI, wp_ret, wp_ex, wp_own, wp_plOf, wp_getC, wp_setC, wp_call, wp_el_cons, wp_el_nil, List.getD_cons_zero, List.getD_cons_succ, List.set_cons_zero, List.set_cons_succ, cellV, ixV_cl, ixV_dl, ixV_dt, at0, at1, at2, at3, at4, ixn0, ixn1, ixn2, ixn3, ixn4, cmp_eq_int, cmp_ne_int, cmp_lt_int, cmp_le_int, cmp_gt_int, cmp_ge_int, bop_add_int, bop_sub_int, bop_mul_ex, bop_mod_ex, bop_fdiv_ex, bop_pow_ex, some_ex, len_cl, len_dl, len_dt, abs_i, int_i, int_b, min_i, max_i, List.length_map, D.int.injEq, D.bl.injEq, D.lst.injEq, Cell.lst.injEq, Option.some.injEq, exists_eq_left', exists_and_left, exists_eq_left, exists_and_right, decide_eq_true_eq, decide_eq_false_iff_not, false_implies, true_implies, and_true, true_and,  b__law_day_0, b__law_day_1]
    refine ⟨by omega, fun h => day_hit (by omega) (by omega) (by omega) h, fun h => ⟨⟨_, rfl⟩, fun c c0 c1 => ?_⟩⟩
    by_cases e : c = (j : Int)
    · rw [e]
      exact h
    · exact hc c c0 (by omega)
  · rintro e S' ⟨y, rfl, rfl, hc⟩
    have h1 := Int.emod_nonneg (s - 1) (show m ≠ 0 by omega)
    have h2 := Int.emod_lt_of_pos (s - 1) (show 0 < m by omega)
    exact absurd (day_is (show 0 < m by omega)) (hc ((s - 1) % m) h1 (by rw [irange_len]; omega))
end Vm
namespace Vm
open PySem
def b__law_number_0 : Sm := .cons (.ret (.andv (.blt (.isi ["int"]) (.cons (.v 0) .nil)) (.notv (.blt (.isi ["bool"]) (.cons (.v 0) .nil))))) .nil
def f__law_number : Fn := ⟨1, 1, b__law_number_0, none⟩
def b__law_same_0 : Sm := .cons (.ret (.cmp .is_ (.v 0) (.cst .non))) .nil
def b__law_same_1 : Sm := .cons (.ret (.andv (.blt (.isi ["bool"]) (.cons (.v 0) .nil)) (.cmp .eq (.v 0) (.v 1)))) .nil
def b__law_same_2 : Sm := .cons (.ret (.andv (.call "_law_number" (.cons (.v 0) .nil)) (.cmp .eq (.v 0) (.v 1)))) .nil
def b__law_same_3 : Sm := .cons (.ret (.andv (.blt (.isi ["str"]) (.cons (.v 0) .nil)) (.cmp .eq (.v 0) (.v 1)))) .nil
def b__law_same_4 : Sm := .cons (.ret (.cst (.bl false))) .nil
def b__law_same_5 : Sm := .cons (.ret (.cst (.bl false))) .nil
def b__law_same_6 : Sm := .cons (.ret (.cst (.bl false))) .nil
def b__law_same_7 : Sm := .cons (.ret (.cst (.bl false))) .nil
def b__law_same_8 : Sm := .cons (.ifs (.tnot (.tval (.call "_law_same" (.cons (.ix (.v 0) (.v 2)) (.cons (.ix (.v 1) (.v 2)) .nil))))) b__law_same_7 .nil) .nil
def b__law_same_9 : Sm := .cons (.ret (.cst (.bl true))) .nil
def b__law_same_10 : Sm := .cons (.for_ (.nm 2) (.irng1 (.blt .len (.cons (.v 1) .nil))) b__law_same_8) b__law_same_9
def b__law_same_11 : Sm := .cons (.ifs (.tval (.cmp .ne (.blt .len (.cons (.v 0) .nil)) (.blt .len (.cons (.v 1) .nil)))) b__law_same_6 .nil) b__law_same_10
def b__law_same_12 : Sm := .cons (.ifs (.tand (.tval (.blt (.isi ["tuple"]) (.cons (.v 1) .nil))) (.tnot (.tval (.blt (.isi ["tuple"]) (.cons (.v 0) .nil))))) b__law_same_5 .nil) b__law_same_11
def b__law_same_13 : Sm := .cons (.ifs (.tand (.tval (.blt (.isi ["list"]) (.cons (.v 1) .nil))) (.tnot (.tval (.blt (.isi ["list"]) (.cons (.v 0) .nil))))) b__law_same_4 .nil) b__law_same_12
def b__law_same_14 : Sm := .cons (.ifs (.tval (.blt (.isi ["str"]) (.cons (.v 1) .nil))) b__law_same_3 .nil) b__law_same_13
def b__law_same_15 : Sm := .cons (.ifs (.tval (.blt (.isi ["int"]) (.cons (.v 1) .nil))) b__law_same_2 .nil) b__law_same_14
def b__law_same_16 : Sm := .cons (.ifs (.tval (.blt (.isi ["bool"]) (.cons (.v 1) .nil))) b__law_same_1 .nil) b__law_same_15
def b__law_same_17 : Sm := .cons (.ifs (.tval (.cmp .is_ (.v 1) (.cst .non))) b__law_same_0 .nil) b__law_same_16
def f__law_same : Fn := ⟨2, 3, b__law_same_17, none⟩
theorem isi_bool_non : btF (.isi ["bool"]) [.d .non] = some (.bl false) := rfl
theorem isi_bool_bl {b : Bool} : btF (.isi ["bool"]) [.d (.bl b)] = some (.bl true) := rfl
theorem isi_bool_int {b : Int} : btF (.isi ["bool"]) [.d (.int b)] = some (.bl false) := rfl
theorem isi_bool_str {b : Str} : btF (.isi ["bool"]) [.d (.str b)] = some (.bl false) := rfl
theorem isi_bool_tup {b : List D} : btF (.isi ["bool"]) [.d (.tup b)] = some (.bl false) := rfl
theorem isi_bool_lst {b : List D} : btF (.isi ["bool"]) [.d (.lst b)] = some (.bl false) := rfl
theorem isi_int_non : btF (.isi ["int"]) [.d .non] = some (.bl false) := rfl
theorem isi_int_bl {b : Bool} : btF (.isi ["int"]) [.d (.bl b)] = some (.bl true) := rfl
theorem isi_int_int {b : Int} : btF (.isi ["int"]) [.d (.int b)] = some (.bl true) := rfl
theorem isi_int_str {b : Str} : btF (.isi ["int"]) [.d (.str b)] = some (.bl false) := rfl
theorem isi_int_tup {b : List D} : btF (.isi ["int"]) [.d (.tup b)] = some (.bl false) := rfl
theorem isi_int_lst {b : List D} : btF (.isi ["int"]) [.d (.lst b)] = some (.bl false) := rfl
theorem isi_str_non : btF (.isi ["str"]) [.d .non] = some (.bl false) := rfl
theorem isi_str_bl {b : Bool} : btF (.isi ["str"]) [.d (.bl b)] = some (.bl false) := rfl
theorem isi_str_int {b : Int} : btF (.isi ["str"]) [.d (.int b)] = some (.bl false) := rfl
theorem isi_str_str {b : Str} : btF (.isi ["str"]) [.d (.str b)] = some (.bl true) := rfl
theorem isi_str_tup {b : List D} : btF (.isi ["str"]) [.d (.tup b)] = some (.bl false) := rfl
theorem isi_str_lst {b : List D} : btF (.isi ["str"]) [.d (.lst b)] = some (.bl false) := rfl
theorem isi_list_non : btF (.isi ["list"]) [.d .non] = some (.bl false) := rfl
theorem isi_list_bl {b : Bool} : btF (.isi ["list"]) [.d (.bl b)] = some (.bl false) := rfl
theorem isi_list_int {b : Int} : btF (.isi ["list"]) [.d (.int b)] = some (.bl false) := rfl
theorem isi_list_str {b : Str} : btF (.isi ["list"]) [.d (.str b)] = some (.bl false) := rfl
theorem isi_list_tup {b : List D} : btF (.isi ["list"]) [.d (.tup b)] = some (.bl false) := rfl
theorem isi_list_lst {b : List D} : btF (.isi ["list"]) [.d (.lst b)] = some (.bl true) := rfl
theorem isi_tuple_non : btF (.isi ["tuple"]) [.d .non] = some (.bl false) := rfl
theorem isi_tuple_bl {b : Bool} : btF (.isi ["tuple"]) [.d (.bl b)] = some (.bl false) := rfl
theorem isi_tuple_int {b : Int} : btF (.isi ["tuple"]) [.d (.int b)] = some (.bl false) := rfl
theorem isi_tuple_str {b : Str} : btF (.isi ["tuple"]) [.d (.str b)] = some (.bl false) := rfl
theorem isi_tuple_tup {b : List D} : btF (.isi ["tuple"]) [.d (.tup b)] = some (.bl true) := rfl
theorem isi_tuple_lst {b : List D} : btF (.isi ["tuple"]) [.d (.lst b)] = some (.bl false) := rfl
theorem is_non {d : D} : cmpV .is_ (.d d) (.d .non) = some (isNon (.d d)) := rfl
theorem wp_andv {A : Api} {e : Env} {s : Store} {QD : D → Env → Store → Prop} {a b : Tm} : (ev A (.andv a b)).wp e s QD ↔ (ev A a).wp e s fun d e s => ∃ k, d = .bl k ∧ (k = true → (ev A b).wp e s QD) ∧ (k = false → QD (.bl false) e s) := by
  refine wp_bind.trans (wp_iff fun d e s => ?_)
  cases d with
  | bl k =>
    cases k with
    | true => exact ⟨fun q => ⟨true, rfl, fun _ => q, nofun⟩, fun ⟨_, h, q, _⟩ => (by cases h; exact q rfl)⟩
    | false => exact ⟨fun q => ⟨false, rfl, nofun, fun _ => wp_pure.mp q⟩, fun ⟨_, h, _, q⟩ => (by cases h; exact wp_pure.mpr (q rfl))⟩
  | _ => exact ⟨fun q => (wp_bad.mp q).elim, fun ⟨_, h, _⟩ => (nomatch h)⟩
theorem wp_notv {A : Api} {e : Env} {s : Store} {QD : D → Env → Store → Prop} {a : Tm} : (ev A (.notv a)).wp e s QD ↔ (ev A a).wp e s fun d e s => ∃ k, d = .bl k ∧ QD (.bl (!k)) e s := by
  refine wp_bind.trans (wp_iff fun d e s => ?_)
  cases d with
  | bl k => exact ⟨fun q => ⟨k, rfl, wp_pure.mp q⟩, fun ⟨_, h, q⟩ => (by cases h; exact wp_pure.mpr q)⟩
  | _ => exact ⟨fun q => (wp_bad.mp q).elim, fun ⟨_, h, _⟩ => (nomatch h)⟩
theorem number_int {A : Api} {n : Int} {S : Store} : (f__law_number.run A [.int n] S).wp fun d S' => d = .bl true ∧ S' = S := by
  refine run_wp rfl rfl ?_
  show (ex A b__law_number_0).wp [.val (.int n)] S _
  simp only [wp_cons, wp_nil, wp_ifs2, wp_tand, wp_tor, wp_tnot, wp_tval, wp_cmp, wp_ix, wp_bin, wp_neg, wp_fld, hw_v, hw_cst, hw_of, ne_eq, reduceCtorEq, not_false_eq_true, implies_true, forall_const, wp_cst, wp_v, wp_res, wp_resD, wp_blt, wp_ehs_cons, wp_ehs_nil, wp_ress_cons, wp_ress_nil, wp_asg, wp_setI, wp_ret, wp_ex, wp_own, wp_plOf, wp_getC, wp_setC, wp_call, wp_el_cons, wp_el_nil, List.getD_cons_zero, List.getD_cons_succ, List.set_cons_zero, List.set_cons_succ, cellV, ixV_cl, ixV_dl, ixV_dt, at0, at1, at2, at3, at4, ixn0, ixn1, ixn2, ixn3, ixn4, cmp_eq_int, cmp_ne_int, cmp_lt_int, cmp_le_int, cmp_gt_int, cmp_ge_int, bop_add_int, bop_sub_int, bop_mul_ex, bop_mod_ex, bop_fdiv_ex, bop_pow_ex, some_ex, len_cl, len_dl, len_dt, abs_i, int_i, int_b, min_i, max_i, List.length_map, D.int.injEq, D.bl.injEq, D.lst.injEq, Cell.lst.injEq, Option.some.injEq, exists_eq_left', exists_and_left, exists_eq_left, exists_and_right, decide_eq_true_eq, decide_eq_false_iff_not, false_implies, true_implies, and_true, true_and,  b__law_number_0, wp_andv, wp_notv, isi_bool_non, isi_bool_bl, isi_bool_int, isi_bool_str, isi_bool_tup, isi_bool_lst, isi_int_non, isi_int_bl, isi_int_int, isi_int_str, isi_int_tup, isi_int_lst, isi_str_non, isi_str_bl, isi_str_int, isi_str_str, isi_str_tup, isi_str_lst, isi_list_non, isi_list_bl, isi_list_int, isi_list_str, isi_list_tup, isi_list_lst, isi_tuple_non, isi_tuple_bl, isi_tuple_int, isi_tuple_str, isi_tuple_tup, isi_tuple_lst, Bool.not_false, Bool.not_true, Bool.true_eq_false, Bool.false_eq_true]
theorem same_int {A : Api} {n : Int} {S : Store} (hn : A.has ("", "_law_number") = true) (hc : ∃ B, ∀ ds s, A.call ("", "_law_number") ds s = f__law_number.run B ds s) : (f__law_same.run A [.int n, .int n] S).wp fun d S' => d = .bl true ∧ S' = S := by
  refine run_wp rfl rfl ?_
  obtain ⟨B, hB⟩ := hc
  show (ex A b__law_same_17).wp [.val (.int n), .val (.int n), .emp] S _
  simp only [wp_cons, wp_nil, wp_ifs2, wp_tand, wp_tor, wp_tnot, wp_tval, wp_cmp, wp_ix, wp_bin, wp_neg, wp_fld, hw_v, hw_cst, hw_of, ne_eq, reduceCtorEq, not_false_eq_true, implies_true, forall_const, wp_cst, wp_v, wp_res, wp_resD, wp_blt, wp_ehs_cons, wp_ehs_nil, wp_ress_cons, wp_ress_nil, wp_asg, wp_setI, wp_ret, wp_ex, wp_own, wp_plOf, wp_getC, wp_setC, wp_call, wp_el_cons, wp_el_nil, List.getD_cons_zero, List.getD_cons_succ, List.set_cons_zero, List.set_cons_succ, cellV, ixV_cl, ixV_dl, ixV_dt, at0, at1, at2, at3, at4, ixn0, ixn1, ixn2, ixn3, ixn4, cmp_eq_int, cmp_ne_int, cmp_lt_int, cmp_le_int, cmp_gt_int, cmp_ge_int, bop_add_int, bop_sub_int, bop_mul_ex, bop_mod_ex, bop_fdiv_ex, bop_pow_ex, some_ex, len_cl, len_dl, len_dt, abs_i, int_i, int_b, min_i, max_i, List.length_map, D.int.injEq, D.bl.injEq, D.lst.injEq, Cell.lst.injEq, Option.some.injEq, exists_eq_left', exists_and_left, exists_eq_left, exists_and_right, decide_eq_true_eq, decide_eq_false_iff_not, false_implies, true_implies, and_true, true_and,  b__law_same_17, b__law_same_0, is_non, isNon, isi_bool_non, isi_bool_bl, isi_bool_int, isi_bool_str, isi_bool_tup, isi_bool_lst, isi_int_non, isi_int_bl, isi_int_int, isi_int_str, isi_int_tup, isi_int_lst, isi_str_non, isi_str_bl, isi_str_int, isi_str_str, isi_str_tup, isi_str_lst, isi_list_non, isi_list_bl, isi_list_int, isi_list_str, isi_list_tup, isi_list_lst, isi_tuple_non, isi_tuple_bl, isi_tuple_int, isi_tuple_str, isi_tuple_tup, isi_tuple_lst, Bool.false_eq_true]
  simp only [wp_cons, wp_nil, wp_ifs2, wp_tand, wp_tor, wp_tnot, wp_tval, wp_cmp, wp_ix, wp_bin, wp_neg, wp_fld, hw_v, hw_cst, hw_of, ne_eq, reduceCtorEq, not_false_eq_true, implies_true, forall_const, wp_cst, wp_v, wp_res, wp_resD, wp_blt, wp_ehs_cons, wp_ehs_nil, wp_ress_cons, wp_ress_nil, wp_asg, wp_setI, wp_ret, wp_ex, wp_own, wp_plOf, wp_getC, wp_setC, wp_call, wp_el_cons, wp_el_nil, List.getD_cons_zero, List.getD_cons_succ, List.set_cons_zero, List.set_cons_succ, cellV, ixV_cl, ixV_dl, ixV_dt, at0, at1, at2, at3, at4, ixn0, ixn1, ixn2, ixn3, ixn4, cmp_eq_int, cmp_ne_int, cmp_lt_int, cmp_le_int, cmp_gt_int, cmp_ge_int, bop_add_int, bop_sub_int, bop_mul_ex, bop_mod_ex, bop_fdiv_ex, bop_pow_ex, some_ex, len_cl, len_dl, len_dt, abs_i, int_i, int_b, min_i, max_i, List.length_map, D.int.injEq, D.bl.injEq, D.lst.injEq, Cell.lst.injEq, Option.some.injEq, exists_eq_left', exists_and_left, exists_eq_left, exists_and_right, decide_eq_true_eq, decide_eq_false_iff_not, false_implies, true_implies, and_true, true_and,  b__law_same_16, b__law_same_1, isi_bool_non, isi_bool_bl, isi_bool_int, isi_bool_str, isi_bool_tup, isi_bool_lst, isi_int_non, isi_int_bl, isi_int_int, isi_int_str, isi_int_tup, isi_int_lst, isi_str_non, isi_str_bl, isi_str_int, isi_str_str, isi_str_tup, isi_str_lst, isi_list_non, isi_list_bl, isi_list_int, isi_list_str, isi_list_tup, isi_list_lst, isi_tuple_non, isi_tuple_bl, isi_tuple_int, isi_tuple_str, isi_tuple_tup, isi_tuple_lst, Bool.false_eq_true]
  simp only [wp_cons, wp_nil, wp_ifs2, wp_tand, wp_tor, wp_tnot, wp_tval, wp_cmp, wp_ix, wp_bin, wp_neg, wp_fld, hw_v, hw_cst, hw_of, ne_eq, reduceCtorEq, not_false_eq_true, implies_true, forall_const, wp_cst, wp_v, wp_res, wp_resD, wp_blt, wp_ehs_cons, wp_ehs_nil, wp_ress_cons, wp_ress_nil, wp_asg, wp_setI, wp_ret, wp_ex, wp_own, wp_plOf, wp_getC, wp_setC, wp_call, wp_el_cons, wp_el_nil, List.getD_cons_zero, List.getD_cons_succ, List.set_cons_zero, List.set_cons_succ, cellV, ixV_cl, ixV_dl, ixV_dt, at0, at1, at2, at3, at4, ixn0, ixn1, ixn2, ixn3, ixn4, cmp_eq_int, cmp_ne_int, cmp_lt_int, cmp_le_int, cmp_gt_int, cmp_ge_int, bop_add_int, bop_sub_int, bop_mul_ex, bop_mod_ex, bop_fdiv_ex, bop_pow_ex, some_ex, len_cl, len_dl, len_dt, abs_i, int_i, int_b, min_i, max_i, List.length_map, D.int.injEq, D.bl.injEq, D.lst.injEq, Cell.lst.injEq, Option.some.injEq, exists_eq_left', exists_and_left, exists_eq_left, exists_and_right, decide_eq_true_eq, decide_eq_false_iff_not, false_implies, true_implies, and_true, true_and,  b__law_same_15, b__law_same_2, isi_bool_non, isi_bool_bl, isi_bool_int, isi_bool_str, isi_bool_tup, isi_bool_lst, isi_int_non, isi_int_bl, isi_int_int, isi_int_str, isi_int_tup, isi_int_lst, isi_str_non, isi_str_bl, isi_str_int, isi_str_str, isi_str_tup, isi_str_lst, isi_list_non, isi_list_bl, isi_list_int, isi_list_str, isi_list_tup, isi_list_lst, isi_tuple_non, isi_tuple_bl, isi_tuple_int, isi_tuple_str, isi_tuple_tup, isi_tuple_lst, Bool.true_eq_false, wp_andv, hn, hB]
  refine cwp_mono number_int fun d S' ⟨hd, hs⟩ => ?_
  subst hd
  subst hs
  simp only [wp_cons, wp_nil, wp_ifs2, wp_tand, wp_tor, wp_tnot, wp_tval, wp_cmp, wp_ix, wp_bin, wp_neg, wp_fld, hw_v, hw_cst, hw_of, ne_eq, reduceCtorEq, not_false_eq_true, implies_true, forall_const, wp_cst, wp_v, wp_res, wp_resD, wp_blt, wp_ehs_cons, wp_ehs_nil, wp_ress_cons, wp_ress_nil, wp_asg, wp_setI, wp_ret, wp_ex, wp_own, wp_plOf, wp_getC, wp_setC, wp_call, wp_el_cons, wp_el_nil, List.getD_cons_zero, List.getD_cons_succ, List.set_cons_zero, List.set_cons_succ, cellV, ixV_cl, ixV_dl, ixV_dt, at0, at1, at2, at3, at4, ixn0, ixn1, ixn2, ixn3, ixn4, cmp_eq_int, cmp_ne_int, cmp_lt_int, cmp_le_int, cmp_gt_int, cmp_ge_int, bop_add_int, bop_sub_int, bop_mul_ex, bop_mod_ex, bop_fdiv_ex, bop_pow_ex, some_ex, len_cl, len_dl, len_dt, abs_i, int_i, int_b, min_i, max_i, List.length_map, D.int.injEq, D.bl.injEq, D.lst.injEq, Cell.lst.injEq, Option.some.injEq, exists_eq_left', exists_and_left, exists_eq_left, exists_and_right, decide_eq_true_eq, decide_eq_false_iff_not, false_implies, true_implies, and_true, true_and,  Bool.true_eq_false]
theorem same_body {A : Api} {xs : List D} {j : Nat} {x : D} {S : Store} {Q : Fl → Env → Store → Prop} (hA : A.has ("", "_law_same") = true) (hx : xs[j]? = some x) (h : (A.call ("", "_law_same") [x, x] S).wp fun d S' => d = .bl true ∧ S' = S) (q : Q .next [.val (.tup xs), .val (.tup xs), .val (.int (j : Int))] S) :
    (ex A b__law_same_8).wp [.val (.tup xs), .val (.tup xs), .val (.int (j : Int))] S Q := by
  have hat : L2.atI xs (j : Int) = some x := ix_nat rfl hx
  simp only [wp_cons, wp_nil, wp_ifs2, wp_tand, wp_tor, wp_tnot, wp_tval, wp_cmp, wp_ix, wp_bin, wp_neg, wp_fld, hw_v, hw_cst, hw_of, ne_eq, reduceCtorEq, not_false_eq_true, implies_true, forall_const, wp_cst, wp_v, wp_res, wp_resD, wp_blt, wp_ehs_cons, wp_ehs_nil, wp_ress_cons, wp_ress_nil, wp_asg, wp_setI, wp_ret, wp_ex, wp_own, wp_plOf, wp_getC, wp_setC, wp_call, wp_el_cons, wp_el_nil, List.getD_cons_zero, List.getD_cons_succ, List.set_cons_zero, List.set_cons_succ, cellV, ixV_cl, ixV_dl, ixV_dt, at0, at1, at2, at3, at4, ixn0, ixn1, ixn2, ixn3, ixn4, cmp_eq_int, cmp_ne_int, cmp_lt_int, cmp_le_int, cmp_gt_int, cmp_ge_int, bop_add_int, bop_sub_int, bop_mul_ex, bop_mod_ex, bop_fdiv_ex, bop_pow_ex, some_ex, len_cl, len_dl, len_dt, abs_i, int_i, int_b, min_i, max_i, List.length_map, D.int.injEq, D.bl.injEq, D.lst.injEq, Cell.lst.injEq, Option.some.injEq, exists_eq_left', exists_and_left, exists_eq_left, exists_and_right, decide_eq_true_eq, decide_eq_false_iff_not, false_implies, true_implies, and_true, true_and,  b__law_same_8, hA, hat]
  refine cwp_mono h fun d S' ⟨hd, hs⟩ => ?_
  subst hd
  subst hs
  simp only [wp_cons, wp_nil, wp_ifs2, wp_tand, wp_tor, wp_tnot, wp_tval, wp_cmp, wp_ix, wp_bin, wp_neg, wp_fld, hw_v, hw_cst, hw_of, ne_eq, reduceCtorEq, not_false_eq_true, implies_true, forall_const, wp_cst, wp_v, wp_res, wp_resD, wp_blt, wp_ehs_cons, wp_ehs_nil, wp_ress_cons, wp_ress_nil, wp_asg, wp_setI, wp_ret, wp_ex, wp_own, wp_plOf, wp_getC, wp_setC, wp_call, wp_el_cons, wp_el_nil, List.getD_cons_zero, List.getD_cons_succ, List.set_cons_zero, List.set_cons_succ, cellV, ixV_cl, ixV_dl, ixV_dt, at0, at1, at2, at3, at4, ixn0, ixn1, ixn2, ixn3, ixn4, cmp_eq_int, cmp_ne_int, cmp_lt_int, cmp_le_int, cmp_gt_int, cmp_ge_int, bop_add_int, bop_sub_int, bop_mul_ex, bop_mod_ex, bop_fdiv_ex, bop_pow_ex, some_ex, len_cl, len_dl, len_dt, abs_i, int_i, int_b, min_i, max_i, List.length_map, D.int.injEq, D.bl.injEq, D.lst.injEq, Cell.lst.injEq, Option.some.injEq, exists_eq_left', exists_and_left, exists_eq_left, exists_and_right, decide_eq_true_eq, decide_eq_false_iff_not, false_implies, true_implies, and_true, true_and,  Bool.not_true, Bool.false_eq_true]
  exact q
theorem same_tup {A : Api} {xs : List D} {S : Store} (hA : A.has ("", "_law_same") = true) (hl : xs.length < 2 ^ 24) (h : ∀ x ∈ xs, (A.call ("", "_law_same") [x, x] S).wp fun d S' => d = .bl true ∧ S' = S) : (f__law_same.run A [.tup xs, .tup xs] S).wp fun d S' => d = .bl true ∧ S' = S := by
  refine run_wp rfl rfl ?_
  show (ex A b__law_same_17).wp [.val (.tup xs), .val (.tup xs), .emp] S _
  simp only [wp_cons, wp_nil, wp_ifs2, wp_tand, wp_tor, wp_tnot, wp_tval, wp_cmp, wp_ix, wp_bin, wp_neg, wp_fld, hw_v, hw_cst, hw_of, ne_eq, reduceCtorEq, not_false_eq_true, implies_true, forall_const, wp_cst, wp_v, wp_res, wp_resD, wp_blt, wp_ehs_cons, wp_ehs_nil, wp_ress_cons, wp_ress_nil, wp_asg, wp_setI, wp_ret, wp_ex, wp_own, wp_plOf, wp_getC, wp_setC, wp_call, wp_el_cons, wp_el_nil, List.getD_cons_zero, List.getD_cons_succ, List.set_cons_zero, List.set_cons_succ, cellV, ixV_cl, ixV_dl, ixV_dt, at0, at1, at2, at3, at4, ixn0, ixn1, ixn2, ixn3, ixn4, cmp_eq_int, cmp_ne_int, cmp_lt_int, cmp_le_int, cmp_gt_int, cmp_ge_int, bop_add_int, bop_sub_int, bop_mul_ex, bop_mod_ex, bop_fdiv_ex, bop_pow_ex, some_ex, len_cl, len_dl, len_dt, abs_i, int_i, int_b, min_i, max_i, List.length_map, D.int.injEq, D.bl.injEq, D.lst.injEq, Cell.lst.injEq, Option.some.injEq, exists_eq_left', exists_and_left, exists_eq_left, exists_and_right, decide_eq_true_eq, decide_eq_false_iff_not, false_implies, true_implies, and_true, true_and,  b__law_same_17, is_non, isNon, isi_bool_non, isi_bool_bl, isi_bool_int, isi_bool_str, isi_bool_tup, isi_bool_lst, isi_int_non, isi_int_bl, isi_int_int, isi_int_str, isi_int_tup, isi_int_lst, isi_str_non, isi_str_bl, isi_str_int, isi_str_str, isi_str_tup, isi_str_lst, isi_list_non, isi_list_bl, isi_list_int, isi_list_str, isi_list_tup, isi_list_lst, isi_tuple_non, isi_tuple_bl, isi_tuple_int, isi_tuple_str, isi_tuple_tup, isi_tuple_lst, Bool.false_eq_true]
  simp only [wp_cons, wp_nil, wp_ifs2, wp_tand, wp_tor, wp_tnot, wp_tval, wp_cmp, wp_ix, wp_bin, wp_neg, wp_fld, hw_v, hw_cst, hw_of, ne_eq, reduceCtorEq, not_false_eq_true, implies_true, forall_const, wp_cst, wp_v, wp_res, wp_resD, wp_blt, wp_ehs_cons, wp_ehs_nil, wp_ress_cons, wp_ress_nil, wp_asg, wp_setI, wp_ret, wp_ex, wp_own, wp_plOf, wp_getC, wp_setC, wp_call, wp_el_cons, wp_el_nil, List.getD_cons_zero, List.getD_cons_succ, List.set_cons_zero, List.set_cons_succ, cellV, ixV_cl, ixV_dl, ixV_dt, at0, at1, at2, at3, at4, ixn0, ixn1, ixn2, ixn3, ixn4, cmp_eq_int, cmp_ne_int, cmp_lt_int, cmp_le_int, cmp_gt_int, cmp_ge_int, bop_add_int, bop_sub_int, bop_mul_ex, bop_mod_ex, bop_fdiv_ex, bop_pow_ex, some_ex, len_cl, len_dl, len_dt, abs_i, int_i, int_b, min_i, max_i, List.length_map, D.int.injEq, D.bl.injEq, D.lst.injEq, Cell.lst.injEq, Option.some.injEq, exists_eq_left', exists_and_left, exists_eq_left, exists_and_right, decide_eq_true_eq, decide_eq_false_iff_not, false_implies, true_implies, and_true, true_and,  b__law_same_16, isi_bool_non, isi_bool_bl, isi_bool_int, isi_bool_str, isi_bool_tup, isi_bool_lst, isi_int_non, isi_int_bl, isi_int_int, isi_int_str, isi_int_tup, isi_int_lst, isi_str_non, isi_str_bl, isi_str_int, isi_str_str, isi_str_tup, isi_str_lst, isi_list_non, isi_list_bl, isi_list_int, isi_list_str, isi_list_tup, isi_list_lst, isi_tuple_non, isi_tuple_bl, isi_tuple_int, isi_tuple_str, isi_tuple_tup, isi_tuple_lst, Bool.false_eq_true]
  simp only [wp_cons, wp_nil, wp_ifs2, wp_tand, wp_tor, wp_tnot, wp_tval, wp_cmp, wp_ix, wp_bin, wp_neg, wp_fld, hw_v, hw_cst, hw_of, ne_eq, reduceCtorEq, not_false_eq_true, implies_true, forall_const, wp_cst, wp_v, wp_res, wp_resD, wp_blt, wp_ehs_cons, wp_ehs_nil, wp_ress_cons, wp_ress_nil, wp_asg, wp_setI, wp_ret, wp_ex, wp_own, wp_plOf, wp_getC, wp_setC, wp_call, wp_el_cons, wp_el_nil, List.getD_cons_zero, List.getD_cons_succ, List.set_cons_zero, List.set_cons_succ, cellV, ixV_cl, ixV_dl, ixV_dt, at0, at1, at2, at3, at4, ixn0, ixn1, ixn2, ixn3, ixn4, cmp_eq_int, cmp_ne_int, cmp_lt_int, cmp_le_int, cmp_gt_int, cmp_ge_int, bop_add_int, bop_sub_int, bop_mul_ex, bop_mod_ex, bop_fdiv_ex, bop_pow_ex, some_ex, len_cl, len_dl, len_dt, abs_i, int_i, int_b, min_i, max_i, List.length_map, D.int.injEq, D.bl.injEq, D.lst.injEq, Cell.lst.injEq, Option.some.injEq, exists_eq_left', exists_and_left, exists_eq_left, exists_and_right, decide_eq_true_eq, decide_eq_false_iff_not, false_implies, true_implies, and_true, true_and,  b__law_same_15, isi_bool_non, isi_bool_bl, isi_bool_int, isi_bool_str, isi_bool_tup, isi_bool_lst, isi_int_non, isi_int_bl, isi_int_int, isi_int_str, isi_int_tup, isi_int_lst, isi_str_non, isi_str_bl, isi_str_int, isi_str_str, isi_str_tup, isi_str_lst, isi_list_non, isi_list_bl, isi_list_int, isi_list_str, isi_list_tup, isi_list_lst, isi_tuple_non, isi_tuple_bl, isi_tuple_int, isi_tuple_str, isi_tuple_tup, isi_tuple_lst, Bool.false_eq_true]
  simp only [wp_cons, wp_nil, wp_ifs2, wp_tand, wp_tor, wp_tnot, wp_tval, wp_cmp, wp_ix, wp_bin, wp_neg, wp_fld, hw_v, hw_cst, hw_of, ne_eq, reduceCtorEq, not_false_eq_true, implies_true, forall_const, wp_cst, wp_v, wp_res, wp_resD, wp_blt, wp_ehs_cons, wp_ehs_nil, wp_ress_cons, wp_ress_nil, wp_asg, wp_setI, wp_ret, wp_ex, wp_own, wp_plOf, wp_getC, wp_setC, wp_call, wp_el_cons, wp_el_nil, List.getD_cons_zero, List.getD_cons_succ, List.set_cons_zero, List.set_cons_succ, cellV, ixV_cl, ixV_dl, ixV_dt, at0, at1, at2, at3, at4, ixn0, ixn1, ixn2, ixn3, ixn4, cmp_eq_int, cmp_ne_int, cmp_lt_int, cmp_le_int, cmp_gt_int, cmp_ge_int, bop_add_int, bop_sub_int, bop_mul_ex, bop_mod_ex, bop_fdiv_ex, bop_pow_ex, some_ex, len_cl, len_dl, len_dt, abs_i, int_i, int_b, min_i, max_i, List.length_map, D.int.injEq, D.bl.injEq, D.lst.injEq, Cell.lst.injEq, Option.some.injEq, exists_eq_left', exists_and_left, exists_eq_left, exists_and_right, decide_eq_true_eq, decide_eq_false_iff_not, false_implies, true_implies, and_true, true_and,  b__law_same_14, isi_bool_non, isi_bool_bl, isi_bool_int, isi_bool_str, isi_bool_tup, isi_bool_lst, isi_int_non, isi_int_bl, isi_int_int, isi_int_str, isi_int_tup, isi_int_lst, isi_str_non, isi_str_bl, isi_str_int, isi_str_str, isi_str_tup, isi_str_lst, isi_list_non, isi_list_bl, isi_list_int, isi_list_str, isi_list_tup, isi_list_lst, isi_tuple_non, isi_tuple_bl, isi_tuple_int, isi_tuple_str, isi_tuple_tup, isi_tuple_lst, Bool.false_eq_true]
  simp only [wp_cons, wp_nil, wp_ifs2, wp_tand, wp_tor, wp_tnot, wp_tval, wp_cmp, wp_ix, wp_bin, wp_neg, wp_fld, hw_v, hw_cst, hw_of, ne_eq, reduceCtorEq, not_false_eq_true, implies_true, forall_const, wp_cst, wp_v, wp_res, wp_resD, wp_blt, wp_ehs_cons, wp_ehs_nil, wp_ress_cons, wp_ress_nil, wp_asg, wp_setI, wp_ret, wp_ex, wp_own, wp_plOf, wp_getC, wp_setC, wp_call, wp_el_cons, wp_el_nil, List.getD_cons_zero, List.getD_cons_succ, List.set_cons_zero, List.set_cons_succ, cellV, ixV_cl, ixV_dl, ixV_dt, at0, at1, at2, at3, at4, ixn0, ixn1, ixn2, ixn3, ixn4, cmp_eq_int, cmp_ne_int, cmp_lt_int, cmp_le_int, cmp_gt_int, cmp_ge_int, bop_add_int, bop_sub_int, bop_mul_ex, bop_mod_ex, bop_fdiv_ex, bop_pow_ex, some_ex, len_cl, len_dl, len_dt, abs_i, int_i, int_b, min_i, max_i, List.length_map, D.int.injEq, D.bl.injEq, D.lst.injEq, Cell.lst.injEq, Option.some.injEq, exists_eq_left', exists_and_left, exists_eq_left, exists_and_right, decide_eq_true_eq, decide_eq_false_iff_not, false_implies, true_implies, and_true, true_and,  b__law_same_13, isi_bool_non, isi_bool_bl, isi_bool_int, isi_bool_str, isi_bool_tup, isi_bool_lst, isi_int_non, isi_int_bl, isi_int_int, isi_int_str, isi_int_tup, isi_int_lst, isi_str_non, isi_str_bl, isi_str_int, isi_str_str, isi_str_tup, isi_str_lst, isi_list_non, isi_list_bl, isi_list_int, isi_list_str, isi_list_tup, isi_list_lst, isi_tuple_non, isi_tuple_bl, isi_tuple_int, isi_tuple_str, isi_tuple_tup, isi_tuple_lst, Bool.false_eq_true]
  simp only [wp_cons, wp_nil, wp_ifs2, wp_tand, wp_tor, wp_tnot, wp_tval, wp_cmp, wp_ix, wp_bin, wp_neg, wp_fld, hw_v, hw_cst, hw_of, ne_eq, reduceCtorEq, not_false_eq_true, implies_true, forall_const, wp_cst, wp_v, wp_res, wp_resD, wp_blt, wp_ehs_cons, wp_ehs_nil, wp_ress_cons, wp_ress_nil, wp_asg, wp_setI, wp_ret, wp_ex, wp_own, wp_plOf, wp_getC, wp_setC, wp_call, wp_el_cons, wp_el_nil, List.getD_cons_zero, List.getD_cons_succ, List.set_cons_zero, List.set_cons_succ, cellV, ixV_cl, ixV_dl, ixV_dt, at0, at1, at2, at3, at4, ixn0, ixn1, ixn2, ixn3, ixn4, cmp_eq_int, cmp_ne_int, cmp_lt_int, cmp_le_int, cmp_gt_int, cmp_ge_int, bop_add_int, bop_sub_int, bop_mul_ex, bop_mod_ex, bop_fdiv_ex, bop_pow_ex, some_ex, len_cl, len_dl, len_dt, abs_i, int_i, int_b, min_i, max_i, List.length_map, D.int.injEq, D.bl.injEq, D.lst.injEq, Cell.lst.injEq, Option.some.injEq, exists_eq_left', exists_and_left, exists_eq_left, exists_and_right, decide_eq_true_eq, decide_eq_false_iff_not, false_implies, true_implies, and_true, true_and,  b__law_same_12, isi_bool_non, isi_bool_bl, isi_bool_int, isi_bool_str, isi_bool_tup, isi_bool_lst, isi_int_non, isi_int_bl, isi_int_int, isi_int_str, isi_int_tup, isi_int_lst, isi_str_non, isi_str_bl, isi_str_int, isi_str_str, isi_str_tup, isi_str_lst, isi_list_non, isi_list_bl, isi_list_int, isi_list_str, isi_list_tup, isi_list_lst, isi_tuple_non, isi_tuple_bl, isi_tuple_int, isi_tuple_str, isi_tuple_tup, isi_tuple_lst, Bool.false_eq_true, Bool.not_true]
  simp only [wp_cons, wp_nil, wp_ifs2, wp_tand, wp_tor, wp_tnot, wp_tval, wp_cmp, wp_ix, wp_bin, wp_neg, wp_fld, hw_v, hw_cst, hw_of, ne_eq, reduceCtorEq, not_false_eq_true, implies_true, forall_const, wp_cst, wp_v, wp_res, wp_resD, wp_blt, wp_ehs_cons, wp_ehs_nil, wp_ress_cons, wp_ress_nil, wp_asg, wp_setI, wp_ret, wp_ex, wp_own, wp_plOf, wp_getC, wp_setC, wp_call, wp_el_cons, wp_el_nil, List.getD_cons_zero, List.getD_cons_succ, List.set_cons_zero, List.set_cons_succ, cellV, ixV_cl, ixV_dl, ixV_dt, at0, at1, at2, at3, at4, ixn0, ixn1, ixn2, ixn3, ixn4, cmp_eq_int, cmp_ne_int, cmp_lt_int, cmp_le_int, cmp_gt_int, cmp_ge_int, bop_add_int, bop_sub_int, bop_mul_ex, bop_mod_ex, bop_fdiv_ex, bop_pow_ex, some_ex, len_cl, len_dl, len_dt, abs_i, int_i, int_b, min_i, max_i, List.length_map, D.int.injEq, D.bl.injEq, D.lst.injEq, Cell.lst.injEq, Option.some.injEq, exists_eq_left', exists_and_left, exists_eq_left, exists_and_right, decide_eq_true_eq, decide_eq_false_iff_not, false_implies, true_implies, and_true, true_and,  b__law_same_11, not_true_eq_false]
  rw [b__law_same_10, wp_cons]
  refine for_fix (xs := irange 0 xs.length) (fun j e S' => ∃ x, e = [.val (.tup xs), .val (.tup xs), x] ∧ S' = S) ?_ ?_ ?_
  · rw [wp_irng1]
    simp only [wp_cons, wp_nil, wp_ifs2, wp_tand, wp_tor, wp_tnot, wp_tval, wp_cmp, wp_ix, wp_bin, wp_neg, wp_fld, hw_v, hw_cst, hw_of, ne_eq, reduceCtorEq, not_false_eq_true, implies_true, forall_const, wp_cst, wp_v, wp_res, wp_resD, wp_blt, wp_ehs_cons, wp_ehs_nil, wp_ress_cons, wp_ress_nil, wp_asg, wp_setI, wp_ret, wp_ex, wp_own, wp_plOf, wp_getC, wp_setC, wp_call, wp_el_cons, wp_el_nil, List.getD_cons_zero, List.getD_cons_succ, List.set_cons_zero, List.set_cons_succ, cellV, ixV_cl, ixV_dl, ixV_dt, at0, at1, at2, at3, at4, ixn0, ixn1, ixn2, ixn3, ixn4, cmp_eq_int, cmp_ne_int, cmp_lt_int, cmp_le_int, cmp_gt_int, cmp_ge_int, bop_add_int, bop_sub_int, bop_mul_ex, bop_mod_ex, bop_fdiv_ex, bop_pow_ex, some_ex, len_cl, len_dl, len_dt, abs_i, int_i, int_b, min_i, max_i, List.length_map, D.int.injEq, D.bl.injEq, D.lst.injEq, Cell.lst.injEq, Option.some.injEq, exists_eq_left', exists_and_left, exists_eq_left, exists_and_right, decide_eq_true_eq, decide_eq_false_iff_not, false_implies, true_implies, and_true, true_and]
    exact ⟨decide_eq_true ⟨by omega, by omega⟩, _, rfl⟩
  · rintro j x e S' hx ⟨y, rfl, rfl⟩
    obtain ⟨rfl, hj⟩ := irange_get hx
    rw [wp_put_nm, Int.zero_add]
    obtain ⟨z, hz⟩ : ∃ z, xs[j]? = some z := ⟨_, List.getElem?_eq_getElem (by omega)⟩
    exact same_body hA hz (h z (List.mem_of_getElem? hz)) ⟨_, rfl, rfl⟩
  · rintro e S' ⟨y, rfl, rfl⟩
    simp only [wp_cons, wp_nil, wp_ifs2, wp_tand, wp_tor, wp_tnot, wp_tval, wp_cmp, wp_ix, wp_bin, wp_neg, wp_fld, hw_v, hw_cst, hw_of, ne_eq, reduceCtorEq, not_false_eq_true, implies_true, forall_const, wp_cst, wp_v, wp_res, wp_resD, wp_blt, wp_ehs_cons, wp_ehs_nil, wp_ress_cons, wp_ress_nil, wp_asg, wp_setI, wp_ret, wp_ex, wp_own, wp_plOf, wp_getC, wp_setC, wp_call, wp_el_cons, wp_el_nil, List.getD_cons_zero, List.getD_cons_succ, List.set_cons_zero, List.set_cons_succ, cellV, ixV_cl, ixV_dl, ixV_dt, at0, at1, at2, at3, at4, ixn0, ixn1, ixn2, ixn3, ixn4, cmp_eq_int, cmp_ne_int, cmp_lt_int, cmp_le_int, cmp_gt_int, cmp_ge_int, bop_add_int, bop_sub_int, bop_mul_ex, bop_mod_ex, bop_fdiv_ex, bop_pow_ex, some_ex, len_cl, len_dl, len_dt, abs_i, int_i, int_b, min_i, max_i, List.length_map, D.int.injEq, D.bl.injEq, D.lst.injEq, Cell.lst.injEq, Option.some.injEq, exists_eq_left', exists_and_left, exists_eq_left, exists_and_right, decide_eq_true_eq, decide_eq_false_iff_not, false_implies, true_implies, and_true, true_and,  b__law_same_9]
end Vm
namespace Vm
open PySem
def b_check_days_0 : Sm := .cons .bad .nil
def b_check_days_1 : Sm := .cons (.ifs (.tnot (.tval (.chain .le .le (.cst (.int (0))) (.v 0) (.cst (.int (1000000000000000000000000000000)))))) b_check_days_0 .nil) .nil
def f_check_days : Fn := ⟨1, 1, b_check_days_1, none⟩
def b_check_numbers_0 : Sm := .cons .bad .nil
def b_check_numbers_1 : Sm := .cons .bad .nil
def b_check_numbers_2 : Sm := .cons (.ifs (.tnot (.tval (.chain .le .le (.cst (.int (1))) (.v 1) (.cst (.int (12)))))) b_check_numbers_1 .nil) .nil
def b_check_numbers_3 : Sm := .cons (.ifs (.tnot (.tval (.chain .le .le (.cst (.int (1))) (.v 0) (.cst (.int (8)))))) b_check_numbers_0 .nil) b_check_numbers_2
def f_check_numbers : Fn := ⟨2, 2, b_check_numbers_3, none⟩
def b_check_firsts_0 : Sm := .cons .bad .nil
def b_check_firsts_1 : Sm := .cons .bad .nil
def b_check_firsts_2 : Sm := .cons (.aug 3 .add (.cst (.int (1)))) .nil
def b_check_firsts_3 : Sm := .cons (.ifs (.tval (.cmp .eq (.ix (.v 2) (.v 4)) (.cst (.int (1))))) b_check_firsts_2 .nil) .nil
def b_check_firsts_4 : Sm := .cons (.ifs (.tnot (.tval (.chain .le .le (.cst (.int (1))) (.ix (.v 2) (.v 4)) (.v 0)))) b_check_firsts_1 .nil) b_check_firsts_3
def b_check_firsts_5 : Sm := .cons .bad .nil
def b_check_firsts_6 : Sm := .cons (.ifs (.tval (.cmp .lt (.v 3) (.v 1))) b_check_firsts_5 .nil) .nil
def b_check_firsts_7 : Sm := .cons (.for_ (.nm 4) (.irng1 (.blt .len (.cons (.v 2) .nil))) b_check_firsts_4) b_check_firsts_6
def b_check_firsts_8 : Sm := .cons (.asg (.nm 3) (.cst (.int (0)))) b_check_firsts_7
def b_check_firsts_9 : Sm := .cons (.ifs (.tnot (.tval (.chain .le .le (.cst (.int (1))) (.blt .len (.cons (.v 2) .nil)) (.cst (.int (12)))))) b_check_firsts_0 .nil) b_check_firsts_8
def f_check_firsts : Fn := ⟨3, 5, b_check_firsts_9, none⟩
def b_Depot___init___0 : Sm := .cons (.setA (.v 0) "firsts" (.blt .tuple (.cons (.v 3) .nil))) .nil
def b_Depot___init___1 : Sm := .cons (.setA (.v 0) "quota" (.v 2)) b_Depot___init___0
def b_Depot___init___2 : Sm := .cons (.setA (.v 0) "period" (.v 1)) b_Depot___init___1
def b_Depot___init___3 : Sm := .cons (.ex (.call "check_firsts" (.cons (.v 1) (.cons (.v 2) (.cons (.v 3) .nil))))) b_Depot___init___2
def b_Depot___init___4 : Sm := .cons (.ex (.call "check_numbers" (.cons (.v 1) (.cons (.v 2) .nil)))) b_Depot___init___3
def f_Depot___init__ : Fn := ⟨4, 4, b_Depot___init___4, some "Depot"⟩
def b_Depot_size_0 : Sm := .cons (.ret (.blt .len (.cons (.fld (.v 0) "firsts") .nil))) .nil
def f_Depot_size : Fn := ⟨1, 1, b_Depot_size_0, none⟩
def b_Depot_places_0 : Sm := .cons (.ret (.blt .tuple (.cons (.v 1) .nil))) .nil
def b_Depot_places_1 : Sm := .cons (.setI (.v 1) (.cst (.int (0))) (.bin .sub (.ix (.v 1) (.cst (.int (0)))) (.fld (.v 0) "quota"))) b_Depot_places_0
def b_Depot_places_2 : Sm := .cons (.own 1 (.lc [2] (.nm 2) (.irng2 (.cst (.int (1))) (.bin .add (.fld (.v 0) "period") (.cst (.int (1))))) .tyes (.cnt (.fld (.v 0) "firsts") (.v 2)))) b_Depot_places_1
def f_Depot_places : Fn := ⟨1, 3, b_Depot_places_2, none⟩
def b_Depot_weekday_0 : Sm := .cons .bad .nil
def b_Depot_weekday_1 : Sm := .cons (.ret (.bin .add (.bin .mod (.bin .sub (.v 1) (.cst (.int (1)))) (.fld (.v 0) "period")) (.cst (.int (1))))) .nil
def b_Depot_weekday_2 : Sm := .cons (.ifs (.tval (.cmp .lt (.v 1) (.cst (.int (1))))) b_Depot_weekday_0 .nil) b_Depot_weekday_1
def f_Depot_weekday : Fn := ⟨2, 2, b_Depot_weekday_2, none⟩
def b_Depot_closings_0 : Sm := .cons (.ret (.bin .fdiv (.v 1) (.fld (.v 0) "period"))) .nil
def b_Depot_closings_1 : Sm := .cons (.ex (.call "check_days" (.cons (.v 1) .nil))) b_Depot_closings_0
def f_Depot_closings : Fn := ⟨2, 2, b_Depot_closings_1, none⟩
def b_Depot_last_weekday_0 : Sm := .cons (.ret (.bin .add (.bin .mod (.v 1) (.fld (.v 0) "period")) (.cst (.int (1))))) .nil
def b_Depot_last_weekday_1 : Sm := .cons (.ex (.call "check_days" (.cons (.v 1) .nil))) b_Depot_last_weekday_0
def f_Depot_last_weekday : Fn := ⟨2, 2, b_Depot_last_weekday_1, none⟩
def b_Depot_due_places_0 : Sm := .cons (.ret (.blt .tuple (.cons (.v 2) .nil))) .nil
def b_Depot_due_places_1 : Sm := .cons (.augI (.v 2) (.bin .mod (.v 1) (.fld (.v 0) "period")) .add (.fld (.v 0) "quota")) b_Depot_due_places_0
def b_Depot_due_places_2 : Sm := .cons (.own 2 (.blt .list (.cons (.fld (.v 0) "places") .nil))) b_Depot_due_places_1
def b_Depot_due_places_3 : Sm := .cons (.ex (.call "check_days" (.cons (.v 1) .nil))) b_Depot_due_places_2
def f_Depot_due_places : Fn := ⟨2, 3, b_Depot_due_places_3, none⟩
def b_Depot_begun_0 : Sm := .cons (.ret (.bin .add (.bin .mul (.v 2) (.blt .sum (.cons (.fld (.v 0) "places") .nil))) (.blt .sum (.cons (.sl (.fld (.v 0) "places") .non (.just (.v 3))) .nil)))) .nil
def b_Depot_begun_1 : Sm := .cons (.asg (.nm 3) (.bin .mod (.v 1) (.fld (.v 0) "period"))) b_Depot_begun_0
def b_Depot_begun_2 : Sm := .cons (.asg (.nm 2) (.bin .fdiv (.v 1) (.fld (.v 0) "period"))) b_Depot_begun_1
def b_Depot_begun_3 : Sm := .cons (.ex (.call "check_days" (.cons (.v 1) .nil))) b_Depot_begun_2
def f_Depot_begun : Fn := ⟨2, 4, b_Depot_begun_3, none⟩
def depF (m q : Int) (fs : List Int) : List (Str × D) := [("period", .int m), ("quota", .int q), ("firsts", .tup (fs.map .int))]
def dep (m q : Int) (fs : List Int) : D := .obj "Depot" (depF m q fs)
/-- what a text has of depots -/
structure HasDep (A : Api) : Prop where
  fp : A.fld "Depot" "period" = true
  fq : A.fld "Depot" "quota" = true
  ff : A.fld "Depot" "firsts" = true
  pp : A.prop "Depot" "period" = false
  pq : A.prop "Depot" "quota" = false
  pf : A.prop "Depot" "firsts" = false
section
variable {A : Api} {e : Env} {s : Store} {QD : D → Env → Store → Prop} {m q : Int} {fs : List Int}
theorem fld_p (h : HasDep A) : (fldV A (.d (.obj "Depot" (depF m q fs))) "period").wp e s QD ↔ QD (.int m) e s := by
  show (if A.prop "Depot" "period" = true then _ else if A.fld "Depot" "period" = true then _ else _ : M D).wp e s QD ↔ _
  rw [h.pp, if_neg Bool.false_ne_true, if_pos h.fp]
  exact wp_pure
theorem fld_q (h : HasDep A) : (fldV A (.d (.obj "Depot" (depF m q fs))) "quota").wp e s QD ↔ QD (.int q) e s := by
  show (if A.prop "Depot" "quota" = true then _ else if A.fld "Depot" "quota" = true then _ else _ : M D).wp e s QD ↔ _
  rw [h.pq, if_neg Bool.false_ne_true, if_pos h.fq]
  exact wp_pure
theorem fld_f (h : HasDep A) : (fldV A (.d (.obj "Depot" (depF m q fs))) "firsts").wp e s QD ↔ QD (.tup (fs.map .int)) e s := by
  show (if A.prop "Depot" "firsts" = true then _ else if A.fld "Depot" "firsts" = true then _ else _ : M D).wp e s QD ↔ _
  rw [h.pf, if_neg Bool.false_ne_true, if_pos h.ff]
  exact wp_pure
theorem size_spec (h : HasDep A) : (f_Depot_size.run A [dep m q fs] s).wp fun d s' => d = .int fs.length ∧ s' = s := by
  refine run_wp rfl rfl ?_
  show (ex A b_Depot_size_0).wp [.val (.obj "Depot" (depF m q fs))] s _
  simp only [wp_cons, wp_nil, wp_ifs2, wp_tand, wp_tor, wp_tnot, wp_tval, wp_cmp, wp_ix, wp_bin, wp_neg, wp_fld, hw_v, hw_cst, hw_of, ne_eq, reduceCtorEq, not_false_eq_true, implies_true, forall_const, wp_cst, wp_v, wp_res, wp_resD, wp_blt, wp_ehs_cons, wp_ehs_nil, wp_ress_cons, wp_ress_nil, wp_asg, wp_setI, wp_ret, wp_ex, wp_own, wp_plOf, wp_getC, wp_setC, wp_call, wp_el_cons, wp_el_nil, List.getD_cons_zero, List.getD_cons_succ, List.set_cons_zero, List.set_cons_succ, cellV, ixV_cl, ixV_dl, ixV_dt, at0, at1, at2, at3, at4, ixn0, ixn1, ixn2, ixn3, ixn4, cmp_eq_int, cmp_ne_int, cmp_lt_int, cmp_le_int, cmp_gt_int, cmp_ge_int, bop_add_int, bop_sub_int, bop_mul_ex, bop_mod_ex, bop_fdiv_ex, bop_pow_ex, some_ex, len_cl, len_dl, len_dt, abs_i, int_i, int_b, min_i, max_i, List.length_map, D.int.injEq, D.bl.injEq, D.lst.injEq, Cell.lst.injEq, Option.some.injEq, exists_eq_left', exists_and_left, exists_eq_left, exists_and_right, decide_eq_true_eq, decide_eq_false_iff_not, false_implies, true_implies, and_true, true_and,  b_Depot_size_0, fld_f h]
theorem weekday_spec (h : HasDep A) (hm : 0 < m) {n : Int} (hn : 1 ≤ n) : (f_Depot_weekday.run A [dep m q fs, .int n] s).wp fun d s' => d = .int ((n - 1) % m + 1) ∧ s' = s := by
  refine run_wp rfl rfl ?_
  show (ex A b_Depot_weekday_2).wp [.val (.obj "Depot" (depF m q fs)), .val (.int n)] s _
  simp only [wp_cons, wp_nil, wp_ifs2, wp_tand, wp_tor, wp_tnot, wp_tval, wp_cmp, wp_ix, wp_bin, wp_neg, wp_fld, hw_v, hw_cst, hw_of, ne_eq, reduceCtorEq, not_false_eq_true, implies_true, forall_const, wp_cst, wp_v, wp_res, wp_resD, wp_blt, wp_ehs_cons, wp_ehs_nil, wp_ress_cons, wp_ress_nil, wp_asg, wp_setI, wp_ret, wp_ex, wp_own, wp_plOf, wp_getC, wp_setC, wp_call, wp_el_cons, wp_el_nil, List.getD_cons_zero, List.getD_cons_succ, List.set_cons_zero, List.set_cons_succ, cellV, ixV_cl, ixV_dl, ixV_dt, at0, at1, at2, at3, at4, ixn0, ixn1, ixn2, ixn3, ixn4, cmp_eq_int, cmp_ne_int, cmp_lt_int, cmp_le_int, cmp_gt_int, cmp_ge_int, bop_add_int, bop_sub_int, bop_mul_ex, bop_mod_ex, bop_fdiv_ex, bop_pow_ex, some_ex, len_cl, len_dl, len_dt, abs_i, int_i, int_b, min_i, max_i, List.length_map, D.int.injEq, D.bl.injEq, D.lst.injEq, Cell.lst.injEq, Option.some.injEq, exists_eq_left', exists_and_left, exists_eq_left, exists_and_right, decide_eq_true_eq, decide_eq_false_iff_not, false_implies, true_implies, and_true, true_and,  b_Depot_weekday_2]
  refine ⟨fun z => absurd z (by omega), fun _ => ?_⟩
  simp only [wp_cons, wp_nil, wp_ifs2, wp_tand, wp_tor, wp_tnot, wp_tval, wp_cmp, wp_ix, wp_bin, wp_neg, wp_fld, hw_v, hw_cst, hw_of, ne_eq, reduceCtorEq, not_false_eq_true, implies_true, forall_const, wp_cst, wp_v, wp_res, wp_resD, wp_blt, wp_ehs_cons, wp_ehs_nil, wp_ress_cons, wp_ress_nil, wp_asg, wp_setI, wp_ret, wp_ex, wp_own, wp_plOf, wp_getC, wp_setC, wp_call, wp_el_cons, wp_el_nil, List.getD_cons_zero, List.getD_cons_succ, List.set_cons_zero, List.set_cons_succ, cellV, ixV_cl, ixV_dl, ixV_dt, at0, at1, at2, at3, at4, ixn0, ixn1, ixn2, ixn3, ixn4, cmp_eq_int, cmp_ne_int, cmp_lt_int, cmp_le_int, cmp_gt_int, cmp_ge_int, bop_add_int, bop_sub_int, bop_mul_ex, bop_mod_ex, bop_fdiv_ex, bop_pow_ex, some_ex, len_cl, len_dl, len_dt, abs_i, int_i, int_b, min_i, max_i, List.length_map, D.int.injEq, D.bl.injEq, D.lst.injEq, Cell.lst.injEq, Option.some.injEq, exists_eq_left', exists_and_left, exists_eq_left, exists_and_right, decide_eq_true_eq, decide_eq_false_iff_not, false_implies, true_implies, and_true, true_and,  b_Depot_weekday_1, fld_p h]
  exact hm
theorem wp_chain {o1 o2 : Cop} {a b c : Tm} : (ev A (.chain o1 o2 a b c)).wp e s QD ↔ hw A a e s fun x e s => hw A b e s fun y e s => (res x).wp e s fun x e s => (res y).wp e s fun y' e s => ∃ k, cmpV o1 x y' = some k ∧ (k = true → hw A c e s fun z e s => (res z).wp e s fun z e s => ∃ k, cmpV o2 y' z = some k ∧ QD (.bl k) e s) ∧ (k = false → QD (.bl false) e s) := by
  refine wp_bind.trans (wp_iff fun x e s => wp_bind.trans (wp_iff fun y e s => wp_bind.trans (wp_iff fun x e s => wp_bind.trans (wp_iff fun y' e s => wp_bind.trans (wp_opt.trans ?_)))))
  refine exists_congr fun k => and_congr_right fun _ => ?_
  cases k with
  | true =>
    constructor
    · intro q
      refine ⟨fun _ => ?_, nofun⟩
      have q := wp_bind.mp q
      refine wp_mono q fun z e s q => ?_
      have q := wp_bind.mp q
      refine wp_mono q fun z e s q => ?_
      have q := wp_opt.mp (wp_bind.mp q)
      obtain ⟨k, h1, h2⟩ := q
      exact ⟨k, h1, wp_pure.mp h2⟩
    · rintro ⟨q, _⟩
      refine wp_bind.mpr (wp_mono (q rfl) fun z e s q => wp_bind.mpr (wp_mono q fun z e s q => wp_bind.mpr (wp_opt.mpr ?_)))
      obtain ⟨k, h1, h2⟩ := q
      exact ⟨k, h1, wp_pure.mpr h2⟩
  | false => exact ⟨fun q => ⟨nofun, fun _ => wp_pure.mp q⟩, fun q => wp_pure.mpr (q.2 rfl)⟩
theorem check_days_spec {n : Int} (h0 : 0 ≤ n) (h1 : n ≤ 1000000000000000000000000000000) : (f_check_days.run A [.int n] s).wp fun d s' => s' = s := by
  refine run_wp rfl rfl ?_
  show (ex A b_check_days_1).wp [.val (.int n)] s _
  simp only [wp_cons, wp_nil, wp_ifs2, wp_tand, wp_tor, wp_tnot, wp_tval, wp_cmp, wp_ix, wp_bin, wp_neg, wp_fld, hw_v, hw_cst, hw_of, ne_eq, reduceCtorEq, not_false_eq_true, implies_true, forall_const, wp_cst, wp_v, wp_res, wp_resD, wp_blt, wp_ehs_cons, wp_ehs_nil, wp_ress_cons, wp_ress_nil, wp_asg, wp_setI, wp_ret, wp_ex, wp_own, wp_plOf, wp_getC, wp_setC, wp_call, wp_el_cons, wp_el_nil, List.getD_cons_zero, List.getD_cons_succ, List.set_cons_zero, List.set_cons_succ, cellV, ixV_cl, ixV_dl, ixV_dt, at0, at1, at2, at3, at4, ixn0, ixn1, ixn2, ixn3, ixn4, cmp_eq_int, cmp_ne_int, cmp_lt_int, cmp_le_int, cmp_gt_int, cmp_ge_int, bop_add_int, bop_sub_int, bop_mul_ex, bop_mod_ex, bop_fdiv_ex, bop_pow_ex, some_ex, len_cl, len_dl, len_dt, abs_i, int_i, int_b, min_i, max_i, List.length_map, D.int.injEq, D.bl.injEq, D.lst.injEq, Cell.lst.injEq, Option.some.injEq, exists_eq_left', exists_and_left, exists_eq_left, exists_and_right, decide_eq_true_eq, decide_eq_false_iff_not, false_implies, true_implies, and_true, true_and,  b_check_days_1, wp_chain, Bool.not_eq_true', Bool.not_eq_false', Bool.not_true, Bool.not_false]
  exact ⟨fun _ h => absurd h1 h, fun h => absurd h0 h⟩
/-- .. and of the defs that are called -/
structure HasDays (A : Api) : Prop where
  has : A.has ("", "check_days") = true
  call : ∃ B, ∀ ds s, A.call ("", "check_days") ds s = f_check_days.run B ds s
theorem days_st (h : HasDays A) {n : Int} (h0 : 0 ≤ n) (h1 : n ≤ 1000000000000000000000000000000) {Q : D → Store → Prop} (q : ∀ d, Q d s) : (A.call ("", "check_days") [.int n] s).wp Q := by
  obtain ⟨B, hB⟩ := h.call
  rw [hB]
  exact cwp_mono (check_days_spec h0 h1) fun d s' hs => by
    subst hs
    exact q d
theorem closings_spec (h : HasDep A) (hd : HasDays A) (hm : 0 < m) (hm2 : m < 1000) {n : Int} (h0 : 0 ≤ n) (h1 : n ≤ 1000000000000000000000000000000) : (f_Depot_closings.run A [dep m q fs, .int n] s).wp fun d s' => d = .int (n / m) ∧ s' = s := by
  refine run_wp rfl rfl ?_
  show (ex A b_Depot_closings_1).wp [.val (.obj "Depot" (depF m q fs)), .val (.int n)] s _
  simp only [wp_cons, wp_nil, wp_ifs2, wp_tand, wp_tor, wp_tnot, wp_tval, wp_cmp, wp_ix, wp_bin, wp_neg, wp_fld, hw_v, hw_cst, hw_of, ne_eq, reduceCtorEq, not_false_eq_true, implies_true, forall_const, wp_cst, wp_v, wp_res, wp_resD, wp_blt, wp_ehs_cons, wp_ehs_nil, wp_ress_cons, wp_ress_nil, wp_asg, wp_setI, wp_ret, wp_ex, wp_own, wp_plOf, wp_getC, wp_setC, wp_call, wp_el_cons, wp_el_nil, List.getD_cons_zero, List.getD_cons_succ, List.set_cons_zero, List.set_cons_succ, cellV, ixV_cl, ixV_dl, ixV_dt, at0, at1, at2, at3, at4, ixn0, ixn1, ixn2, ixn3, ixn4, cmp_eq_int, cmp_ne_int, cmp_lt_int, cmp_le_int, cmp_gt_int, cmp_ge_int, bop_add_int, bop_sub_int, bop_mul_ex, bop_mod_ex, bop_fdiv_ex, bop_pow_ex, some_ex, len_cl, len_dl, len_dt, abs_i, int_i, int_b, min_i, max_i, List.length_map, D.int.injEq, D.bl.injEq, D.lst.injEq, Cell.lst.injEq, Option.some.injEq, exists_eq_left', exists_and_left, exists_eq_left, exists_and_right, decide_eq_true_eq, decide_eq_false_iff_not, false_implies, true_implies, and_true, true_and,  b_Depot_closings_1, hd.has]
  refine days_st hd h0 h1 fun d => ?_
  simp only [wp_cons, wp_nil, wp_ifs2, wp_tand, wp_tor, wp_tnot, wp_tval, wp_cmp, wp_ix, wp_bin, wp_neg, wp_fld, hw_v, hw_cst, hw_of, ne_eq, reduceCtorEq, not_false_eq_true, implies_true, forall_const, wp_cst, wp_v, wp_res, wp_resD, wp_blt, wp_ehs_cons, wp_ehs_nil, wp_ress_cons, wp_ress_nil, wp_asg, wp_setI, wp_ret, wp_ex, wp_own, wp_plOf, wp_getC, wp_setC, wp_call, wp_el_cons, wp_el_nil, List.getD_cons_zero, List.getD_cons_succ, List.set_cons_zero, List.set_cons_succ, cellV, ixV_cl, ixV_dl, ixV_dt, at0, at1, at2, at3, at4, ixn0, ixn1, ixn2, ixn3, ixn4, cmp_eq_int, cmp_ne_int, cmp_lt_int, cmp_le_int, cmp_gt_int, cmp_ge_int, bop_add_int, bop_sub_int, bop_mul_ex, bop_mod_ex, bop_fdiv_ex, bop_pow_ex, some_ex, len_cl, len_dl, len_dt, abs_i, int_i, int_b, min_i, max_i, List.length_map, D.int.injEq, D.bl.injEq, D.lst.injEq, Cell.lst.injEq, Option.some.injEq, exists_eq_left', exists_and_left, exists_eq_left, exists_and_right, decide_eq_true_eq, decide_eq_false_iff_not, false_implies, true_implies, and_true, true_and,  b_Depot_closings_0, fld_p h]
  exact div_ok hm ⟨by omega, by omega⟩
theorem last_spec (h : HasDep A) (hd : HasDays A) (hm : 0 < m) {n : Int} (h0 : 0 ≤ n) (h1 : n ≤ 1000000000000000000000000000000) : (f_Depot_last_weekday.run A [dep m q fs, .int n] s).wp fun d s' => d = .int (n % m + 1) ∧ s' = s := by
  refine run_wp rfl rfl ?_
  show (ex A b_Depot_last_weekday_1).wp [.val (.obj "Depot" (depF m q fs)), .val (.int n)] s _
  simp only [wp_cons, wp_nil, wp_ifs2, wp_tand, wp_tor, wp_tnot, wp_tval, wp_cmp, wp_ix, wp_bin, wp_neg, wp_fld, hw_v, hw_cst, hw_of, ne_eq, reduceCtorEq, not_false_eq_true, implies_true, forall_const, wp_cst, wp_v, wp_res, wp_resD, wp_blt, wp_ehs_cons, wp_ehs_nil, wp_ress_cons, wp_ress_nil, wp_asg, wp_setI, wp_ret, wp_ex, wp_own, wp_plOf, wp_getC, wp_setC, wp_call, wp_el_cons, wp_el_nil, List.getD_cons_zero, List.getD_cons_succ, List.set_cons_zero, List.set_cons_succ, cellV, ixV_cl, ixV_dl, ixV_dt, at0, at1, at2, at3, at4, ixn0, ixn1, ixn2, ixn3, ixn4, cmp_eq_int, cmp_ne_int, cmp_lt_int, cmp_le_int, cmp_gt_int, cmp_ge_int, bop_add_int, bop_sub_int, bop_mul_ex, bop_mod_ex, bop_fdiv_ex, bop_pow_ex, some_ex, len_cl, len_dl, len_dt, abs_i, int_i, int_b, min_i, max_i, List.length_map, D.int.injEq, D.bl.injEq, D.lst.injEq, Cell.lst.injEq, Option.some.injEq, exists_eq_left', exists_and_left, exists_eq_left, exists_and_right, decide_eq_true_eq, decide_eq_false_iff_not, false_implies, true_implies, and_true, true_and,  b_Depot_last_weekday_1, hd.has]
  refine days_st hd h0 h1 fun d => ?_
  simp only [wp_cons, wp_nil, wp_ifs2, wp_tand, wp_tor, wp_tnot, wp_tval, wp_cmp, wp_ix, wp_bin, wp_neg, wp_fld, hw_v, hw_cst, hw_of, ne_eq, reduceCtorEq, not_false_eq_true, implies_true, forall_const, wp_cst, wp_v, wp_res, wp_resD, wp_blt, wp_ehs_cons, wp_ehs_nil, wp_ress_cons, wp_ress_nil, wp_asg, wp_setI, wp_ret, wp_ex, wp_own, wp_plOf, wp_getC, wp_setC, wp_call, wp_el_cons, wp_el_nil, List.getD_cons_zero, List.getD_cons_succ, List.set_cons_zero, List.set_cons_succ, cellV, ixV_cl, ixV_dl, ixV_dt, at0, at1, at2, at3, at4, ixn0, ixn1, ixn2, ixn3, ixn4, cmp_eq_int, cmp_ne_int, cmp_lt_int, cmp_le_int, cmp_gt_int, cmp_ge_int, bop_add_int, bop_sub_int, bop_mul_ex, bop_mod_ex, bop_fdiv_ex, bop_pow_ex, some_ex, len_cl, len_dl, len_dt, abs_i, int_i, int_b, min_i, max_i, List.length_map, D.int.injEq, D.bl.injEq, D.lst.injEq, Cell.lst.injEq, Option.some.injEq, exists_eq_left', exists_and_left, exists_eq_left, exists_and_right, decide_eq_true_eq, decide_eq_false_iff_not, false_implies, true_implies, and_true, true_and,  b_Depot_last_weekday_0, fld_p h]
  exact hm
end
end Vm
namespace Vm
open PySem
theorem pys_ints : ∀ fs : List Int, D.pys (fs.map .int) = fs.map PyData.int
  | [] => by simp [D.pys]
  | f :: fs => by
    simp only [List.map_cons, D.pys, D.py]
    rw [pys_ints fs]
theorem plain_ints : ∀ fs : List Int, PyData.plainAll (fs.map PyData.int) = true
  | [] => rfl
  | f :: fs => by
    show (PyData.plain (.int f) && PyData.plainAll (fs.map PyData.int)) = true
    rw [plain_ints fs]
    rfl
theorem depth_ints : ∀ fs : List Int, PyData.depthAll (fs.map PyData.int) ≤ 1
  | [] => by simp [PyData.depthAll]
  | f :: fs => by
    have := depth_ints fs
    simp only [List.map_cons, PyData.depthAll, PyData.depth]
    omega
theorem wp_eq {α : Type} {m : M α} {e e1 : Env} {s s1 : Store} {x : α} (h : m.wp e s fun a e' s' => a = x ∧ e' = e1 ∧ s' = s1) : m e s = .ok x e1 s1 := by
  obtain ⟨a, e', s', h1, rfl, rfl, rfl⟩ := h
  exact h1
theorem cnt_tup {fs : List Int} {c : Int} : bCount true (.d (.tup (fs.map .int))) (.d (.int c)) = some (.int (fs.count c : Nat)) := by
  have h1 : okP (D.py (.int c)) = true := rfl
  have h2 : okP (PyData.list (D.pys (fs.map .int))) = true := by
    rw [pys_ints]
    unfold okP
    have := depth_ints fs
    rw [Bool.and_eq_true]
    refine ⟨plain_ints fs, decide_eq_true ?_⟩
    simp only [PyData.depth]
    omega
  show (if (true == true) = true then (if (okP (D.py (.int c)) && okP (PyData.list (D.pys (fs.map .int)))) = true then some (D.int ((D.pys (fs.map .int)).countP fun z => PyData.eqv z (D.py (.int c)) : Nat)) else none) else none) = _
  rw [h1, h2, pys_ints]
  simp only [beq_self_eq_true, if_true, Bool.and_self, Option.some.injEq, D.int.injEq]
  rw [List.countP_map]
  rfl
end Vm
namespace Vm
open PySem
/-- how many begin on each day of the round -/
def cn (fs : List Int) (m : Int) : List Int := (List.range m.toNat).map fun (j : Nat) => ((fs.count (1 + (j : Int)) : Nat) : Int)
def subAt0 (q : Int) : List Int → List Int
  | [] => []
  | y :: ys => (y - q) :: ys
def cF (fs : List Int) : D → D
  | .int c => .int (fs.count c : Nat)
  | _ => .non
theorem cn_map {fs : List Int} {m : Int} : ((irange 1 (m + 1)).filter fun _ => true).map (cF fs) = (cn fs m).map .int := by
  unfold irange cn
  rw [List.filter_eq_self.mpr (fun _ _ => rfl), List.map_map, List.map_map, show m + 1 - 1 = m by omega]
  rfl
theorem list_tup {xs : List D} : btF .tuple [.c (.lst xs)] = some (.tup xs) := rfl
section
variable {A : Api} {s : Store} {m q : Int} {fs : List Int}
theorem places_spec (h : HasDep A) (hm : 1 ≤ m) (hm2 : m < 1000) : (f_Depot_places.run A [dep m q fs] s).wp fun d s' => d = .tup ((subAt0 q (cn fs m)).map .int) ∧ s' = s := by
  refine run_wp rfl rfl ?_
  show (ex A b_Depot_places_2).wp [.val (.obj "Depot" (depF m q fs)), .emp, .emp] s _
  rw [b_Depot_places_2, wp_cons, wp_own]
  refine lc_run (t := fun _ => true) (f := cF fs) (xs := irange 1 (m + 1)) rfl (by rw [irange_len]; omega) ?_
  rw [wp_irng2]
  simp only [wp_cons, wp_nil, wp_ifs2, wp_tand, wp_tor, wp_tnot, wp_tval, wp_cmp, wp_ix, wp_bin, wp_neg, wp_fld, hw_v, hw_cst, hw_of, ne_eq, reduceCtorEq, not_false_eq_true, implies_true, forall_const, wp_cst, wp_v, wp_res, wp_resD, wp_blt, wp_ehs_cons, wp_ehs_nil, wp_ress_cons, wp_ress_nil, wp_asg, wp_setI, wp_ret, wp_ex, wp_own, wp_plOf, wp_getC, wp_setC, wp_call, wp_el_cons, wp_el_nil, List.getD_cons_zero, List.getD_cons_succ, List.set_cons_zero, List.set_cons_succ, cellV, ixV_cl, ixV_dl, ixV_dt, at0, at1, at2, at3, at4, ixn0, ixn1, ixn2, ixn3, ixn4, cmp_eq_int, cmp_ne_int, cmp_lt_int, cmp_le_int, cmp_gt_int, cmp_ge_int, bop_add_int, bop_sub_int, bop_mul_ex, bop_mod_ex, bop_fdiv_ex, bop_pow_ex, some_ex, len_cl, len_dl, len_dt, abs_i, int_i, int_b, min_i, max_i, List.length_map, D.int.injEq, D.bl.injEq, D.lst.injEq, Cell.lst.injEq, Option.some.injEq, exists_eq_left', exists_and_left, exists_eq_left, exists_and_right, decide_eq_true_eq, decide_eq_false_iff_not, false_implies, true_implies, and_true, true_and,  fld_p h]
  refine ⟨decide_eq_true ⟨by omega, by omega⟩, decide_eq_true ⟨by omega, by omega⟩, rfl, fun x hx => ?_, ?_⟩
  · obtain ⟨j, hj⟩ := List.getElem?_of_mem hx
    obtain ⟨rfl, hj2⟩ := irange_get hj
    refine ⟨_, rfl, rfl, rfl, wp_eq ?_⟩
    show (ev A _).wp [.val (.obj "Depot" (depF m q fs)), .emp, .val (.int (1 + (j : Int)))] s _
    simp only [wp_cons, wp_nil, wp_ifs2, wp_tand, wp_tor, wp_tnot, wp_tval, wp_cmp, wp_ix, wp_bin, wp_neg, wp_fld, hw_v, hw_cst, hw_of, ne_eq, reduceCtorEq, not_false_eq_true, implies_true, forall_const, wp_cst, wp_v, wp_res, wp_resD, wp_blt, wp_ehs_cons, wp_ehs_nil, wp_ress_cons, wp_ress_nil, wp_asg, wp_setI, wp_ret, wp_ex, wp_own, wp_plOf, wp_getC, wp_setC, wp_call, wp_el_cons, wp_el_nil, List.getD_cons_zero, List.getD_cons_succ, List.set_cons_zero, List.set_cons_succ, cellV, ixV_cl, ixV_dl, ixV_dt, at0, at1, at2, at3, at4, ixn0, ixn1, ixn2, ixn3, ixn4, cmp_eq_int, cmp_ne_int, cmp_lt_int, cmp_le_int, cmp_gt_int, cmp_ge_int, bop_add_int, bop_sub_int, bop_mul_ex, bop_mod_ex, bop_fdiv_ex, bop_pow_ex, some_ex, len_cl, len_dl, len_dt, abs_i, int_i, int_b, min_i, max_i, List.length_map, D.int.injEq, D.bl.injEq, D.lst.injEq, Cell.lst.injEq, Option.some.injEq, exists_eq_left', exists_and_left, exists_eq_left, exists_and_right, decide_eq_true_eq, decide_eq_false_iff_not, false_implies, true_implies, and_true, true_and,  wp_cnt, fld_f h, Vw.items, Option.map_some, cnt_tup]
    exact ⟨rfl, rfl⟩
  · rw [cn_map]
    obtain ⟨y, ys, hy⟩ : ∃ y ys, cn fs m = y :: ys := by
      unfold cn
      obtain ⟨k, hk⟩ : ∃ k, m.toNat = k + 1 := ⟨m.toNat - 1, by omega⟩
      rw [hk, List.range_succ_eq_map]
      exact ⟨_, _, rfl⟩
    rw [hy]
    simp only [wp_cons, wp_nil, wp_ifs2, wp_tand, wp_tor, wp_tnot, wp_tval, wp_cmp, wp_ix, wp_bin, wp_neg, wp_fld, hw_v, hw_cst, hw_of, ne_eq, reduceCtorEq, not_false_eq_true, implies_true, forall_const, wp_cst, wp_v, wp_res, wp_resD, wp_blt, wp_ehs_cons, wp_ehs_nil, wp_ress_cons, wp_ress_nil, wp_asg, wp_setI, wp_ret, wp_ex, wp_own, wp_plOf, wp_getC, wp_setC, wp_call, wp_el_cons, wp_el_nil, List.getD_cons_zero, List.getD_cons_succ, List.set_cons_zero, List.set_cons_succ, cellV, ixV_cl, ixV_dl, ixV_dt, at0, at1, at2, at3, at4, ixn0, ixn1, ixn2, ixn3, ixn4, cmp_eq_int, cmp_ne_int, cmp_lt_int, cmp_le_int, cmp_gt_int, cmp_ge_int, bop_add_int, bop_sub_int, bop_mul_ex, bop_mod_ex, bop_fdiv_ex, bop_pow_ex, some_ex, len_cl, len_dl, len_dt, abs_i, int_i, int_b, min_i, max_i, List.length_map, D.int.injEq, D.bl.injEq, D.lst.injEq, Cell.lst.injEq, Option.some.injEq, exists_eq_left', exists_and_left, exists_eq_left, exists_and_right, decide_eq_true_eq, decide_eq_false_iff_not, false_implies, true_implies, and_true, true_and,  b_Depot_places_1, List.map_cons, fld_q h]
    simp only [wp_cons, wp_nil, wp_ifs2, wp_tand, wp_tor, wp_tnot, wp_tval, wp_cmp, wp_ix, wp_bin, wp_neg, wp_fld, hw_v, hw_cst, hw_of, ne_eq, reduceCtorEq, not_false_eq_true, implies_true, forall_const, wp_cst, wp_v, wp_res, wp_resD, wp_blt, wp_ehs_cons, wp_ehs_nil, wp_ress_cons, wp_ress_nil, wp_asg, wp_setI, wp_ret, wp_ex, wp_own, wp_plOf, wp_getC, wp_setC, wp_call, wp_el_cons, wp_el_nil, List.getD_cons_zero, List.getD_cons_succ, List.set_cons_zero, List.set_cons_succ, cellV, ixV_cl, ixV_dl, ixV_dt, at0, at1, at2, at3, at4, ixn0, ixn1, ixn2, ixn3, ixn4, cmp_eq_int, cmp_ne_int, cmp_lt_int, cmp_le_int, cmp_gt_int, cmp_ge_int, bop_add_int, bop_sub_int, bop_mul_ex, bop_mod_ex, bop_fdiv_ex, bop_pow_ex, some_ex, len_cl, len_dl, len_dt, abs_i, int_i, int_b, min_i, max_i, List.length_map, D.int.injEq, D.bl.injEq, D.lst.injEq, Cell.lst.injEq, Option.some.injEq, exists_eq_left', exists_and_left, exists_eq_left, exists_and_right, decide_eq_true_eq, decide_eq_false_iff_not, false_implies, true_implies, and_true, true_and,  b_Depot_places_0, list_tup]
    rfl
end
end Vm
namespace Vm
open PySem
def b__law_pool_0 : Sm := .cons (.ret (.cell (.lst (.cons (.cst (.int (0))) (.cons (.cst (.int (1))) (.cons (.cst (.int (0))) (.cons (.cst (.int (0))) (.cons (.blt .list (.cons (.v 0) .nil)) .nil)))))))) .nil
def f__law_pool : Fn := ⟨1, 1, b__law_pool_0, none⟩
theorem list_scr {ns : List Int} : btF .list [.d (.scr ns)] = some (.lst (ns.map .int)) := rfl
theorem pool_spec {A : Api} {ns : List Int} {S : Store} : (f__law_pool.run A [.scr ns] S).wp fun d S' => d = .ref S.length ∧ S' = S ++ [some (pool 0 1 0 0 ns)] := by
  refine run_wp rfl rfl ?_
  show (ex A b__law_pool_0).wp [.val (.scr ns)] S _
  simp only [wp_cons, wp_nil, wp_ifs2, wp_tand, wp_tor, wp_tnot, wp_tval, wp_cmp, wp_ix, wp_bin, wp_neg, wp_fld, hw_v, hw_cst, hw_of, ne_eq, reduceCtorEq, not_false_eq_true, implies_true, forall_const, wp_cst, wp_v, wp_res, wp_resD, wp_blt, wp_ehs_cons, wp_ehs_nil, wp_ress_cons, wp_ress_nil, wp_asg, wp_setI, wp_ret, wp_ex, wp_own, wp_plOf, wp_getC, wp_setC, wp_call, wp_el_cons, wp_el_nil, List.getD_cons_zero, List.getD_cons_succ, List.set_cons_zero, List.set_cons_succ, cellV, ixV_cl, ixV_dl, ixV_dt, at0, at1, at2, at3, at4, ixn0, ixn1, ixn2, ixn3, ixn4, cmp_eq_int, cmp_ne_int, cmp_lt_int, cmp_le_int, cmp_gt_int, cmp_ge_int, bop_add_int, bop_sub_int, bop_mul_ex, bop_mod_ex, bop_fdiv_ex, bop_pow_ex, some_ex, len_cl, len_dl, len_dt, abs_i, int_i, int_b, min_i, max_i, List.length_map, D.int.injEq, D.bl.injEq, D.lst.injEq, Cell.lst.injEq, Option.some.injEq, exists_eq_left', exists_and_left, exists_eq_left, exists_and_right, decide_eq_true_eq, decide_eq_false_iff_not, false_implies, true_implies, and_true, true_and,  b__law_pool_0, wp_cell, wp_lst, list_scr, pool]
  simp
theorem pool_st {ns : List Int} {S0 : Store} : PoolSt S0.length 0 (S0 ++ [none]) (S0 ++ [some (pool 0 1 0 0 ns)]) :=
  ⟨0, 1, 0, 0, ns, by simp, ⟨by omega, by omega, by omega, by omega, by omega, by omega⟩, by simp⟩
end Vm
namespace Vm
open PySem
theorem wp_noRz {α : Type} {m : M α} {e : Env} {s : Store} {Q : α → Env → Store → Prop} : (M.noRz m).wp e s Q ↔ m.wp e s Q := by
  rw [wp_out, wp_out]
  unfold M.noRz
  cases m e s <;> rfl
theorem fld_prop {A : Api} {c f : Str} {fs : List (Str × D)} {e : Env} {s : Store} {QD : D → Env → Store → Prop} (h : A.prop c f = true) : (fldV A (.d (.obj c fs)) f).wp e s QD ↔ (A.call (c, f) [.obj c fs] s).wp fun d s => QD d e s := by
  show (if A.prop c f = true then _ else _ : M D).wp e s QD ↔ _
  rw [if_pos h, wp_noRz, wp_run]
structure HasPlaces (A : Api) : Prop where
  prop : A.prop "Depot" "places" = true
  call : ∃ B, HasDep B ∧ ∀ ds s, A.call ("Depot", "places") ds s = f_Depot_places.run B ds s
structure HasSize (A : Api) : Prop where
  prop : A.prop "Depot" "size" = true
  call : ∃ B, HasDep B ∧ ∀ ds s, A.call ("Depot", "size") ds s = f_Depot_size.run B ds s
theorem fld_places {A : Api} {m q : Int} {fs : List Int} {e : Env} {s : Store} {QD : D → Env → Store → Prop} (h : HasPlaces A) (hm : 1 ≤ m) (hm2 : m < 1000) (k : QD (.tup ((subAt0 q (cn fs m)).map .int)) e s) : (fldV A (.d (.obj "Depot" (depF m q fs))) "places").wp e s QD := by
  rw [fld_prop h.prop]
  obtain ⟨B, hB, hc⟩ := h.call
  rw [hc]
  exact cwp_mono (places_spec hB hm hm2) fun d s' ⟨h1, h2⟩ => by
    subst h1
    subst h2
    exact k
theorem fld_size {A : Api} {m q : Int} {fs : List Int} {e : Env} {s : Store} {QD : D → Env → Store → Prop} (h : HasSize A) (k : QD (.int fs.length) e s) : (fldV A (.d (.obj "Depot" (depF m q fs))) "size").wp e s QD := by
  rw [fld_prop h.prop]
  obtain ⟨B, hB, hc⟩ := h.call
  rw [hc]
  exact cwp_mono (size_spec hB) fun d s' ⟨h1, h2⟩ => by
    subst h1
    subst h2
    exact k
theorem out_eq {r : COut} {x : D} {s : Store} (h : r.wp fun d s' => d = x ∧ s' = s) : r = .ok x s := by
  obtain ⟨d, s', h1, rfl, rfl⟩ := h
  exact h1
theorem places_iff {A : Api} {m q : Int} {fs : List Int} {e : Env} {s : Store} {QD : D → Env → Store → Prop} (h : HasPlaces A) (hm : 1 ≤ m) (hm2 : m < 1000) : (fldV A (.d (.obj "Depot" (depF m q fs))) "places").wp e s QD ↔ QD (.tup ((subAt0 q (cn fs m)).map .int)) e s := by
  rw [fld_prop h.prop]
  obtain ⟨B, hB, hc⟩ := h.call
  have := out_eq (places_spec (A := B) (m := m) (q := q) (fs := fs) (s := s) hB hm hm2)
  rw [hc]
  show (f_Depot_places.run B [dep m q fs] s).wp _ ↔ _
  rw [this]
  exact ⟨fun ⟨_, _, h, q⟩ => (by cases h; exact q), fun q => ⟨_, _, rfl, q⟩⟩
end Vm
namespace Vm
open PySem
theorem allI_map : ∀ ns : List Int, allI (ns.map .int) = some ns
  | [] => rfl
  | n :: ns => by
    show (allI (ns.map .int)).map (n :: ·) = _
    rw [allI_map ns]
    rfl
theorem sum_tup {ns : List Int} : btF .sum [.d (.tup (ns.map .int))] = some (.int ns.sum) := by
  show (some (true, ns.map D.int)).bind (fun p => (allI p.2).map fun ns => D.int ns.sum) = _
  rw [Option.bind_some, allI_map]
  rfl
theorem sum_lst {ns : List Int} : btF .sum [.d (.lst (ns.map .int))] = some (.int ns.sum) := by
  show (some (false, ns.map D.int)).bind (fun p => (allI p.2).map fun ns => D.int ns.sum) = _
  rw [Option.bind_some, allI_map]
  rfl
theorem wp_sl {A : Api} {e : Env} {s : Store} {QD : D → Env → Store → Prop} {a lo hi : Tm} : (ev A (.sl a lo hi)).wp e s QD ↔ hw A a e s fun h e s => (eod (ev A lo) lo).wp e s fun l e s => (eod (ev A hi) hi).wp e s fun r e s => (res h).wp e s fun v e s => ∃ d, slV v l r = some d ∧ QD d e s :=
  wp_bind.trans (wp_iff fun h e s => wp_bind.trans (wp_iff fun l e s => wp_bind.trans (wp_iff fun r e s => wp_bind.trans (wp_iff fun v e s => wp_opt))))
theorem wp_eod_non {A : Api} {e : Env} {s : Store} {Q : Option Int → Env → Store → Prop} : (eod (ev A .non) .non).wp e s Q ↔ Q none e s := wp_pure
theorem wp_eod_just {A : Api} {e : Env} {s : Store} {t : Tm} {Q : Option Int → Env → Store → Prop} : (eod (ev A (.just t)) (.just t)).wp e s Q ↔ (ev A t).wp e s fun d e s => ∃ i, d = .int i ∧ Q (some i) e s := by
  refine wp_bind.trans (wp_iff fun d e s => ?_)
  cases d with
  | int i => exact wp_pure.trans ⟨fun q => ⟨i, rfl, q⟩, fun ⟨_, h, q⟩ => (by cases h; exact q)⟩
  | _ => exact ⟨fun q => (wp_bad.mp q).elim, fun ⟨_, h, _⟩ => (nomatch h)⟩
end Vm
namespace Vm
open PySem
theorem sl_take {xs : List D} {r : Int} (h0 : 0 ≤ r) : slV (.d (.tup xs)) none (some r) = some (.tup (xs.take r.toNat)) := by
  show some (D.tup (slV.cut none (some r) xs)) = _
  unfold slV.cut
  obtain ⟨n, rfl⟩ : ∃ n : Nat, r = (n : Int) := ⟨r.toNat, by omega⟩
  rw [HT.sIx_none, HT.sIx_nat, List.drop_zero, Nat.sub_zero, Int.toNat_natCast]
  congr 2
  by_cases h : n ≤ xs.length
  · rw [Nat.min_eq_left h]
  · rw [Nat.min_eq_right (by omega), List.take_length, List.take_of_length_le (by omega)]
theorem begun_spec {A : Api} {s : Store} {m q : Int} {fs : List Int} (h : HasDep A) (hd : HasDays A) (hp : HasPlaces A) (hm : 1 ≤ m) (hm2 : m < 1000) {n : Int} (h0 : 0 ≤ n) (h1 : n ≤ 1000000000000000000000000000000) (hs : Sm100 (subAt0 q (cn fs m)).sum) :
    (f_Depot_begun.run A [dep m q fs, .int n] s).wp fun d s' => d = .int (n / m * (subAt0 q (cn fs m)).sum + ((subAt0 q (cn fs m)).take (n % m).toNat).sum) ∧ s' = s := by
  refine run_wp rfl rfl ?_
  show (ex A b_Depot_begun_3).wp [.val (.obj "Depot" (depF m q fs)), .val (.int n), .emp, .emp] s _
  simp only [wp_cons, wp_nil, wp_ifs2, wp_tand, wp_tor, wp_tnot, wp_tval, wp_cmp, wp_ix, wp_bin, wp_neg, wp_fld, hw_v, hw_cst, hw_of, ne_eq, reduceCtorEq, not_false_eq_true, implies_true, forall_const, wp_cst, wp_v, wp_res, wp_resD, wp_blt, wp_ehs_cons, wp_ehs_nil, wp_ress_cons, wp_ress_nil, wp_asg, wp_setI, wp_ret, wp_ex, wp_own, wp_plOf, wp_getC, wp_setC, wp_call, wp_el_cons, wp_el_nil, List.getD_cons_zero, List.getD_cons_succ, List.set_cons_zero, List.set_cons_succ, cellV, ixV_cl, ixV_dl, ixV_dt, at0, at1, at2, at3, at4, ixn0, ixn1, ixn2, ixn3, ixn4, cmp_eq_int, cmp_ne_int, cmp_lt_int, cmp_le_int, cmp_gt_int, cmp_ge_int, bop_add_int, bop_sub_int, bop_mul_ex, bop_mod_ex, bop_fdiv_ex, bop_pow_ex, some_ex, len_cl, len_dl, len_dt, abs_i, int_i, int_b, min_i, max_i, List.length_map, D.int.injEq, D.bl.injEq, D.lst.injEq, Cell.lst.injEq, Option.some.injEq, exists_eq_left', exists_and_left, exists_eq_left, exists_and_right, decide_eq_true_eq, decide_eq_false_iff_not, false_implies, true_implies, and_true, true_and,  b_Depot_begun_3, hd.has]
  refine days_st hd h0 h1 fun d => ?_
  simp only [wp_cons, wp_nil, wp_ifs2, wp_tand, wp_tor, wp_tnot, wp_tval, wp_cmp, wp_ix, wp_bin, wp_neg, wp_fld, hw_v, hw_cst, hw_of, ne_eq, reduceCtorEq, not_false_eq_true, implies_true, forall_const, wp_cst, wp_v, wp_res, wp_resD, wp_blt, wp_ehs_cons, wp_ehs_nil, wp_ress_cons, wp_ress_nil, wp_asg, wp_setI, wp_ret, wp_ex, wp_own, wp_plOf, wp_getC, wp_setC, wp_call, wp_el_cons, wp_el_nil, List.getD_cons_zero, List.getD_cons_succ, List.set_cons_zero, List.set_cons_succ, cellV, ixV_cl, ixV_dl, ixV_dt, at0, at1, at2, at3, at4, ixn0, ixn1, ixn2, ixn3, ixn4, cmp_eq_int, cmp_ne_int, cmp_lt_int, cmp_le_int, cmp_gt_int, cmp_ge_int, bop_add_int, bop_sub_int, bop_mul_ex, bop_mod_ex, bop_fdiv_ex, bop_pow_ex, some_ex, len_cl, len_dl, len_dt, abs_i, int_i, int_b, min_i, max_i, List.length_map, D.int.injEq, D.bl.injEq, D.lst.injEq, Cell.lst.injEq, Option.some.injEq, exists_eq_left', exists_and_left, exists_eq_left, exists_and_right, decide_eq_true_eq, decide_eq_false_iff_not, false_implies, true_implies, and_true, true_and,  b_Depot_begun_2, fld_p h]
  refine ⟨div_ok (by omega) ⟨by omega, by omega⟩, ?_⟩
  simp only [wp_cons, wp_nil, wp_ifs2, wp_tand, wp_tor, wp_tnot, wp_tval, wp_cmp, wp_ix, wp_bin, wp_neg, wp_fld, hw_v, hw_cst, hw_of, ne_eq, reduceCtorEq, not_false_eq_true, implies_true, forall_const, wp_cst, wp_v, wp_res, wp_resD, wp_blt, wp_ehs_cons, wp_ehs_nil, wp_ress_cons, wp_ress_nil, wp_asg, wp_setI, wp_ret, wp_ex, wp_own, wp_plOf, wp_getC, wp_setC, wp_call, wp_el_cons, wp_el_nil, List.getD_cons_zero, List.getD_cons_succ, List.set_cons_zero, List.set_cons_succ, cellV, ixV_cl, ixV_dl, ixV_dt, at0, at1, at2, at3, at4, ixn0, ixn1, ixn2, ixn3, ixn4, cmp_eq_int, cmp_ne_int, cmp_lt_int, cmp_le_int, cmp_gt_int, cmp_ge_int, bop_add_int, bop_sub_int, bop_mul_ex, bop_mod_ex, bop_fdiv_ex, bop_pow_ex, some_ex, len_cl, len_dl, len_dt, abs_i, int_i, int_b, min_i, max_i, List.length_map, D.int.injEq, D.bl.injEq, D.lst.injEq, Cell.lst.injEq, Option.some.injEq, exists_eq_left', exists_and_left, exists_eq_left, exists_and_right, decide_eq_true_eq, decide_eq_false_iff_not, false_implies, true_implies, and_true, true_and,  b_Depot_begun_1, fld_p h]
  refine ⟨by omega, ?_⟩
  have e0 := Int.emod_nonneg n (show m ≠ 0 by omega)
  have d1 : 0 ≤ n / m := Int.ediv_nonneg h0 (by omega)
  have d2 : n / m ≤ n := Int.ediv_le_self _ h0
  have hm3 : MulOk (n / m) (subAt0 q (cn fs m)).sum := mul_ok ⟨by omega, by omega⟩ hs
  generalize n / m = u at hm3 ⊢
  generalize n % m = r at e0 ⊢
  rw [b_Depot_begun_0, wp_cons, wp_ret, wp_bin, hw_of (by intro i h; cases h), wp_bin]
  simp only [wp_cons, wp_nil, wp_ifs2, wp_tand, wp_tor, wp_tnot, wp_tval, wp_cmp, wp_ix, wp_bin, wp_neg, wp_fld, hw_v, hw_cst, hw_of, ne_eq, reduceCtorEq, not_false_eq_true, implies_true, forall_const, wp_cst, wp_v, wp_res, wp_resD, wp_blt, wp_ehs_cons, wp_ehs_nil, wp_ress_cons, wp_ress_nil, wp_asg, wp_setI, wp_ret, wp_ex, wp_own, wp_plOf, wp_getC, wp_setC, wp_call, wp_el_cons, wp_el_nil, List.getD_cons_zero, List.getD_cons_succ, List.set_cons_zero, List.set_cons_succ, cellV, ixV_cl, ixV_dl, ixV_dt, at0, at1, at2, at3, at4, ixn0, ixn1, ixn2, ixn3, ixn4, cmp_eq_int, cmp_ne_int, cmp_lt_int, cmp_le_int, cmp_gt_int, cmp_ge_int, bop_add_int, bop_sub_int, bop_mul_ex, bop_mod_ex, bop_fdiv_ex, bop_pow_ex, some_ex, len_cl, len_dl, len_dt, abs_i, int_i, int_b, min_i, max_i, List.length_map, D.int.injEq, D.bl.injEq, D.lst.injEq, Cell.lst.injEq, Option.some.injEq, exists_eq_left', exists_and_left, exists_eq_left, exists_and_right, decide_eq_true_eq, decide_eq_false_iff_not, false_implies, true_implies, and_true, true_and,  places_iff hp hm hm2, sum_tup]
  refine ⟨hm3, ?_⟩
  simp only [wp_cons, wp_nil, wp_ifs2, wp_tand, wp_tor, wp_tnot, wp_tval, wp_cmp, wp_ix, wp_bin, wp_neg, wp_fld, hw_v, hw_cst, hw_of, ne_eq, reduceCtorEq, not_false_eq_true, implies_true, forall_const, wp_cst, wp_v, wp_res, wp_resD, wp_blt, wp_ehs_cons, wp_ehs_nil, wp_ress_cons, wp_ress_nil, wp_asg, wp_setI, wp_ret, wp_ex, wp_own, wp_plOf, wp_getC, wp_setC, wp_call, wp_el_cons, wp_el_nil, List.getD_cons_zero, List.getD_cons_succ, List.set_cons_zero, List.set_cons_succ, cellV, ixV_cl, ixV_dl, ixV_dt, at0, at1, at2, at3, at4, ixn0, ixn1, ixn2, ixn3, ixn4, cmp_eq_int, cmp_ne_int, cmp_lt_int, cmp_le_int, cmp_gt_int, cmp_ge_int, bop_add_int, bop_sub_int, bop_mul_ex, bop_mod_ex, bop_fdiv_ex, bop_pow_ex, some_ex, len_cl, len_dl, len_dt, abs_i, int_i, int_b, min_i, max_i, List.length_map, D.int.injEq, D.bl.injEq, D.lst.injEq, Cell.lst.injEq, Option.some.injEq, exists_eq_left', exists_and_left, exists_eq_left, exists_and_right, decide_eq_true_eq, decide_eq_false_iff_not, false_implies, true_implies, and_true, true_and,  wp_sl, wp_eod_non, wp_eod_just, places_iff hp hm hm2, sl_take e0]
  rw [← List.map_take]
  simp only [wp_cons, wp_nil, wp_ifs2, wp_tand, wp_tor, wp_tnot, wp_tval, wp_cmp, wp_ix, wp_bin, wp_neg, wp_fld, hw_v, hw_cst, hw_of, ne_eq, reduceCtorEq, not_false_eq_true, implies_true, forall_const, wp_cst, wp_v, wp_res, wp_resD, wp_blt, wp_ehs_cons, wp_ehs_nil, wp_ress_cons, wp_ress_nil, wp_asg, wp_setI, wp_ret, wp_ex, wp_own, wp_plOf, wp_getC, wp_setC, wp_call, wp_el_cons, wp_el_nil, List.getD_cons_zero, List.getD_cons_succ, List.set_cons_zero, List.set_cons_succ, cellV, ixV_cl, ixV_dl, ixV_dt, at0, at1, at2, at3, at4, ixn0, ixn1, ixn2, ixn3, ixn4, cmp_eq_int, cmp_ne_int, cmp_lt_int, cmp_le_int, cmp_gt_int, cmp_ge_int, bop_add_int, bop_sub_int, bop_mul_ex, bop_mod_ex, bop_fdiv_ex, bop_pow_ex, some_ex, len_cl, len_dl, len_dt, abs_i, int_i, int_b, min_i, max_i, List.length_map, D.int.injEq, D.bl.injEq, D.lst.injEq, Cell.lst.injEq, Option.some.injEq, exists_eq_left', exists_and_left, exists_eq_left, exists_and_right, decide_eq_true_eq, decide_eq_false_iff_not, false_implies, true_implies, and_true, true_and,  sum_tup]
end Vm
namespace Vm
open PySem
theorem augI_of {A : Api} {e : Env} {s : Store} {QF : Fl → Env → Store → Prop} {o i t : Tm} {op : Bop} (h : hw A o e s fun h e s => (ev A i).wp e s fun k e s => (plOf h).wp e s fun p e s => (getC p).wp e s fun c e s =>
    ∃ xs n j a, c = .lst xs ∧ k = .int n ∧ L2.ixN xs.length n = some j ∧ xs[j]? = some (.int a) ∧ (ev A t).wp e s fun y e s => ∃ b, y = .int b ∧ ∃ r, augI op a b = some r ∧ (getC p).wp e s fun c e s =>
      ∃ ys j, c = .lst ys ∧ L2.ixN ys.length n = some j ∧ (setC p (.lst (ys.set j (.int r)))).wp e s fun _ e s => QF .next e s) : (ex A (.augI o i op t)).wp e s QF := by
  refine wp_bind.mpr (wp_mono h fun h e s q => wp_bind.mpr (wp_mono q fun k e s q => wp_bind.mpr (wp_mono q fun p e s q => wp_bind.mpr (wp_mono q fun c e s q => ?_))))
  obtain ⟨xs, n, j, a, rfl, rfl, hj, hx, q⟩ := q
  dsimp only
  rw [hj]
  dsimp only
  rw [hx]
  dsimp only
  refine wp_bind.mpr (wp_mono q fun y e s q => ?_)
  obtain ⟨b, rfl, r, hr, q⟩ := q
  refine wp_bind.mpr (wp_opt.mpr ⟨r, hr, wp_bind.mpr (wp_mono q fun c e s q => ?_)⟩)
  obtain ⟨ys, j2, rfl, hj2, q⟩ := q
  dsimp only
  rw [hj2]
  exact wp_bind.mpr (wp_mono q fun _ e s q => wp_pure.mpr q)
end Vm
namespace Vm
open PySem
theorem list_tup2 {xs : List D} : btF .list [.d (.tup xs)] = some (.lst xs) := rfl
theorem cn_len {fs : List Int} {m q : Int} : (subAt0 q (cn fs m)).length = m.toNat := by
  have : (cn fs m).length = m.toNat := by
    unfold cn
    simp
  rw [← this]
  cases cn fs m <;> rfl
theorem due_spec {A : Api} {s : Store} {m q : Int} {fs : List Int} (h : HasDep A) (hd : HasDays A) (hp : HasPlaces A) (hm : 1 ≤ m) (hm2 : m < 1000) {n : Int} (h0 : 0 ≤ n) (h1 : n ≤ 1000000000000000000000000000000) :
    (f_Depot_due_places.run A [dep m q fs, .int n] s).wp fun d s' => (∃ a, (subAt0 q (cn fs m))[(n % m).toNat]? = some a ∧ d = .tup (((subAt0 q (cn fs m)).set (n % m).toNat (a + q)).map .int)) ∧ s' = s := by
  refine run_wp rfl rfl ?_
  show (ex A b_Depot_due_places_3).wp [.val (.obj "Depot" (depF m q fs)), .val (.int n), .emp] s _
  simp only [wp_cons, wp_nil, wp_ifs2, wp_tand, wp_tor, wp_tnot, wp_tval, wp_cmp, wp_ix, wp_bin, wp_neg, wp_fld, hw_v, hw_cst, hw_of, ne_eq, reduceCtorEq, not_false_eq_true, implies_true, forall_const, wp_cst, wp_v, wp_res, wp_resD, wp_blt, wp_ehs_cons, wp_ehs_nil, wp_ress_cons, wp_ress_nil, wp_asg, wp_setI, wp_ret, wp_ex, wp_own, wp_plOf, wp_getC, wp_setC, wp_call, wp_el_cons, wp_el_nil, List.getD_cons_zero, List.getD_cons_succ, List.set_cons_zero, List.set_cons_succ, cellV, ixV_cl, ixV_dl, ixV_dt, at0, at1, at2, at3, at4, ixn0, ixn1, ixn2, ixn3, ixn4, cmp_eq_int, cmp_ne_int, cmp_lt_int, cmp_le_int, cmp_gt_int, cmp_ge_int, bop_add_int, bop_sub_int, bop_mul_ex, bop_mod_ex, bop_fdiv_ex, bop_pow_ex, some_ex, len_cl, len_dl, len_dt, abs_i, int_i, int_b, min_i, max_i, List.length_map, D.int.injEq, D.bl.injEq, D.lst.injEq, Cell.lst.injEq, Option.some.injEq, exists_eq_left', exists_and_left, exists_eq_left, exists_and_right, decide_eq_true_eq, decide_eq_false_iff_not, false_implies, true_implies, and_true, true_and,  b_Depot_due_places_3, hd.has]
  refine days_st hd h0 h1 fun d => ?_
  simp only [wp_cons, wp_nil, wp_ifs2, wp_tand, wp_tor, wp_tnot, wp_tval, wp_cmp, wp_ix, wp_bin, wp_neg, wp_fld, hw_v, hw_cst, hw_of, ne_eq, reduceCtorEq, not_false_eq_true, implies_true, forall_const, wp_cst, wp_v, wp_res, wp_resD, wp_blt, wp_ehs_cons, wp_ehs_nil, wp_ress_cons, wp_ress_nil, wp_asg, wp_setI, wp_ret, wp_ex, wp_own, wp_plOf, wp_getC, wp_setC, wp_call, wp_el_cons, wp_el_nil, List.getD_cons_zero, List.getD_cons_succ, List.set_cons_zero, List.set_cons_succ, cellV, ixV_cl, ixV_dl, ixV_dt, at0, at1, at2, at3, at4, ixn0, ixn1, ixn2, ixn3, ixn4, cmp_eq_int, cmp_ne_int, cmp_lt_int, cmp_le_int, cmp_gt_int, cmp_ge_int, bop_add_int, bop_sub_int, bop_mul_ex, bop_mod_ex, bop_fdiv_ex, bop_pow_ex, some_ex, len_cl, len_dl, len_dt, abs_i, int_i, int_b, min_i, max_i, List.length_map, D.int.injEq, D.bl.injEq, D.lst.injEq, Cell.lst.injEq, Option.some.injEq, exists_eq_left', exists_and_left, exists_eq_left, exists_and_right, decide_eq_true_eq, decide_eq_false_iff_not, false_implies, true_implies, and_true, true_and,  b_Depot_due_places_2, places_iff hp hm hm2, list_tup2]
  have e0 := Int.emod_nonneg n (show m ≠ 0 by omega)
  have e1 := Int.emod_lt_of_pos n (show 0 < m by omega)
  rw [b_Depot_due_places_1, wp_cons]
  refine augI_of ?_
  simp only [wp_cons, wp_nil, wp_ifs2, wp_tand, wp_tor, wp_tnot, wp_tval, wp_cmp, wp_ix, wp_bin, wp_neg, wp_fld, hw_v, hw_cst, hw_of, ne_eq, reduceCtorEq, not_false_eq_true, implies_true, forall_const, wp_cst, wp_v, wp_res, wp_resD, wp_blt, wp_ehs_cons, wp_ehs_nil, wp_ress_cons, wp_ress_nil, wp_asg, wp_setI, wp_ret, wp_ex, wp_own, wp_plOf, wp_getC, wp_setC, wp_call, wp_el_cons, wp_el_nil, List.getD_cons_zero, List.getD_cons_succ, List.set_cons_zero, List.set_cons_succ, cellV, ixV_cl, ixV_dl, ixV_dt, at0, at1, at2, at3, at4, ixn0, ixn1, ixn2, ixn3, ixn4, cmp_eq_int, cmp_ne_int, cmp_lt_int, cmp_le_int, cmp_gt_int, cmp_ge_int, bop_add_int, bop_sub_int, bop_mul_ex, bop_mod_ex, bop_fdiv_ex, bop_pow_ex, some_ex, len_cl, len_dl, len_dt, abs_i, int_i, int_b, min_i, max_i, List.length_map, D.int.injEq, D.bl.injEq, D.lst.injEq, Cell.lst.injEq, Option.some.injEq, exists_eq_left', exists_and_left, exists_eq_left, exists_and_right, decide_eq_true_eq, decide_eq_false_iff_not, false_implies, true_implies, and_true, true_and,  fld_p h]
  obtain ⟨r, hr⟩ : ∃ r : Nat, n % m = (r : Int) := ⟨(n % m).toNat, by omega⟩
  have hrl : r < (subAt0 q (cn fs m)).length := by
    rw [cn_len]
    omega
  rw [hr] at e1 ⊢
  generalize subAt0 q (cn fs m) = pl at hrl ⊢
  obtain ⟨a, ha⟩ : ∃ a, pl[r]? = some a := ⟨_, List.getElem?_eq_getElem hrl⟩
  refine ⟨by omega, r, ixN_nat hrl, a, by rw [List.getElem?_map, ha]; rfl, ?_⟩
  simp only [wp_cons, wp_nil, wp_ifs2, wp_tand, wp_tor, wp_tnot, wp_tval, wp_cmp, wp_ix, wp_bin, wp_neg, wp_fld, hw_v, hw_cst, hw_of, ne_eq, reduceCtorEq, not_false_eq_true, implies_true, forall_const, wp_cst, wp_v, wp_res, wp_resD, wp_blt, wp_ehs_cons, wp_ehs_nil, wp_ress_cons, wp_ress_nil, wp_asg, wp_setI, wp_ret, wp_ex, wp_own, wp_plOf, wp_getC, wp_setC, wp_call, wp_el_cons, wp_el_nil, List.getD_cons_zero, List.getD_cons_succ, List.set_cons_zero, List.set_cons_succ, cellV, ixV_cl, ixV_dl, ixV_dt, at0, at1, at2, at3, at4, ixn0, ixn1, ixn2, ixn3, ixn4, cmp_eq_int, cmp_ne_int, cmp_lt_int, cmp_le_int, cmp_gt_int, cmp_ge_int, bop_add_int, bop_sub_int, bop_mul_ex, bop_mod_ex, bop_fdiv_ex, bop_pow_ex, some_ex, len_cl, len_dl, len_dt, abs_i, int_i, int_b, min_i, max_i, List.length_map, D.int.injEq, D.bl.injEq, D.lst.injEq, Cell.lst.injEq, Option.some.injEq, exists_eq_left', exists_and_left, exists_eq_left, exists_and_right, decide_eq_true_eq, decide_eq_false_iff_not, false_implies, true_implies, and_true, true_and,  fld_q h]
  refine ⟨a + q, rfl, r, ?_, ?_⟩
  · exact ixN_nat hrl
  · simp only [wp_cons, wp_nil, wp_ifs2, wp_tand, wp_tor, wp_tnot, wp_tval, wp_cmp, wp_ix, wp_bin, wp_neg, wp_fld, hw_v, hw_cst, hw_of, ne_eq, reduceCtorEq, not_false_eq_true, implies_true, forall_const, wp_cst, wp_v, wp_res, wp_resD, wp_blt, wp_ehs_cons, wp_ehs_nil, wp_ress_cons, wp_ress_nil, wp_asg, wp_setI, wp_ret, wp_ex, wp_own, wp_plOf, wp_getC, wp_setC, wp_call, wp_el_cons, wp_el_nil, List.getD_cons_zero, List.getD_cons_succ, List.set_cons_zero, List.set_cons_succ, cellV, ixV_cl, ixV_dl, ixV_dt, at0, at1, at2, at3, at4, ixn0, ixn1, ixn2, ixn3, ixn4, cmp_eq_int, cmp_ne_int, cmp_lt_int, cmp_le_int, cmp_gt_int, cmp_ge_int, bop_add_int, bop_sub_int, bop_mul_ex, bop_mod_ex, bop_fdiv_ex, bop_pow_ex, some_ex, len_cl, len_dl, len_dt, abs_i, int_i, int_b, min_i, max_i, List.length_map, D.int.injEq, D.bl.injEq, D.lst.injEq, Cell.lst.injEq, Option.some.injEq, exists_eq_left', exists_and_left, exists_eq_left, exists_and_right, decide_eq_true_eq, decide_eq_false_iff_not, false_implies, true_implies, and_true, true_and,  b_Depot_due_places_0, list_tup, Int.toNat_natCast, ha, D.tup.injEq]
    rw [List.map_set]
end Vm
namespace Vm
open PySem
section
variable {A : Api} {s : Store} {m q : Int} {fs : List Int}
theorem numbers_spec (m1 : 1 ≤ m) (m2 : m ≤ 8) (q1 : 1 ≤ q) (q2 : q ≤ 12) : (f_check_numbers.run A [.int m, .int q] s).wp fun d s' => s' = s := by
  refine run_wp rfl rfl ?_
  show (ex A b_check_numbers_3).wp [.val (.int m), .val (.int q)] s _
  simp only [wp_cons, wp_nil, wp_ifs2, wp_tand, wp_tor, wp_tnot, wp_tval, wp_cmp, wp_ix, wp_bin, wp_neg, wp_fld, hw_v, hw_cst, hw_of, ne_eq, reduceCtorEq, not_false_eq_true, implies_true, forall_const, wp_cst, wp_v, wp_res, wp_resD, wp_blt, wp_ehs_cons, wp_ehs_nil, wp_ress_cons, wp_ress_nil, wp_asg, wp_setI, wp_ret, wp_ex, wp_own, wp_plOf, wp_getC, wp_setC, wp_call, wp_el_cons, wp_el_nil, List.getD_cons_zero, List.getD_cons_succ, List.set_cons_zero, List.set_cons_succ, cellV, ixV_cl, ixV_dl, ixV_dt, at0, at1, at2, at3, at4, ixn0, ixn1, ixn2, ixn3, ixn4, cmp_eq_int, cmp_ne_int, cmp_lt_int, cmp_le_int, cmp_gt_int, cmp_ge_int, bop_add_int, bop_sub_int, bop_mul_ex, bop_mod_ex, bop_fdiv_ex, bop_pow_ex, some_ex, len_cl, len_dl, len_dt, abs_i, int_i, int_b, min_i, max_i, List.length_map, D.int.injEq, D.bl.injEq, D.lst.injEq, Cell.lst.injEq, Option.some.injEq, exists_eq_left', exists_and_left, exists_eq_left, exists_and_right, decide_eq_true_eq, decide_eq_false_iff_not, false_implies, true_implies, and_true, true_and,  b_check_numbers_3, wp_chain, Bool.not_eq_true', Bool.not_eq_false', Bool.not_true, Bool.not_false]
  refine ⟨fun _ => ⟨fun h => absurd m2 h, fun _ => ?_⟩, fun h => absurd m1 h⟩
  simp only [wp_cons, wp_nil, wp_ifs2, wp_tand, wp_tor, wp_tnot, wp_tval, wp_cmp, wp_ix, wp_bin, wp_neg, wp_fld, hw_v, hw_cst, hw_of, ne_eq, reduceCtorEq, not_false_eq_true, implies_true, forall_const, wp_cst, wp_v, wp_res, wp_resD, wp_blt, wp_ehs_cons, wp_ehs_nil, wp_ress_cons, wp_ress_nil, wp_asg, wp_setI, wp_ret, wp_ex, wp_own, wp_plOf, wp_getC, wp_setC, wp_call, wp_el_cons, wp_el_nil, List.getD_cons_zero, List.getD_cons_succ, List.set_cons_zero, List.set_cons_succ, cellV, ixV_cl, ixV_dl, ixV_dt, at0, at1, at2, at3, at4, ixn0, ixn1, ixn2, ixn3, ixn4, cmp_eq_int, cmp_ne_int, cmp_lt_int, cmp_le_int, cmp_gt_int, cmp_ge_int, bop_add_int, bop_sub_int, bop_mul_ex, bop_mod_ex, bop_fdiv_ex, bop_pow_ex, some_ex, len_cl, len_dl, len_dt, abs_i, int_i, int_b, min_i, max_i, List.length_map, D.int.injEq, D.bl.injEq, D.lst.injEq, Cell.lst.injEq, Option.some.injEq, exists_eq_left', exists_and_left, exists_eq_left, exists_and_right, decide_eq_true_eq, decide_eq_false_iff_not, false_implies, true_implies, and_true, true_and,  b_check_numbers_2, wp_chain, Bool.not_eq_true', Bool.not_eq_false', Bool.not_true, Bool.not_false]
  exact ⟨fun _ h => absurd q2 h, fun h => absurd q1 h⟩
/-- a value that reads as a row of ints -/
def RdI (s : Store) (fs : List Int) (d : D) : Prop := d = .tup (fs.map .int) ∨ ∃ k, d = .ref k ∧ s.getD k none = some (.lst (fs.map .int))
end
end Vm
namespace Vm
open PySem
theorem rd_view {s : Store} {fs : List Int} {d : D} (h : RdI s fs d) : ∃ v b, v.items = some (b, fs.map D.int) ∧ ∀ (e : Env) (QV : Vw → Env → Store → Prop), (resD d).wp e s QV ↔ QV v e s := by
  rcases h with rfl | ⟨k, rfl, hk⟩
  · exact ⟨.d (.tup (fs.map .int)), true, rfl, fun e QV => wp_resD⟩
  · refine ⟨.c (.lst (fs.map .int)), false, rfl, fun e QV => wp_resD.trans ?_⟩
    unfold cellV
    dsimp only
    rw [hk]
theorem it_ix {v : Vw} {b : Bool} {xs : List D} {n : Int} (h : v.items = some (b, xs)) : ixV v n = L2.atI xs n := by
  unfold ixV
  rw [h]
  rfl
theorem it_len {v : Vw} {b : Bool} {xs : List D} (h : v.items = some (b, xs)) : btF .len [v] = some (.int xs.length) := by
  cases v with
  | d z => cases z <;> first | (cases h; rfl) | cases h
  | c z => cases z <;> first | (cases h; rfl) | cases h
theorem it_tuple {v : Vw} {b : Bool} {xs : List D} (h : v.items = some (b, xs)) : btF .tuple [v] = some (.tup xs) := by
  show v.items.map (fun p => D.tup p.2) = _
  rw [h]
  rfl
theorem rd_not_own {s : Store} {fs : List Int} {d : D} (h : RdI s fs d) : d ≠ .non := by
  rcases h with rfl | ⟨k, rfl, hk⟩ <;> nofun
end Vm
namespace Vm
open PySem
theorem wp_rint {e : Env} {s : Store} {QV : Vw → Env → Store → Prop} {n : Int} : (resD (.int n)).wp e s QV ↔ QV (.d (.int n)) e s := wp_resD
theorem wp_aug {A : Api} {e : Env} {s : Store} {QF : Fl → Env → Store → Prop} {i : Nat} {op : Bop} {t : Tm} (h : (hdV i).wp e s fun h e s => hw A t e s fun g e s => (res h).wp e s fun x e s => (res g).wp e s fun y e s => ∃ a b r, x = .d (.int a) ∧ y = .d (.int b) ∧ augI op a b = some r ∧ QF .next (e.set i (.val (.int r))) s) : (ex A (.aug i op t)).wp e s QF := by
  refine wp_bind.mpr (wp_mono h fun h e s q => wp_bind.mpr (wp_mono q fun g e s q => wp_bind.mpr (wp_mono q fun x e s q => wp_bind.mpr (wp_mono q fun y e s q => ?_))))
  obtain ⟨a, b, r, rfl, rfl, hr, q⟩ := q
  exact wp_bind.mpr (wp_opt.mpr ⟨r, hr, wp_bind.mpr (wp_setV.mpr (wp_pure.mpr q))⟩)
theorem firsts_body {A : Api} {s : Store} {fs : List Int} {d : D} {m q o f : Int} {j : Nat} {Q : Fl → Env → Store → Prop} (hd : RdI s fs d) (hj : fs[j]? = some f) (f1 : 1 ≤ f) (f2 : f ≤ m)
    (k1 : f = 1 → Q .next [.val (.int m), .val (.int q), .val d, .val (.int (o + 1)), .val (.int (j : Int))] s) (k2 : f ≠ 1 → Q .next [.val (.int m), .val (.int q), .val d, .val (.int o), .val (.int (j : Int))] s) :
    (ex A b_check_firsts_4).wp [.val (.int m), .val (.int q), .val d, .val (.int o), .val (.int (j : Int))] s Q := by
  obtain ⟨v, b, hv, hr⟩ := rd_view hd
  have hat : L2.atI (fs.map D.int) (j : Int) = some (.int f) := ix_nat rfl (by rw [List.getElem?_map, hj]; rfl)
  have e2 : ∀ (QV : Vw → Env → Store → Prop), (resD d).wp [.val (.int m), .val (.int q), .val d, .val (.int o), .val (.int (j : Int))] s QV ↔ QV v [.val (.int m), .val (.int q), .val d, .val (.int o), .val (.int (j : Int))] s := fun QV => hr _ QV
  simp only [wp_cons, wp_nil, wp_ifs2, wp_tand, wp_tor, wp_tnot, wp_tval, wp_cmp, wp_ix, wp_bin, wp_neg, wp_fld, hw_v, hw_cst, hw_of, ne_eq, reduceCtorEq, not_false_eq_true, implies_true, forall_const, wp_cst, wp_v, wp_res, wp_rint, wp_blt, wp_ehs_cons, wp_ehs_nil, wp_ress_cons, wp_ress_nil, wp_asg, wp_setI, wp_ret, wp_ex, wp_own, wp_plOf, wp_getC, wp_setC, wp_call, wp_el_cons, wp_el_nil, List.getD_cons_zero, List.getD_cons_succ, List.set_cons_zero, List.set_cons_succ, cellV, ixV_cl, ixV_dl, ixV_dt, at0, at1, at2, at3, at4, ixn0, ixn1, ixn2, ixn3, ixn4, cmp_eq_int, cmp_ne_int, cmp_lt_int, cmp_le_int, cmp_gt_int, cmp_ge_int, bop_add_int, bop_sub_int, bop_mul_ex, bop_mod_ex, bop_fdiv_ex, bop_pow_ex, some_ex, len_cl, len_dl, len_dt, abs_i, int_i, int_b, min_i, max_i, List.length_map, D.int.injEq, D.bl.injEq, D.lst.injEq, Cell.lst.injEq, Option.some.injEq, exists_eq_left', exists_and_left, exists_eq_left, exists_and_right, decide_eq_true_eq, decide_eq_false_iff_not, false_implies, true_implies, and_true, true_and,  b_check_firsts_4, wp_chain, hr, it_ix hv, hat, Bool.not_eq_true', Bool.not_eq_false', Bool.not_true, Bool.not_false]
  refine ⟨fun _ => ⟨fun z => absurd f2 z, fun _ => ?_⟩, fun z => absurd f1 z⟩
  simp only [wp_cons, wp_nil, wp_ifs2, wp_tand, wp_tor, wp_tnot, wp_tval, wp_cmp, wp_ix, wp_bin, wp_neg, wp_fld, hw_v, hw_cst, hw_of, ne_eq, reduceCtorEq, not_false_eq_true, implies_true, forall_const, wp_cst, wp_v, wp_res, wp_rint, wp_blt, wp_ehs_cons, wp_ehs_nil, wp_ress_cons, wp_ress_nil, wp_asg, wp_setI, wp_ret, wp_ex, wp_own, wp_plOf, wp_getC, wp_setC, wp_call, wp_el_cons, wp_el_nil, List.getD_cons_zero, List.getD_cons_succ, List.set_cons_zero, List.set_cons_succ, cellV, ixV_cl, ixV_dl, ixV_dt, at0, at1, at2, at3, at4, ixn0, ixn1, ixn2, ixn3, ixn4, cmp_eq_int, cmp_ne_int, cmp_lt_int, cmp_le_int, cmp_gt_int, cmp_ge_int, bop_add_int, bop_sub_int, bop_mul_ex, bop_mod_ex, bop_fdiv_ex, bop_pow_ex, some_ex, len_cl, len_dl, len_dt, abs_i, int_i, int_b, min_i, max_i, List.length_map, D.int.injEq, D.bl.injEq, D.lst.injEq, Cell.lst.injEq, Option.some.injEq, exists_eq_left', exists_and_left, exists_eq_left, exists_and_right, decide_eq_true_eq, decide_eq_false_iff_not, false_implies, true_implies, and_true, true_and,  b_check_firsts_3, hr, it_ix hv, hat]
  refine ⟨fun z => ?_, fun z => k2 z⟩
  rw [b_check_firsts_2, wp_cons]
  refine wp_aug ?_
  simp only [wp_cons, wp_nil, wp_ifs2, wp_tand, wp_tor, wp_tnot, wp_tval, wp_cmp, wp_ix, wp_bin, wp_neg, wp_fld, hw_v, hw_cst, hw_of, ne_eq, reduceCtorEq, not_false_eq_true, implies_true, forall_const, wp_cst, wp_v, wp_res, wp_rint, wp_blt, wp_ehs_cons, wp_ehs_nil, wp_ress_cons, wp_ress_nil, wp_asg, wp_setI, wp_ret, wp_ex, wp_own, wp_plOf, wp_getC, wp_setC, wp_call, wp_el_cons, wp_el_nil, List.getD_cons_zero, List.getD_cons_succ, List.set_cons_zero, List.set_cons_succ, cellV, ixV_cl, ixV_dl, ixV_dt, at0, at1, at2, at3, at4, ixn0, ixn1, ixn2, ixn3, ixn4, cmp_eq_int, cmp_ne_int, cmp_lt_int, cmp_le_int, cmp_gt_int, cmp_ge_int, bop_add_int, bop_sub_int, bop_mul_ex, bop_mod_ex, bop_fdiv_ex, bop_pow_ex, some_ex, len_cl, len_dl, len_dt, abs_i, int_i, int_b, min_i, max_i, List.length_map, D.int.injEq, D.bl.injEq, D.lst.injEq, Cell.lst.injEq, Option.some.injEq, exists_eq_left', exists_and_left, exists_eq_left, exists_and_right, decide_eq_true_eq, decide_eq_false_iff_not, false_implies, true_implies, and_true, true_and,  wp_hdV]
  exact ⟨o, rfl, 1, rfl, o + 1, rfl, k1 z⟩
theorem firsts_spec {A : Api} {s : Store} {fs : List Int} {d : D} {m q : Int} (hd : RdI s fs d) (l1 : 1 ≤ fs.length) (l2 : fs.length ≤ 12) (hf : ∀ x ∈ fs, 1 ≤ x ∧ x ≤ m) (hq : q ≤ fs.count 1) : (f_check_firsts.run A [.int m, .int q, d] s).wp fun d s' => s' = s := by
  refine run_wp rfl rfl ?_
  obtain ⟨v, b, hv, hr⟩ := rd_view hd
  show (ex A b_check_firsts_9).wp [.val (.int m), .val (.int q), .val d, .emp, .emp] s _
  simp only [wp_cons, wp_nil, wp_ifs2, wp_tand, wp_tor, wp_tnot, wp_tval, wp_cmp, wp_ix, wp_bin, wp_neg, wp_fld, hw_v, hw_cst, hw_of, ne_eq, reduceCtorEq, not_false_eq_true, implies_true, forall_const, wp_cst, wp_v, wp_res, wp_rint, wp_blt, wp_ehs_cons, wp_ehs_nil, wp_ress_cons, wp_ress_nil, wp_asg, wp_setI, wp_ret, wp_ex, wp_own, wp_plOf, wp_getC, wp_setC, wp_call, wp_el_cons, wp_el_nil, List.getD_cons_zero, List.getD_cons_succ, List.set_cons_zero, List.set_cons_succ, cellV, ixV_cl, ixV_dl, ixV_dt, at0, at1, at2, at3, at4, ixn0, ixn1, ixn2, ixn3, ixn4, cmp_eq_int, cmp_ne_int, cmp_lt_int, cmp_le_int, cmp_gt_int, cmp_ge_int, bop_add_int, bop_sub_int, bop_mul_ex, bop_mod_ex, bop_fdiv_ex, bop_pow_ex, some_ex, len_cl, len_dl, len_dt, abs_i, int_i, int_b, min_i, max_i, List.length_map, D.int.injEq, D.bl.injEq, D.lst.injEq, Cell.lst.injEq, Option.some.injEq, exists_eq_left', exists_and_left, exists_eq_left, exists_and_right, decide_eq_true_eq, decide_eq_false_iff_not, false_implies, true_implies, and_true, true_and,  b_check_firsts_9, wp_chain, hr, it_len hv, Bool.not_eq_true', Bool.not_eq_false', Bool.not_true, Bool.not_false]
  refine ⟨fun _ => ⟨fun z => absurd z (by omega), fun _ => ?_⟩, fun z => absurd z (by omega)⟩
  simp only [wp_cons, wp_nil, wp_ifs2, wp_tand, wp_tor, wp_tnot, wp_tval, wp_cmp, wp_ix, wp_bin, wp_neg, wp_fld, hw_v, hw_cst, hw_of, ne_eq, reduceCtorEq, not_false_eq_true, implies_true, forall_const, wp_cst, wp_v, wp_res, wp_rint, wp_blt, wp_ehs_cons, wp_ehs_nil, wp_ress_cons, wp_ress_nil, wp_asg, wp_setI, wp_ret, wp_ex, wp_own, wp_plOf, wp_getC, wp_setC, wp_call, wp_el_cons, wp_el_nil, List.getD_cons_zero, List.getD_cons_succ, List.set_cons_zero, List.set_cons_succ, cellV, ixV_cl, ixV_dl, ixV_dt, at0, at1, at2, at3, at4, ixn0, ixn1, ixn2, ixn3, ixn4, cmp_eq_int, cmp_ne_int, cmp_lt_int, cmp_le_int, cmp_gt_int, cmp_ge_int, bop_add_int, bop_sub_int, bop_mul_ex, bop_mod_ex, bop_fdiv_ex, bop_pow_ex, some_ex, len_cl, len_dl, len_dt, abs_i, int_i, int_b, min_i, max_i, List.length_map, D.int.injEq, D.bl.injEq, D.lst.injEq, Cell.lst.injEq, Option.some.injEq, exists_eq_left', exists_and_left, exists_eq_left, exists_and_right, decide_eq_true_eq, decide_eq_false_iff_not, false_implies, true_implies, and_true, true_and,  b_check_firsts_8]
  rw [b_check_firsts_7, wp_cons]
  refine for_fix (xs := irange 0 fs.length) (fun j e s' => ∃ x, e = [.val (.int m), .val (.int q), .val d, .val (.int ((fs.take j).count 1 : Nat)), x] ∧ s' = s) ?_ ?_ ?_
  · rw [wp_irng1]
    simp only [wp_cons, wp_nil, wp_ifs2, wp_tand, wp_tor, wp_tnot, wp_tval, wp_cmp, wp_ix, wp_bin, wp_neg, wp_fld, hw_v, hw_cst, hw_of, ne_eq, reduceCtorEq, not_false_eq_true, implies_true, forall_const, wp_cst, wp_v, wp_res, wp_rint, wp_blt, wp_ehs_cons, wp_ehs_nil, wp_ress_cons, wp_ress_nil, wp_asg, wp_setI, wp_ret, wp_ex, wp_own, wp_plOf, wp_getC, wp_setC, wp_call, wp_el_cons, wp_el_nil, List.getD_cons_zero, List.getD_cons_succ, List.set_cons_zero, List.set_cons_succ, cellV, ixV_cl, ixV_dl, ixV_dt, at0, at1, at2, at3, at4, ixn0, ixn1, ixn2, ixn3, ixn4, cmp_eq_int, cmp_ne_int, cmp_lt_int, cmp_le_int, cmp_gt_int, cmp_ge_int, bop_add_int, bop_sub_int, bop_mul_ex, bop_mod_ex, bop_fdiv_ex, bop_pow_ex, some_ex, len_cl, len_dl, len_dt, abs_i, int_i, int_b, min_i, max_i, List.length_map, D.int.injEq, D.bl.injEq, D.lst.injEq, Cell.lst.injEq, Option.some.injEq, exists_eq_left', exists_and_left, exists_eq_left, exists_and_right, decide_eq_true_eq, decide_eq_false_iff_not, false_implies, true_implies, and_true, true_and,  hr, it_len hv]
    exact ⟨decide_eq_true ⟨by omega, by omega⟩, _, rfl⟩
  · rintro j x e s' hx ⟨y, rfl, rfl⟩
    obtain ⟨rfl, hj⟩ := irange_get hx
    rw [wp_put_nm, Int.zero_add]
    have hjl : j < fs.length := by omega
    obtain ⟨f, hfj⟩ : ∃ f, fs[j]? = some f := ⟨_, List.getElem?_eq_getElem hjl⟩
    obtain ⟨f1, f2⟩ := hf f (List.mem_of_getElem? hfj)
    have ht : fs.take (j + 1) = fs.take j ++ [f] := by
      rw [List.take_add_one, hfj]
      rfl
    refine firsts_body (j := j) hd hfj f1 f2 (fun z => ⟨.val (.int (j : Int)), ?_, rfl⟩) fun z => ⟨.val (.int (j : Int)), ?_, rfl⟩
    · rw [ht, List.count_append, z]
      simp
    · rw [ht, List.count_append]
      have : List.count 1 [f] = 0 := List.count_eq_zero.mpr (by simpa using fun h : (1 : Int) = f => z h.symm)
      rw [this, Nat.add_zero]
  · rintro e s' ⟨y, rfl, rfl⟩
    rw [irange_len]
    have hn : ((fs.length : Int) - 0).toNat = fs.length := by omega
    rw [hn, List.take_length]
    simp only [wp_cons, wp_nil, wp_ifs2, wp_tand, wp_tor, wp_tnot, wp_tval, wp_cmp, wp_ix, wp_bin, wp_neg, wp_fld, hw_v, hw_cst, hw_of, ne_eq, reduceCtorEq, not_false_eq_true, implies_true, forall_const, wp_cst, wp_v, wp_res, wp_rint, wp_blt, wp_ehs_cons, wp_ehs_nil, wp_ress_cons, wp_ress_nil, wp_asg, wp_setI, wp_ret, wp_ex, wp_own, wp_plOf, wp_getC, wp_setC, wp_call, wp_el_cons, wp_el_nil, List.getD_cons_zero, List.getD_cons_succ, List.set_cons_zero, List.set_cons_succ, cellV, ixV_cl, ixV_dl, ixV_dt, at0, at1, at2, at3, at4, ixn0, ixn1, ixn2, ixn3, ixn4, cmp_eq_int, cmp_ne_int, cmp_lt_int, cmp_le_int, cmp_gt_int, cmp_ge_int, bop_add_int, bop_sub_int, bop_mul_ex, bop_mod_ex, bop_fdiv_ex, bop_pow_ex, some_ex, len_cl, len_dl, len_dt, abs_i, int_i, int_b, min_i, max_i, List.length_map, D.int.injEq, D.bl.injEq, D.lst.injEq, Cell.lst.injEq, Option.some.injEq, exists_eq_left', exists_and_left, exists_eq_left, exists_and_right, decide_eq_true_eq, decide_eq_false_iff_not, false_implies, true_implies, and_true, true_and,  b_check_firsts_6]
    exact fun z => absurd z (by omega)
end Vm
namespace Vm
theorem sum_front {Q : Int} : ∀ (sp : List Int) (r : Nat), ((List.range sp.length).map fun k => sp.getD k 0 * (Q + if k < r then 1 else 0)).sum = Q * sp.sum + (sp.take r).sum
  | [], r => by simp
  | a :: sp, 0 => by
    have h := sum_front (Q := Q) sp 0
    rw [List.length_cons, List.range_succ_eq_map, List.map_cons, List.sum_cons, List.map_map]
    have e : ((fun k => (a :: sp).getD k 0 * (Q + if k < 0 then 1 else 0)) ∘ Nat.succ) = fun k => sp.getD k 0 * (Q + if k < 0 then 1 else 0) := by
      funext k
      simp
    rw [e, h]
    simp [Int.mul_add, Int.mul_comm]
  | a :: sp, r + 1 => by
    have h := sum_front (Q := Q) sp r
    rw [List.length_cons, List.range_succ_eq_map, List.map_cons, List.sum_cons, List.map_map]
    have e : ((fun k => (a :: sp).getD k 0 * (Q + if k < r + 1 then 1 else 0)) ∘ Nat.succ) = fun k => sp.getD k 0 * (Q + if k < r then 1 else 0) := by
      funext k
      simp
    rw [e, h, List.take_succ_cons, List.sum_cons, List.sum_cons]
    simp only [List.getD_cons_zero, Nat.zero_lt_succ, if_true]
    rw [Int.mul_add, Int.mul_add, Int.mul_comm a Q]
    omega
theorem front_div {n m : Int} {k : Nat} (hm : 1 ≤ m) (hk : (k : Int) < m) : (n - (1 + (k : Int)) + m) / m = n / m + if k < (n % m).toNat then 1 else 0 := by
  have e0 := Int.emod_nonneg n (show m ≠ 0 by omega)
  have e1 := Int.emod_lt_of_pos n (show 0 < m by omega)
  have e2 := Int.emod_add_mul_ediv n m
  generalize hr : n % m = r at *
  generalize hQ : n / m = Q at *
  have : n - (1 + (k : Int)) + m = (r - (1 + (k : Int)) + m) + m * Q := by omega
  rw [this, Int.add_mul_ediv_left _ _ (show m ≠ 0 by omega)]
  by_cases h : k < r.toNat
  · rw [if_pos h]
    have : (r - (1 + (k : Int)) + m) / m = 1 := by
      have h3 : r - (1 + (k : Int)) + m = (r - (1 + (k : Int))) + m * 1 := by omega
      rw [h3, Int.add_mul_ediv_left _ _ (show m ≠ 0 by omega), Int.ediv_eq_zero_of_lt (by omega) (by omega)]
      rfl
    omega
  · rw [if_neg h]
    have : (r - (1 + (k : Int)) + m) / m = 0 := Int.ediv_eq_zero_of_lt (by omega) (by omega)
    omega
theorem due_set {q a : Int} {sp : List Int} {r : Nat} (h : sp[r]? = some a) : ((List.range sp.length).map fun k => sp.getD k 0 + q * if k = r then 1 else 0) = sp.set r (a + q) := by
  apply List.ext_getElem?
  intro i
  rw [List.getElem?_map, List.getElem?_set]
  by_cases hi : i < sp.length
  · rw [List.getElem?_range hi]
    simp only [Option.map_some]
    rw [List.getD_eq_getElem?_getD]
    by_cases e : r = i
    · subst e
      simp [hi]
      rw [List.getElem?_eq_getElem hi] at h
      exact Option.some.inj h
    · simp [e, hi, Ne.symm e]
  · have : (List.range sp.length)[i]? = none := by simp; omega
    rw [this]
    by_cases e : r = i
    · subst e; simp [hi]
    · simp [e]; omega
end Vm
namespace Vm
open PySem
theorem init_wp {A : Api} {f : Fn} {c : Str} {ds : List D} {s : Store} {Q : D → Store → Prop} (hi : f.init = some c) (hl : ds.length + 1 = f.params)
    (h : (ex A f.body).wp (.own (.ob c []) :: ds.map Slot.val ++ List.replicate (f.slots - f.params) .emp) s fun fl e s => fl = .next ∧ ∃ c fs, e.getD 0 .emp = .own (.ob c fs) ∧ Q (.obj c fs) s) : (f.run A ds s).wp Q := by
  obtain ⟨fl, e', s', h1, rfl, c', fs, h2, h3⟩ := h
  unfold Fn.run
  rw [hi]
  dsimp only
  rw [if_pos hl, h1]
  dsimp only
  rw [h2]
  exact ⟨_, _, rfl, h3⟩
/-- what a text has for depots to be made -/
structure HasMake (A : Api) : Prop where
  h1 : A.has ("", "check_numbers") = true
  c1 : ∃ B, ∀ ds s, A.call ("", "check_numbers") ds s = f_check_numbers.run B ds s
  h2 : A.has ("", "check_firsts") = true
  c2 : ∃ B, ∀ ds s, A.call ("", "check_firsts") ds s = f_check_firsts.run B ds s
theorem rd_val {s : Store} {fs : List Int} {d : D} (h : RdI s fs d) {e : Env} {Q : Vw → Env → Store → Prop} {i : Nat} (he : e.getD i .emp = .val d) : ∃ v b, v.items = some (b, fs.map D.int) ∧ ((res (.s i)).wp e s Q ↔ Q v e s) := by
  obtain ⟨v, b, hv, hr⟩ := rd_view h
  refine ⟨v, b, hv, ?_⟩
  rw [wp_res]
  dsimp only
  rw [he]
  exact hr e Q
theorem init_spec {A : Api} {s : Store} {m q : Int} {fs : List Int} {d : D} (h : HasDep A) (hm : HasMake A) (hd : RdI s fs d) (m1 : 1 ≤ m) (m2 : m ≤ 8) (q1 : 1 ≤ q) (q2 : q ≤ 12) (l1 : 1 ≤ fs.length) (l2 : fs.length ≤ 12) (hf : ∀ x ∈ fs, 1 ≤ x ∧ x ≤ m) (hq : q ≤ fs.count 1) :
    (f_Depot___init__.run A [.int m, .int q, d] s).wp fun x s' => x = dep m q fs ∧ s' = s := by
  refine init_wp rfl rfl ?_
  show (ex A b_Depot___init___4).wp [.own (.ob "Depot" []), .val (.int m), .val (.int q), .val d] s _
  simp only [wp_cons, wp_nil, wp_ifs2, wp_tand, wp_tor, wp_tnot, wp_tval, wp_cmp, wp_ix, wp_bin, wp_neg, wp_fld, hw_v, hw_cst, hw_of, ne_eq, reduceCtorEq, not_false_eq_true, implies_true, forall_const, wp_cst, wp_v, wp_res, wp_resD, wp_blt, wp_ehs_cons, wp_ehs_nil, wp_ress_cons, wp_ress_nil, wp_asg, wp_setI, wp_ret, wp_ex, wp_own, wp_plOf, wp_getC, wp_setC, wp_call, wp_el_cons, wp_el_nil, List.getD_cons_zero, List.getD_cons_succ, List.set_cons_zero, List.set_cons_succ, cellV, ixV_cl, ixV_dl, ixV_dt, at0, at1, at2, at3, at4, ixn0, ixn1, ixn2, ixn3, ixn4, cmp_eq_int, cmp_ne_int, cmp_lt_int, cmp_le_int, cmp_gt_int, cmp_ge_int, bop_add_int, bop_sub_int, bop_mul_ex, bop_mod_ex, bop_fdiv_ex, bop_pow_ex, some_ex, len_cl, len_dl, len_dt, abs_i, int_i, int_b, min_i, max_i, List.length_map, D.int.injEq, D.bl.injEq, D.lst.injEq, Cell.lst.injEq, Option.some.injEq, exists_eq_left', exists_and_left, exists_eq_left, exists_and_right, decide_eq_true_eq, decide_eq_false_iff_not, false_implies, true_implies, and_true, true_and,  b_Depot___init___4, hm.h1]
  obtain ⟨B, hB⟩ := hm.c1
  rw [hB]
  refine cwp_mono (numbers_spec m1 m2 q1 q2) fun _ s' hs => ?_
  subst hs
  simp only [wp_cons, wp_nil, wp_ifs2, wp_tand, wp_tor, wp_tnot, wp_tval, wp_cmp, wp_ix, wp_bin, wp_neg, wp_fld, hw_v, hw_cst, hw_of, ne_eq, reduceCtorEq, not_false_eq_true, implies_true, forall_const, wp_cst, wp_v, wp_res, wp_resD, wp_blt, wp_ehs_cons, wp_ehs_nil, wp_ress_cons, wp_ress_nil, wp_asg, wp_setI, wp_ret, wp_ex, wp_own, wp_plOf, wp_getC, wp_setC, wp_call, wp_el_cons, wp_el_nil, List.getD_cons_zero, List.getD_cons_succ, List.set_cons_zero, List.set_cons_succ, cellV, ixV_cl, ixV_dl, ixV_dt, at0, at1, at2, at3, at4, ixn0, ixn1, ixn2, ixn3, ixn4, cmp_eq_int, cmp_ne_int, cmp_lt_int, cmp_le_int, cmp_gt_int, cmp_ge_int, bop_add_int, bop_sub_int, bop_mul_ex, bop_mod_ex, bop_fdiv_ex, bop_pow_ex, some_ex, len_cl, len_dl, len_dt, abs_i, int_i, int_b, min_i, max_i, List.length_map, D.int.injEq, D.bl.injEq, D.lst.injEq, Cell.lst.injEq, Option.some.injEq, exists_eq_left', exists_and_left, exists_eq_left, exists_and_right, decide_eq_true_eq, decide_eq_false_iff_not, false_implies, true_implies, and_true, true_and,  b_Depot___init___3, hm.h2]
  obtain ⟨B, hB⟩ := hm.c2
  rw [hB]
  refine cwp_mono (firsts_spec hd l1 l2 hf hq) fun _ s' hs => ?_
  subst hs
  rw [b_Depot___init___2, wp_cons, wp_setA]
  simp only [wp_cons, wp_nil, wp_ifs2, wp_tand, wp_tor, wp_tnot, wp_tval, wp_cmp, wp_ix, wp_bin, wp_neg, wp_fld, hw_v, hw_cst, hw_of, ne_eq, reduceCtorEq, not_false_eq_true, implies_true, forall_const, wp_cst, wp_v, wp_res, wp_resD, wp_blt, wp_ehs_cons, wp_ehs_nil, wp_ress_cons, wp_ress_nil, wp_asg, wp_setI, wp_ret, wp_ex, wp_own, wp_plOf, wp_getC, wp_setC, wp_call, wp_el_cons, wp_el_nil, List.getD_cons_zero, List.getD_cons_succ, List.set_cons_zero, List.set_cons_succ, cellV, ixV_cl, ixV_dl, ixV_dt, at0, at1, at2, at3, at4, ixn0, ixn1, ixn2, ixn3, ixn4, cmp_eq_int, cmp_ne_int, cmp_lt_int, cmp_le_int, cmp_gt_int, cmp_ge_int, bop_add_int, bop_sub_int, bop_mul_ex, bop_mod_ex, bop_fdiv_ex, bop_pow_ex, some_ex, len_cl, len_dl, len_dt, abs_i, int_i, int_b, min_i, max_i, List.length_map, D.int.injEq, D.bl.injEq, D.lst.injEq, Cell.lst.injEq, Option.some.injEq, exists_eq_left', exists_and_left, exists_eq_left, exists_and_right, decide_eq_true_eq, decide_eq_false_iff_not, false_implies, true_implies, and_true, true_and]
  refine ⟨_, _, rfl, by rw [h.fp]; rfl, ?_⟩
  rw [b_Depot___init___1, wp_cons, wp_setA]
  simp only [wp_cons, wp_nil, wp_ifs2, wp_tand, wp_tor, wp_tnot, wp_tval, wp_cmp, wp_ix, wp_bin, wp_neg, wp_fld, hw_v, hw_cst, hw_of, ne_eq, reduceCtorEq, not_false_eq_true, implies_true, forall_const, wp_cst, wp_v, wp_res, wp_resD, wp_blt, wp_ehs_cons, wp_ehs_nil, wp_ress_cons, wp_ress_nil, wp_asg, wp_setI, wp_ret, wp_ex, wp_own, wp_plOf, wp_getC, wp_setC, wp_call, wp_el_cons, wp_el_nil, List.getD_cons_zero, List.getD_cons_succ, List.set_cons_zero, List.set_cons_succ, cellV, ixV_cl, ixV_dl, ixV_dt, at0, at1, at2, at3, at4, ixn0, ixn1, ixn2, ixn3, ixn4, cmp_eq_int, cmp_ne_int, cmp_lt_int, cmp_le_int, cmp_gt_int, cmp_ge_int, bop_add_int, bop_sub_int, bop_mul_ex, bop_mod_ex, bop_fdiv_ex, bop_pow_ex, some_ex, len_cl, len_dl, len_dt, abs_i, int_i, int_b, min_i, max_i, List.length_map, D.int.injEq, D.bl.injEq, D.lst.injEq, Cell.lst.injEq, Option.some.injEq, exists_eq_left', exists_and_left, exists_eq_left, exists_and_right, decide_eq_true_eq, decide_eq_false_iff_not, false_implies, true_implies, and_true, true_and]
  refine ⟨_, _, rfl, by rw [h.fq]; rfl, ?_⟩
  rw [b_Depot___init___0, wp_cons, wp_setA, wp_blt, wp_ehs_cons, hw_v]
  simp only [wp_cons, wp_nil, wp_ifs2, wp_tand, wp_tor, wp_tnot, wp_tval, wp_cmp, wp_ix, wp_bin, wp_neg, wp_fld, hw_v, hw_cst, hw_of, ne_eq, reduceCtorEq, not_false_eq_true, implies_true, forall_const, wp_cst, wp_v, wp_res, wp_rint, wp_blt, wp_ehs_cons, wp_ehs_nil, wp_ress_cons, wp_ress_nil, wp_asg, wp_setI, wp_ret, wp_ex, wp_own, wp_plOf, wp_getC, wp_setC, wp_call, wp_el_cons, wp_el_nil, List.getD_cons_zero, List.getD_cons_succ, List.set_cons_zero, List.set_cons_succ, cellV, ixV_cl, ixV_dl, ixV_dt, at0, at1, at2, at3, at4, ixn0, ixn1, ixn2, ixn3, ixn4, cmp_eq_int, cmp_ne_int, cmp_lt_int, cmp_le_int, cmp_gt_int, cmp_ge_int, bop_add_int, bop_sub_int, bop_mul_ex, bop_mod_ex, bop_fdiv_ex, bop_pow_ex, some_ex, len_cl, len_dl, len_dt, abs_i, int_i, int_b, min_i, max_i, List.length_map, D.int.injEq, D.bl.injEq, D.lst.injEq, Cell.lst.injEq, Option.some.injEq, exists_eq_left', exists_and_left, exists_eq_left, exists_and_right, decide_eq_true_eq, decide_eq_false_iff_not, false_implies, true_implies, and_true, true_and]
  obtain ⟨v, b, hv, hr⟩ := rd_view hd
  rw [hr]
  refine ⟨_, it_tuple hv, ?_⟩
  exact ⟨_, _, rfl, by rw [h.ff]; rfl, _, _, rfl, rfl, rfl⟩
end Vm
namespace Vm
open PySem
def Pv (A : Api) (t : Tm) (e : Env) (s : Store) (d : D) : Prop := ev A t e s = .ok d e s
def Pt (A : Api) (t : Tm) (e : Env) (s : Store) (b : Bool) : Prop := et A t e s = .ok b e s
def Ph (A : Api) (t : Tm) (e : Env) (s : Store) (v : Vw) : Prop := ∃ h, ehd (ev A t) t e s = .ok h e s ∧ res h e s = .ok v e s
/-- reads as -/
def Rr (d : D) (e : Env) (s : Store) (v : Vw) : Prop := resD d e s = .ok v e s
section
variable {A : Api} {e : Env} {s : Store} {t a b c : Tm} {d : D} {v x y z : Vw} {i : Nat}
theorem bind_at {α β : Type} {m : M α} {f : α → M β} {r : α} {e e1 : Env} {s s1 : Store} (h : m e s = .ok r e1 s1) : (m.bind f) e s = f r e1 s1 := by
  unfold M.bind
  rw [h]
theorem rr_int {n : Int} : Rr (.int n) e s (.d (.int n)) := rfl
theorem rr_bl {n : Bool} : Rr (.bl n) e s (.d (.bl n)) := rfl
theorem rr_str {n : Str} : Rr (.str n) e s (.d (.str n)) := rfl
theorem rr_tup {n : List D} : Rr (.tup n) e s (.d (.tup n)) := rfl
theorem rr_lst {n : List D} : Rr (.lst n) e s (.d (.lst n)) := rfl
theorem rr_obj {c : Str} {n : List (Str × D)} : Rr (.obj c n) e s (.d (.obj c n)) := rfl
theorem rr_ref {k : Nat} {c : Cell} (h : s.getD k none = some c) : Rr (.ref k) e s (.c c) := by
  unfold Rr resD
  dsimp only
  rw [h]
theorem ph_val (h : e.getD i .emp = .val d) (r : Rr d e s v) : Ph A (.v i) e s v := by
  refine ⟨.s i, ?_, ?_⟩
  · show hdV i e s = _
    unfold hdV
    rw [h]
  · unfold res
    dsimp only
    rw [h]
    exact r
theorem ph_own {c : Cell} (h : e.getD i .emp = .own c) : Ph A (.v i) e s (.c c) := by
  refine ⟨.s i, ?_, ?_⟩
  · show hdV i e s = _
    unfold hdV
    rw [h]
  · unfold res
    dsimp only
    rw [h]
theorem ehd_of (h : ∀ i, t ≠ .v i) (p : Pv A t e s d) : ehd (ev A t) t e s = .ok (.d d) e s := by
  have : ehd (ev A t) t = (ev A t).bind fun d => .pure (.d d) := by
    cases t <;> first | rfl | exact (h _ rfl).elim
  rw [this, bind_at p]
  rfl
theorem ph_of (h : ∀ i, t ≠ .v i) (p : Pv A t e s d) (r : Rr d e s v) : Ph A t e s v := ⟨.d d, ehd_of h p, r⟩
theorem pv_v (h : e.getD i .emp = .val d) : Pv A (.v i) e s d := by
  show readV i e s = _
  unfold readV
  rw [h]
theorem pv_cst : Pv A (.cst d) e s d := rfl
theorem pv_bin {o : Bop} (ha : Ph A a e s x) (hb : Ph A b e s y) (h : bop o x y = some d) : Pv A (.bin o a b) e s d := by
  obtain ⟨g, a1, a2⟩ := ha
  obtain ⟨k, b1, b2⟩ := hb
  refine (bind_at a1).trans ((bind_at b1).trans ((bind_at a2).trans ((bind_at b2).trans ?_)))
  rw [h]
  rfl
theorem pv_cmp {o : Cop} {r : Bool} (ha : Ph A a e s x) (hb : Ph A b e s y) (h : cmpV o x y = some r) : Pv A (.cmp o a b) e s (.bl r) := by
  obtain ⟨g, a1, a2⟩ := ha
  obtain ⟨k, b1, b2⟩ := hb
  refine (bind_at a1).trans ((bind_at b1).trans ((bind_at a2).trans ((bind_at b2).trans ?_)))
  rw [h]
  rfl
theorem pv_neg {n : Int} (ha : Pv A a e s (.int n)) : Pv A (.neg a) e s (.int (-n)) := bind_at ha
theorem pv_ix {n : Int} (ha : Ph A a e s v) (hb : Pv A b e s (.int n)) (h : ixV v n = some d) : Pv A (.ix a b) e s d := by
  obtain ⟨g, a1, a2⟩ := ha
  refine (bind_at a1).trans ((bind_at hb).trans ((bind_at a2).trans ?_))
  rw [h]
  rfl
theorem pv_fld {f : Str} (ha : Ph A a e s v) (h : fldV A v f e s = .ok d e s) : Pv A (.fld a f) e s d := by
  obtain ⟨g, a1, a2⟩ := ha
  exact (bind_at a1).trans ((bind_at a2).trans h)
theorem pv_blt1 {o : Bt} (ha : Ph A a e s x) (h : btF o [x] = some d) : Pv A (.blt o (.cons a .nil)) e s d := by
  obtain ⟨g, a1, a2⟩ := ha
  have h1 : ehs A (.cons a .nil) e s = .ok [g] e s := (bind_at a1).trans rfl
  have h2 : ress [g] e s = .ok [x] e s := (bind_at a2).trans rfl
  refine (bind_at h1).trans ((bind_at h2).trans ?_)
  rw [h]
  rfl
theorem pv_blt2 {o : Bt} (ha : Ph A a e s x) (hb : Ph A b e s y) (h : btF o [x, y] = some d) : Pv A (.blt o (.cons a (.cons b .nil))) e s d := by
  obtain ⟨g, a1, a2⟩ := ha
  obtain ⟨k, b1, b2⟩ := hb
  have h1 : ehs A (.cons a (.cons b .nil)) e s = .ok [g, k] e s := (bind_at a1).trans (bind_at ((bind_at b1).trans rfl))
  have h2 : ress [g, k] e s = .ok [x, y] e s := (bind_at a2).trans (bind_at ((bind_at b2).trans rfl))
  refine (bind_at h1).trans ((bind_at h2).trans ?_)
  rw [h]
  rfl
/-- a list of values -/
def Pl_ (A : Api) (t : Tm) (e : Env) (s : Store) (ds : List D) : Prop := el A t e s = .ok ds e s
theorem pl_nil : Pl_ A .nil e s [] := rfl
theorem pl_cons {ds : List D} (ha : Pv A a e s d) (hr : Pl_ A b e s ds) : Pl_ A (.cons a b) e s (d :: ds) := (bind_at ha).trans (bind_at hr)
theorem pv_call {f : Str} {ds : List D} (h : A.has ("", f) = true) (ha : Pl_ A a e s ds) (hc : A.call ("", f) ds s = .ok d s) : Pv A (.call f a) e s d := by
  show (if A.has ("", f) = true then (el A a).bind fun xs => A.run ("", f) xs else M.bad) e s = _
  rw [if_pos h]
  refine (bind_at ha).trans ?_
  show A.run ("", f) (ds) e s = _
  unfold Api.run
  rw [hc]
theorem pv_tup {ds : List D} (ha : Pl_ A a e s ds) (hl : ds.length ≤ 2 ^ 24) : Pv A (.tup a) e s (.tup ds) := by
  refine (bind_at ha).trans ?_
  show (if ds.length ≤ 2 ^ 24 then M.pure (D.tup ds) else M.bad) e s = _
  rw [if_pos hl]
  rfl
theorem pv_lst {ds : List D} (ha : Pl_ A a e s ds) (hl : ds.length ≤ 2 ^ 24) : Pv A (.lst a) e s (.lst ds) := by
  refine (bind_at ha).trans ?_
  show (if ds.length ≤ 2 ^ 24 then M.pure (D.lst ds) else M.bad) e s = _
  rw [if_pos hl]
  rfl
theorem pv_meth {m : Str} {c : Str} {ds : List D} (ho : Pv A a e s d) (r : Rr d e s v) (g : gate A m v = some c) (ha : Pl_ A b e s ds) {d' : D} (hc : A.call (c, m) (d :: ds) s = .ok d' s) : Pv A (.meth m a b) e s d' := by
  refine (bind_at ho).trans ((bind_at r).trans ?_)
  rw [g]
  refine (bind_at ha).trans ?_
  show A.run (c, m) ((d :: ds)) e s = _
  unfold Api.run
  rw [hc]
theorem pv_mk {c : Str} {ds : List D} (h : A.has (c, "__init__") = true) (ha : Pl_ A a e s ds) (hc : A.call (c, "__init__") ds s = .ok d s) : Pv A (.mk c a) e s d := by
  show (if A.has (c, "__init__") = true then (el A a).bind fun xs => A.run (c, "__init__") xs else M.bad) e s = _
  rw [if_pos h]
  refine (bind_at ha).trans ?_
  show A.run (c, "__init__") (ds) e s = _
  unfold Api.run
  rw [hc]
theorem pv_and {p : Bool} (ha : Pv A a e s (.bl p)) (h1 : p = true → Pv A b e s d) (h2 : p = false → d = .bl false) : Pv A (.andv a b) e s d := by
  refine (bind_at ha).trans ?_
  cases p with
  | true => exact h1 rfl
  | false =>
    cases h2 rfl
    rfl
theorem pv_not {p : Bool} (ha : Pv A a e s (.bl p)) : Pv A (.notv a) e s (.bl (!p)) := bind_at ha
theorem pt_val {p : Bool} (ha : Pv A a e s (.bl p)) : Pt A (.tval a) e s p := bind_at ha
theorem pt_not {p : Bool} (ha : Pt A a e s p) : Pt A (.tnot a) e s (!p) := bind_at ha
theorem pt_and {p q : Bool} (ha : Pt A a e s p) (h1 : p = true → Pt A b e s q) (h2 : p = false → q = false) : Pt A (.tand a b) e s q := by
  refine (bind_at ha).trans ?_
  cases p with
  | true => exact h1 rfl
  | false =>
    cases h2 rfl
    rfl
theorem pt_or {p q : Bool} (ha : Pt A a e s p) (h1 : p = false → Pt A b e s q) (h2 : p = true → q = true) : Pt A (.tor a b) e s q := by
  refine (bind_at ha).trans ?_
  cases p with
  | false => exact h1 rfl
  | true =>
    cases h2 rfl
    rfl
theorem pt_ru {r : Bool} (ha : Ph A a e s v) (h : truV v = some r) : Pt A (.ttru a) e s r := by
  obtain ⟨g, a1, a2⟩ := ha
  refine (bind_at a1).trans ((bind_at a2).trans ?_)
  rw [h]
  rfl
theorem wp_at {α : Type} {m : M α} {r : α} {e1 : Env} {s1 : Store} {Q : α → Env → Store → Prop} (h : m e s = .ok r e1 s1) (q : Q r e1 s1) : m.wp e s Q := ⟨r, e1, s1, h, q⟩
theorem s_asg {r : Sm} {Q : Fl → Env → Store → Prop} (h : Pv A t e s d) (q : (ex A r).wp (e.set i (.val d)) s Q) : (ex A (.cons (.asg (.nm i) t) r)).wp e s Q := wp_cons.mpr (wp_asg.mpr (wp_at h q))
theorem s_ret {r : Sm} {Q : Fl → Env → Store → Prop} (h : Pv A t e s d) (q : Q (.ret d) e s) : (ex A (.cons (.ret t) r)).wp e s Q := wp_cons.mpr (wp_ret.mpr (wp_at h q))
theorem s_own {r : Sm} {xs : List D} {Q : Fl → Env → Store → Prop} (h : Pv A t e s (.lst xs)) (q : (ex A r).wp (e.set i (.own (.lst xs))) s Q) : (ex A (.cons (.own i t) r)).wp e s Q := wp_cons.mpr (wp_own.mpr (wp_at h ⟨xs, rfl, q⟩))
theorem s_ex {r : Sm} {Q : Fl → Env → Store → Prop} (h : Pv A t e s d) (q : (ex A r).wp e s Q) : (ex A (.cons (.ex t) r)).wp e s Q := wp_cons.mpr (wp_ex.mpr (wp_at h q))
theorem s_ifF {p r : Sm} {Q : Fl → Env → Store → Prop} (h : Pt A t e s false) (q : (ex A r).wp e s Q) : (ex A (.cons (.ifs t p .nil) r)).wp e s Q := wp_cons.mpr (wp_ifs2.mpr (wp_at h ⟨fun z => (nomatch z), fun _ => wp_nil.mpr q⟩))
theorem s_if {p p' r : Sm} {k : Bool} {Q : Fl → Env → Store → Prop} (h : Pt A t e s k) (q1 : k = true → (ex A p).wp e s fun f e s => match f with
    | .next => (ex A r).wp e s Q
    | f => Q f e s) (q2 : k = false → (ex A p').wp e s fun f e s => match f with
    | .next => (ex A r).wp e s Q
    | f => Q f e s) : (ex A (.cons (.ifs t p p') r)).wp e s Q := wp_cons.mpr (wp_ifs2.mpr (wp_at h ⟨q1, q2⟩))
/-- s with an item of an own list stored -/
theorem s_setO {j : Tm} {r : Sm} {n : Int} {k : Nat} {xs : List D} {Q : Fl → Env → Store → Prop} (h : Pv A t e s d) (ho : e.getD i .emp = .own (.lst xs)) (hj : Pv A j e s (.int n)) (hn : L2.ixN xs.length n = some k) (q : (ex A r).wp (e.set i (.own (.lst (xs.set k d)))) s Q) :
    (ex A (.cons (.setI (.v i) j t) r)).wp e s Q := by
  refine wp_cons.mpr (wp_setI.mpr (wp_at h ?_))
  rw [hw_v, ho]
  refine wp_at hj ?_
  rw [wp_plOf]
  dsimp only
  rw [ho]
  dsimp only
  rw [wp_getC]
  dsimp only
  rw [ho]
  refine ⟨xs, n, k, rfl, rfl, hn, ?_⟩
  rw [wp_setC]
  exact q
end
end Vm
namespace Vm
open PySem
def b__law_due_numbers_0 : Sm := .cons (.ret (.bin .add (.v 8) (.tup (.cons (.bin .fdiv (.v 1) (.v 3)) (.cons (.v 4) (.cons (.blt .tuple (.cons (.v 6) .nil)) (.cons (.v 7) .nil))))))) .nil
def b__law_due_numbers_1 : Sm := .cons (.asg (.nm 8) (.tup (.cons (.v 3) (.cons (.ix (.v 0) (.cst (.int (1)))) (.cons (.blt .tuple (.cons (.ix (.v 0) (.cst (.int (2)))) .nil)) (.cons (.blt .len (.cons (.ix (.v 0) (.cst (.int (2)))) .nil)) (.cons (.blt .tuple (.cons (.v 5) .nil)) (.cons (.call "_law_day" (.cons (.v 2) (.cons (.v 3) .nil))) .nil)))))))) b__law_due_numbers_0
def b__law_due_numbers_2 : Sm := .cons (.asg (.nm 7) (.blt .sum (.cons (.lc [9] (.nm 9) (.irng2 (.cst (.int (1))) (.bin .add (.v 3) (.cst (.int (1))))) .tyes (.bin .mul (.ix (.v 5) (.bin .sub (.v 9) (.cst (.int (1))))) (.bin .fdiv (.bin .add (.bin .sub (.v 1) (.v 9)) (.v 3)) (.v 3)))) .nil))) b__law_due_numbers_1
def b__law_due_numbers_3 : Sm := .cons (.own 6 (.lc [9] (.nm 9) (.irng2 (.cst (.int (1))) (.bin .add (.v 3) (.cst (.int (1))))) .tyes (.bin .add (.ix (.v 5) (.bin .sub (.v 9) (.cst (.int (1))))) (.bin .mul (.ix (.v 0) (.cst (.int (1)))) (.blt .int (.cons (.cmp .eq (.v 9) (.v 4)) .nil)))))) b__law_due_numbers_2
def b__law_due_numbers_4 : Sm := .cons (.setI (.v 5) (.cst (.int (0))) (.bin .sub (.ix (.v 5) (.cst (.int (0)))) (.ix (.v 0) (.cst (.int (1)))))) b__law_due_numbers_3
def b__law_due_numbers_5 : Sm := .cons (.own 5 (.lc [9] (.nm 9) (.irng2 (.cst (.int (1))) (.bin .add (.v 3) (.cst (.int (1))))) .tyes (.blt .len (.cons (.lc [10] (.nm 10) (.iseq (.ix (.v 0) (.cst (.int (2))))) (.tval (.cmp .eq (.v 10) (.v 9))) (.v 10)) .nil)))) b__law_due_numbers_4
def b__law_due_numbers_6 : Sm := .cons (.asg (.nm 4) (.call "_law_day" (.cons (.bin .add (.v 1) (.cst (.int (1)))) (.cons (.v 3) .nil)))) b__law_due_numbers_5
def b__law_due_numbers_7 : Sm := .cons (.asg (.nm 3) (.ix (.v 0) (.cst (.int (0))))) b__law_due_numbers_6
def f__law_due_numbers : Fn := ⟨3, 11, b__law_due_numbers_7, none⟩
theorem bop_mul_ok {i j : Int} (hi : Sm100 i) (hj : Sm100 j) : bop .mul (.d (.int i)) (.d (.int j)) = some (.int (i * j)) := by
  obtain ⟨a, h, rfl⟩ := (bop_mul_ex (P := fun d => d = .int (i * j))).mpr ⟨mul_ok hi hj, rfl⟩
  exact h
theorem bop_div_ok {i j : Int} (h0 : 0 < j) (hj : Sm100 j) : bop .fdiv (.d (.int i)) (.d (.int j)) = some (.int (i / j)) := by
  obtain ⟨a, h, rfl⟩ := (bop_fdiv_ex (P := fun d => d = .int (i / j))).mpr ⟨div_ok h0 hj, rfl⟩
  exact h
theorem bop_mod_ok {i j : Int} (h0 : 0 < j) : bop .mod (.d (.int i)) (.d (.int j)) = some (.int (i % j)) := by
  obtain ⟨a, h, rfl⟩ := (bop_mod_ex (P := fun d => d = .int (i % j))).mpr ⟨h0, rfl⟩
  exact h
theorem il0 {a : D} {xs : List D} : ixV (.d (.lst (a :: xs))) 0 = some a := at0
theorem il1 {a b : D} {xs : List D} : ixV (.d (.lst (a :: b :: xs))) 1 = some b := at1
theorem il2 {a b c : D} {xs : List D} : ixV (.d (.lst (a :: b :: c :: xs))) 2 = some c := at2
theorem it0 {a : D} {xs : List D} : ixV (.d (.tup (a :: xs))) 0 = some a := at0
theorem it1 {a b : D} {xs : List D} : ixV (.d (.tup (a :: b :: xs))) 1 = some b := at1
theorem ic0 {a : D} {xs : List D} : ixV (.c (.lst (a :: xs))) 0 = some a := at0
theorem ic1 {a b : D} {xs : List D} : ixV (.c (.lst (a :: b :: xs))) 1 = some b := at1
theorem ic2 {a b c : D} {xs : List D} : ixV (.c (.lst (a :: b :: c :: xs))) 2 = some c := at2
structure HasDay (A : Api) : Prop where
  has : A.has ("", "_law_day") = true
  call : ∃ B, ∀ ds s, A.call ("", "_law_day") ds s = f__law_day.run B ds s
theorem day_st {A : Api} {s : Store} (h : HasDay A) {st m : Int} (hm : 1 ≤ m) (hm2 : m < 1000) {Q : D → Store → Prop} (q : Q (.int ((st - 1) % m + 1)) s) : (A.call ("", "_law_day") [.int st, .int m] s).wp Q := by
  obtain ⟨B, hB⟩ := h.call
  rw [hB]
  exact cwp_mono (day_spec hm hm2) fun d s' hs => by
    obtain ⟨rfl, rfl⟩ := hs
    exact q
theorem day_eq {A : Api} {s : Store} (h : HasDay A) {st m : Int} (hm : 1 ≤ m) (hm2 : m < 1000) : A.call ("", "_law_day") [.int st, .int m] s = .ok (.int ((st - 1) % m + 1)) s := out_eq (day_st h hm hm2 ⟨rfl, rfl⟩)
def tC (c : Int) : D → Bool
  | .int a => decide (a = c)
  | _ => false
theorem tC_len (c : Int) : ∀ fs : List Int, (((fs.map D.int).filter (tC c)).map fun x => x).length = fs.count c
  | [] => rfl
  | f :: fs => by
    have h := tC_len c fs
    rw [List.map_cons, List.filter_cons, List.count_cons]
    by_cases e : f = c
    · subst e
      simp only [tC, decide_true, if_true, List.map_cons, List.length_cons, h, BEq.rfl]
    · have : (f == c) = false := by simpa using e
      simp only [tC, decide_eq_false e, Bool.false_eq_true, if_false, h, this, Nat.add_zero]
def dueF (q : Int) (sp : List Int) (l : Int) : D → D
  | .int c => .int (sp.getD (c - 1).toNat 0 + q * (if c = l then 1 else 0))
  | _ => .non
def begF (n m : Int) (sp : List Int) : D → D
  | .int c => .int (sp.getD (c - 1).toNat 0 * ((n - c + m) / m))
  | _ => .non
theorem irange_map {m : Int} {f : D → D} {g : Nat → Int} (h : ∀ k : Nat, k < m.toNat → f (.int (1 + (k : Int))) = .int (g k)) : ((irange 1 (m + 1)).filter fun _ => true).map f = ((List.range m.toNat).map g).map D.int := by
  unfold irange
  rw [List.filter_eq_self.mpr (fun _ _ => rfl), List.map_map, List.map_map, show m + 1 - 1 = m by omega]
  exact List.map_congr_left fun k hk => h k (List.mem_range.mp hk)
def dueT (m q : Int) (fs : List Int) (n st a : Int) : D := .tup [.int m, .int q, .tup (fs.map .int), .int fs.length, .tup ((subAt0 q (cn fs m)).map .int), .int ((st - 1) % m + 1), .int (n / m), .int (n % m + 1), .tup (((subAt0 q (cn fs m)).set (n % m).toNat (a + q)).map .int), .int (n / m * (subAt0 q (cn fs m)).sum + ((subAt0 q (cn fs m)).take (n % m).toNat).sum)]
def plan (m q : Int) (fs : List Int) : D := .lst [.int m, .int q, .lst (fs.map .int)]
theorem sp_small {q m : Int} {fs : List Int} (q1 : 1 ≤ q) (q2 : q ≤ 12) (l2 : fs.length ≤ 12) : ∀ x ∈ subAt0 q (cn fs m), -12 ≤ x ∧ x ≤ 12 := by
  have h : ∀ x ∈ cn fs m, 0 ≤ x ∧ x ≤ 12 := fun x hx => by
    obtain ⟨j, _, rfl⟩ := List.mem_map.mp hx
    have := List.count_le_length (a := 1 + (j : Int)) (l := fs)
    omega
  intro x hx
  cases hc : cn fs m with
  | nil =>
    rw [hc] at hx
    cases hx
  | cons y ys =>
    rw [hc] at hx h
    rcases List.mem_cons.mp hx with rfl | hx
    · have := h y (List.mem_cons_self ..)
      omega
    · have := h x (List.mem_cons_of_mem _ hx)
      omega
theorem div_small {n m : Int} (hm : 1 ≤ m) (h0 : 0 ≤ n) (h1 : n ≤ 1000000000000000000000000000000) : 0 ≤ n / m ∧ n / m ≤ 1000000000000000000000000000000 := by
  refine ⟨Int.ediv_nonneg h0 (by omega), ?_⟩
  have := Int.ediv_le_self m h0
  omega
section
variable {A : Api} {S : Store} {m q : Int} {fs : List Int}
theorem due_numbers_spec (h : HasDay A) (hm : 1 ≤ m) (hm2 : m ≤ 8) (q1 : 1 ≤ q) (q2 : q ≤ 12) (l2 : fs.length ≤ 12) {n st a : Int} (h0 : 0 ≤ n) (h1 : n ≤ 1000000000000000000000000000000) (ha : (subAt0 q (cn fs m))[(n % m).toNat]? = some a) :
    (f__law_due_numbers.run A [plan m q fs, .int n, .int st] S).wp fun d s' => d = dueT m q fs n st a ∧ s' = S := by
  refine run_wp rfl rfl ?_
  show (ex A b__law_due_numbers_7).wp [.val (.lst [.int m, .int q, .lst (fs.map .int)]), .val (.int n), .val (.int st), .emp, .emp, .emp, .emp, .emp, .emp, .emp, .emp] S _
  simp only [wp_cons, wp_nil, wp_ifs2, wp_tand, wp_tor, wp_tnot, wp_tval, wp_cmp, wp_ix, wp_bin, wp_neg, wp_fld, hw_v, hw_cst, hw_of, ne_eq, reduceCtorEq, not_false_eq_true, implies_true, forall_const, wp_cst, wp_v, wp_res, wp_resD, wp_blt, wp_ehs_cons, wp_ehs_nil, wp_ress_cons, wp_ress_nil, wp_asg, wp_setI, wp_ret, wp_ex, wp_own, wp_plOf, wp_getC, wp_setC, wp_call, wp_el_cons, wp_el_nil, List.getD_cons_zero, List.getD_cons_succ, List.set_cons_zero, List.set_cons_succ, cellV, ixV_cl, ixV_dl, ixV_dt, at0, at1, at2, at3, at4, ixn0, ixn1, ixn2, ixn3, ixn4, cmp_eq_int, cmp_ne_int, cmp_lt_int, cmp_le_int, cmp_gt_int, cmp_ge_int, bop_add_int, bop_sub_int, bop_mul_ex, bop_mod_ex, bop_fdiv_ex, bop_pow_ex, some_ex, len_cl, len_dl, len_dt, abs_i, int_i, int_b, min_i, max_i, List.length_map, D.int.injEq, D.bl.injEq, D.lst.injEq, Cell.lst.injEq, Option.some.injEq, exists_eq_left', exists_and_left, exists_eq_left, exists_and_right, decide_eq_true_eq, decide_eq_false_iff_not, false_implies, true_implies, and_true, true_and,  b__law_due_numbers_7]
  simp only [wp_cons, wp_nil, wp_ifs2, wp_tand, wp_tor, wp_tnot, wp_tval, wp_cmp, wp_ix, wp_bin, wp_neg, wp_fld, hw_v, hw_cst, hw_of, ne_eq, reduceCtorEq, not_false_eq_true, implies_true, forall_const, wp_cst, wp_v, wp_res, wp_resD, wp_blt, wp_ehs_cons, wp_ehs_nil, wp_ress_cons, wp_ress_nil, wp_asg, wp_setI, wp_ret, wp_ex, wp_own, wp_plOf, wp_getC, wp_setC, wp_call, wp_el_cons, wp_el_nil, List.getD_cons_zero, List.getD_cons_succ, List.set_cons_zero, List.set_cons_succ, cellV, ixV_cl, ixV_dl, ixV_dt, at0, at1, at2, at3, at4, ixn0, ixn1, ixn2, ixn3, ixn4, cmp_eq_int, cmp_ne_int, cmp_lt_int, cmp_le_int, cmp_gt_int, cmp_ge_int, bop_add_int, bop_sub_int, bop_mul_ex, bop_mod_ex, bop_fdiv_ex, bop_pow_ex, some_ex, len_cl, len_dl, len_dt, abs_i, int_i, int_b, min_i, max_i, List.length_map, D.int.injEq, D.bl.injEq, D.lst.injEq, Cell.lst.injEq, Option.some.injEq, exists_eq_left', exists_and_left, exists_eq_left, exists_and_right, decide_eq_true_eq, decide_eq_false_iff_not, false_implies, true_implies, and_true, true_and,  b__law_due_numbers_6, h.has]
  refine day_st h hm (by omega) ?_
  rw [show n + 1 - 1 = n by omega]
  rw [b__law_due_numbers_5, wp_cons, wp_own]
  refine lc_run (t := fun _ => true) (f := cF fs) (xs := irange 1 (m + 1)) rfl (by rw [irange_len]; omega) ?_
  rw [wp_irng2]
  simp only [wp_cons, wp_nil, wp_ifs2, wp_tand, wp_tor, wp_tnot, wp_tval, wp_cmp, wp_ix, wp_bin, wp_neg, wp_fld, hw_v, hw_cst, hw_of, ne_eq, reduceCtorEq, not_false_eq_true, implies_true, forall_const, wp_cst, wp_v, wp_res, wp_resD, wp_blt, wp_ehs_cons, wp_ehs_nil, wp_ress_cons, wp_ress_nil, wp_asg, wp_setI, wp_ret, wp_ex, wp_own, wp_plOf, wp_getC, wp_setC, wp_call, wp_el_cons, wp_el_nil, List.getD_cons_zero, List.getD_cons_succ, List.set_cons_zero, List.set_cons_succ, cellV, ixV_cl, ixV_dl, ixV_dt, at0, at1, at2, at3, at4, ixn0, ixn1, ixn2, ixn3, ixn4, cmp_eq_int, cmp_ne_int, cmp_lt_int, cmp_le_int, cmp_gt_int, cmp_ge_int, bop_add_int, bop_sub_int, bop_mul_ex, bop_mod_ex, bop_fdiv_ex, bop_pow_ex, some_ex, len_cl, len_dl, len_dt, abs_i, int_i, int_b, min_i, max_i, List.length_map, D.int.injEq, D.bl.injEq, D.lst.injEq, Cell.lst.injEq, Option.some.injEq, exists_eq_left', exists_and_left, exists_eq_left, exists_and_right, decide_eq_true_eq, decide_eq_false_iff_not, false_implies, true_implies, and_true, true_and]
  refine ⟨decide_eq_true ⟨by omega, by omega⟩, decide_eq_true ⟨by omega, by omega⟩, rfl, fun x hx => ?_, ?_⟩
  · obtain ⟨j, hj⟩ := List.getElem?_of_mem hx
    obtain ⟨rfl, hj2⟩ := irange_get hj
    refine ⟨_, rfl, rfl, rfl, wp_eq ?_⟩
    show (ev A _).wp [.val (.lst [.int m, .int q, .lst (fs.map .int)]), .val (.int n), .val (.int st), .val (.int m), .val (.int (n % m + 1)), .emp, .emp, .emp, .emp, .val (.int (1 + (j : Int))), .emp] S _
    rw [wp_blt, wp_ehs_cons]
    refine (hw_of ?_).mpr ?_
    · intro i h
      cases h
    refine lc_run (t := tC (1 + (j : Int))) (f := fun x => x) (xs := fs.map .int) rfl (by simp; omega) ?_
    rw [wp_iseq]
    simp only [wp_cons, wp_nil, wp_ifs2, wp_tand, wp_tor, wp_tnot, wp_tval, wp_cmp, wp_ix, wp_bin, wp_neg, wp_fld, hw_v, hw_cst, hw_of, ne_eq, reduceCtorEq, not_false_eq_true, implies_true, forall_const, wp_cst, wp_v, wp_res, wp_resD, wp_blt, wp_ehs_cons, wp_ehs_nil, wp_ress_cons, wp_ress_nil, wp_asg, wp_setI, wp_ret, wp_ex, wp_own, wp_plOf, wp_getC, wp_setC, wp_call, wp_el_cons, wp_el_nil, List.getD_cons_zero, List.getD_cons_succ, List.set_cons_zero, List.set_cons_succ, cellV, ixV_cl, ixV_dl, ixV_dt, at0, at1, at2, at3, at4, ixn0, ixn1, ixn2, ixn3, ixn4, cmp_eq_int, cmp_ne_int, cmp_lt_int, cmp_le_int, cmp_gt_int, cmp_ge_int, bop_add_int, bop_sub_int, bop_mul_ex, bop_mod_ex, bop_fdiv_ex, bop_pow_ex, some_ex, len_cl, len_dl, len_dt, abs_i, int_i, int_b, min_i, max_i, List.length_map, D.int.injEq, D.bl.injEq, D.lst.injEq, Cell.lst.injEq, Option.some.injEq, exists_eq_left', exists_and_left, exists_eq_left, exists_and_right, decide_eq_true_eq, decide_eq_false_iff_not, false_implies, true_implies, and_true, true_and]
    refine ⟨rfl, fun x hx => ?_, ?_⟩
    · obtain ⟨f, hf, rfl⟩ := List.mem_map.mp hx
      exact ⟨_, rfl, rfl, pt_val (pv_cmp (ph_val rfl rr_int) (ph_val rfl rr_int) cmp_eq_int), fun _ => rfl⟩
    · have := tC_len (1 + (j : Int)) fs
      rw [List.length_map] at this
      rw [this]
      exact ⟨rfl, rfl⟩
  · rw [cn_map]
    have hl : (subAt0 q (cn fs m)).length = m.toNat := cn_len
    obtain ⟨y, ys, hy⟩ : ∃ y ys, cn fs m = y :: ys := by
      unfold cn
      obtain ⟨k, hk⟩ : ∃ k, m.toNat = k + 1 := ⟨m.toNat - 1, by omega⟩
      rw [hk, List.range_succ_eq_map]
      exact ⟨_, _, rfl⟩
    rw [hy]
    simp only [wp_cons, wp_nil, wp_ifs2, wp_tand, wp_tor, wp_tnot, wp_tval, wp_cmp, wp_ix, wp_bin, wp_neg, wp_fld, hw_v, hw_cst, hw_of, ne_eq, reduceCtorEq, not_false_eq_true, implies_true, forall_const, wp_cst, wp_v, wp_res, wp_resD, wp_blt, wp_ehs_cons, wp_ehs_nil, wp_ress_cons, wp_ress_nil, wp_asg, wp_setI, wp_ret, wp_ex, wp_own, wp_plOf, wp_getC, wp_setC, wp_call, wp_el_cons, wp_el_nil, List.getD_cons_zero, List.getD_cons_succ, List.set_cons_zero, List.set_cons_succ, cellV, ixV_cl, ixV_dl, ixV_dt, at0, at1, at2, at3, at4, ixn0, ixn1, ixn2, ixn3, ixn4, cmp_eq_int, cmp_ne_int, cmp_lt_int, cmp_le_int, cmp_gt_int, cmp_ge_int, bop_add_int, bop_sub_int, bop_mul_ex, bop_mod_ex, bop_fdiv_ex, bop_pow_ex, some_ex, len_cl, len_dl, len_dt, abs_i, int_i, int_b, min_i, max_i, List.length_map, D.int.injEq, D.bl.injEq, D.lst.injEq, Cell.lst.injEq, Option.some.injEq, exists_eq_left', exists_and_left, exists_eq_left, exists_and_right, decide_eq_true_eq, decide_eq_false_iff_not, false_implies, true_implies, and_true, true_and,  b__law_due_numbers_4, List.map_cons]
    have e5 : D.int (y - q) :: ys.map D.int = (subAt0 q (cn fs m)).map .int := by
      rw [hy]
      rfl
    rw [e5]
    unfold dueT
    have hsp := sp_small (m := m) q1 q2 l2
    generalize subAt0 q (cn fs m) = sp at *
    rw [b__law_due_numbers_3, wp_cons, wp_own]
    refine lc_run (t := fun _ => true) (f := dueF q sp (n % m + 1)) (xs := irange 1 (m + 1)) rfl (by rw [irange_len]; omega) ?_
    rw [wp_irng2]
    simp only [wp_cons, wp_nil, wp_ifs2, wp_tand, wp_tor, wp_tnot, wp_tval, wp_cmp, wp_ix, wp_bin, wp_neg, wp_fld, hw_v, hw_cst, hw_of, ne_eq, reduceCtorEq, not_false_eq_true, implies_true, forall_const, wp_cst, wp_v, wp_res, wp_resD, wp_blt, wp_ehs_cons, wp_ehs_nil, wp_ress_cons, wp_ress_nil, wp_asg, wp_setI, wp_ret, wp_ex, wp_own, wp_plOf, wp_getC, wp_setC, wp_call, wp_el_cons, wp_el_nil, List.getD_cons_zero, List.getD_cons_succ, List.set_cons_zero, List.set_cons_succ, cellV, ixV_cl, ixV_dl, ixV_dt, at0, at1, at2, at3, at4, ixn0, ixn1, ixn2, ixn3, ixn4, cmp_eq_int, cmp_ne_int, cmp_lt_int, cmp_le_int, cmp_gt_int, cmp_ge_int, bop_add_int, bop_sub_int, bop_mul_ex, bop_mod_ex, bop_fdiv_ex, bop_pow_ex, some_ex, len_cl, len_dl, len_dt, abs_i, int_i, int_b, min_i, max_i, List.length_map, D.int.injEq, D.bl.injEq, D.lst.injEq, Cell.lst.injEq, Option.some.injEq, exists_eq_left', exists_and_left, exists_eq_left, exists_and_right, decide_eq_true_eq, decide_eq_false_iff_not, false_implies, true_implies, and_true, true_and]
    refine ⟨decide_eq_true ⟨by omega, by omega⟩, decide_eq_true ⟨by omega, by omega⟩, rfl, fun x hx => ?_, ?_⟩
    · obtain ⟨j, hj⟩ := List.getElem?_of_mem hx
      obtain ⟨rfl, hj2⟩ := irange_get hj
      refine ⟨_, rfl, rfl, rfl, ?_⟩
      show Pv A _ [.val (.lst [.int m, .int q, .lst (fs.map .int)]), .val (.int n), .val (.int st), .val (.int m), .val (.int (n % m + 1)), .own (.lst (sp.map .int)), .emp, .emp, .emp, .val (.int (1 + (j : Int))), .emp] S _
      have hj3 : j < sp.length := by omega
      have hat : L2.atI (sp.map D.int) (1 + (j : Int) - 1) = some (.int (sp.getD j 0)) := ix_nat (n := j) (by omega) (by
        rw [List.getElem?_map, List.getD_eq_getElem?_getD, List.getElem?_eq_getElem hj3]
        rfl)
      refine pv_bin (ph_of nofun (pv_ix (ph_own rfl) (pv_bin (ph_val rfl rr_int) (ph_of nofun pv_cst rr_int) bop_sub_int) hat) rr_int) (ph_of nofun (pv_bin (ph_of nofun (pv_ix (ph_val rfl rr_lst) pv_cst il1) rr_int) (ph_of nofun (pv_blt1 (ph_of nofun (pv_cmp (ph_val rfl rr_int) (ph_val rfl rr_int) cmp_eq_int) rr_bl) int_b) rr_int) (bop_mul_ok ⟨by omega, by omega⟩ (by split <;> exact ⟨by decide, by decide⟩))) rr_int) (bop_add_int.trans (congrArg some ?_))
      show D.int _ = D.int _
      have e6 : (1 + (j : Int) - 1).toNat = j := by omega
      rw [e6]
      simp only [decide_eq_true_eq]
    · rw [irange_map (g := fun k => sp.getD k 0 + q * if k = (n % m).toNat then 1 else 0) ?_, ← hl, due_set ha]
      · rw [b__law_due_numbers_2, wp_cons, wp_asg, wp_blt, wp_ehs_cons]
        refine (hw_of ?_).mpr ?_
        · intro i h
          cases h
        refine lc_run (t := fun _ => true) (f := begF n m sp) (xs := irange 1 (m + 1)) rfl (by rw [irange_len]; omega) ?_
        rw [wp_irng2]
        simp only [wp_cons, wp_nil, wp_ifs2, wp_tand, wp_tor, wp_tnot, wp_tval, wp_cmp, wp_ix, wp_bin, wp_neg, wp_fld, hw_v, hw_cst, hw_of, ne_eq, reduceCtorEq, not_false_eq_true, implies_true, forall_const, wp_cst, wp_v, wp_res, wp_resD, wp_blt, wp_ehs_cons, wp_ehs_nil, wp_ress_cons, wp_ress_nil, wp_asg, wp_setI, wp_ret, wp_ex, wp_own, wp_plOf, wp_getC, wp_setC, wp_call, wp_el_cons, wp_el_nil, List.getD_cons_zero, List.getD_cons_succ, List.set_cons_zero, List.set_cons_succ, cellV, ixV_cl, ixV_dl, ixV_dt, at0, at1, at2, at3, at4, ixn0, ixn1, ixn2, ixn3, ixn4, cmp_eq_int, cmp_ne_int, cmp_lt_int, cmp_le_int, cmp_gt_int, cmp_ge_int, bop_add_int, bop_sub_int, bop_mul_ex, bop_mod_ex, bop_fdiv_ex, bop_pow_ex, some_ex, len_cl, len_dl, len_dt, abs_i, int_i, int_b, min_i, max_i, List.length_map, D.int.injEq, D.bl.injEq, D.lst.injEq, Cell.lst.injEq, Option.some.injEq, exists_eq_left', exists_and_left, exists_eq_left, exists_and_right, decide_eq_true_eq, decide_eq_false_iff_not, false_implies, true_implies, and_true, true_and]
        refine ⟨decide_eq_true ⟨by omega, by omega⟩, decide_eq_true ⟨by omega, by omega⟩, rfl, fun x hx => ?_, ?_⟩
        · obtain ⟨j, hj⟩ := List.getElem?_of_mem hx
          obtain ⟨rfl, hj2⟩ := irange_get hj
          refine ⟨_, rfl, rfl, rfl, ?_⟩
          show Pv A _ [.val (.lst [.int m, .int q, .lst (fs.map .int)]), .val (.int n), .val (.int st), .val (.int m), .val (.int (n % m + 1)), .own (.lst (sp.map .int)), .own (.lst ((sp.set (n % m).toNat (a + q)).map .int)), .emp, .emp, .val (.int (1 + (j : Int))), .emp] S _
          have hj3 : j < sp.length := by omega
          have hat : ixV (.c (.lst (sp.map D.int))) (1 + (j : Int) - 1) = some (.int (sp.getD j 0)) := ix_nat (n := j) (by omega) (by
            rw [List.getElem?_map, List.getD_eq_getElem?_getD, List.getElem?_eq_getElem hj3]
            rfl)
          have hs3 : Sm100 (sp.getD j 0) := by
            have : sp.getD j 0 ∈ sp := by
              rw [List.getD_eq_getElem?_getD, List.getElem?_eq_getElem hj3]
              exact List.getElem_mem hj3
            have := hsp _ this
            exact ⟨by omega, by omega⟩
          have hdv : Sm100 ((n - (1 + (j : Int)) + m) / m) := by
            rw [front_div hm (by omega)]
            have := div_small hm h0 h1
            split <;> exact ⟨by omega, by omega⟩
          refine pv_bin (ph_of nofun (pv_ix (ph_own rfl) (pv_bin (ph_val rfl rr_int) (ph_of nofun pv_cst rr_int) bop_sub_int) hat) rr_int) (ph_of nofun (pv_bin (ph_of nofun (pv_bin (ph_of nofun (pv_bin (ph_val rfl rr_int) (ph_val rfl rr_int) bop_sub_int) rr_int) (ph_val rfl rr_int) bop_add_int) rr_int) (ph_val rfl rr_int) (bop_div_ok (by omega) ⟨by omega, by omega⟩)) rr_int) ((bop_mul_ok hs3 hdv).trans (congrArg some ?_))
          show D.int _ = D.int _
          have e6 : (1 + (j : Int) - 1).toNat = j := by omega
          rw [e6]
        · rw [irange_map (g := fun k => sp.getD k 0 * (n / m + if k < (n % m).toNat then 1 else 0)) ?_, ← hl]
          · refine ⟨_, sum_lst, ?_⟩
            rw [sum_front]
            rw [b__law_due_numbers_1]
            refine s_asg (pv_tup (pl_cons (pv_v rfl) (pl_cons (pv_ix (ph_val rfl rr_lst) pv_cst il1) (pl_cons (pv_blt1 (ph_of nofun (pv_ix (ph_val rfl rr_lst) pv_cst il2) rr_lst) rfl) (pl_cons (pv_blt1 (ph_of nofun (pv_ix (ph_val rfl rr_lst) pv_cst il2) rr_lst) len_dl) (pl_cons (pv_blt1 (ph_own rfl) list_tup) (pl_cons (pv_call h.has (pl_cons (pv_v rfl) (pl_cons (pv_v rfl) pl_nil)) (day_eq h hm (by omega))) pl_nil)))))) (Nat.le_of_ble_eq_true rfl)) ?_
            rw [b__law_due_numbers_0]
            refine s_ret (pv_bin (ph_val rfl rr_tup) (ph_of nofun (pv_tup (pl_cons (pv_bin (ph_val rfl rr_int) (ph_val rfl rr_int) (bop_div_ok (by omega) ⟨by omega, by omega⟩)) (pl_cons (pv_v rfl) (pl_cons (pv_blt1 (ph_own rfl) list_tup) (pl_cons (pv_v rfl) pl_nil)))) (Nat.le_of_ble_eq_true rfl)) rr_tup) rfl) ?_
            rw [List.length_map]
            exact ⟨rfl, rfl⟩
          · intro k hk
            show D.int _ = D.int _
            have e6 : (1 + (k : Int) - 1).toNat = k := by omega
            rw [e6, front_div hm (by omega)]
      · intro k _
        show D.int _ = D.int _
        have e6 : (1 + (k : Int) - 1).toNat = k := by omega
        have e7 := Int.emod_nonneg n (show m ≠ 0 by omega)
        rw [e6]
        by_cases h : k = (n % m).toNat
        · rw [if_pos h, if_pos (by omega)]
        · rw [if_neg h, if_neg (by omega)]
end
end Vm
namespace Vm
open PySem
def b__law_told_numbers_0 : Sm := .cons (.ret (.bin .add (.v 3) (.tup (.cons (.meth "closings" (.v 0) (.cons (.v 1) .nil)) (.cons (.meth "last_weekday" (.v 0) (.cons (.v 1) .nil)) (.cons (.meth "due_places" (.v 0) (.cons (.v 1) .nil)) (.cons (.meth "begun" (.v 0) (.cons (.v 1) .nil)) .nil))))))) .nil
def b__law_told_numbers_1 : Sm := .cons (.asg (.nm 3) (.tup (.cons (.fld (.v 0) "period") (.cons (.fld (.v 0) "quota") (.cons (.fld (.v 0) "firsts") (.cons (.fld (.v 0) "size") (.cons (.fld (.v 0) "places") (.cons (.meth "weekday" (.v 0) (.cons (.v 2) .nil)) .nil)))))))) b__law_told_numbers_0
def f__law_told_numbers : Fn := ⟨3, 4, b__law_told_numbers_1, none⟩
structure HasAsk (A : Api) : Prop where
  g1 : ∀ m q fs, gate A "weekday" (.d (.obj "Depot" (depF m q fs))) = some "Depot"
  c1 : ∃ B, HasDep B ∧ ∀ ds s, A.call ("Depot", "weekday") ds s = f_Depot_weekday.run B ds s
  g2 : ∀ m q fs, gate A "closings" (.d (.obj "Depot" (depF m q fs))) = some "Depot"
  c2 : ∃ B, HasDep B ∧ HasDays B ∧ ∀ ds s, A.call ("Depot", "closings") ds s = f_Depot_closings.run B ds s
  g3 : ∀ m q fs, gate A "last_weekday" (.d (.obj "Depot" (depF m q fs))) = some "Depot"
  c3 : ∃ B, HasDep B ∧ HasDays B ∧ ∀ ds s, A.call ("Depot", "last_weekday") ds s = f_Depot_last_weekday.run B ds s
  g4 : ∀ m q fs, gate A "due_places" (.d (.obj "Depot" (depF m q fs))) = some "Depot"
  c4 : ∃ B, HasDep B ∧ HasDays B ∧ HasPlaces B ∧ ∀ ds s, A.call ("Depot", "due_places") ds s = f_Depot_due_places.run B ds s
  g5 : ∀ m q fs, gate A "begun" (.d (.obj "Depot" (depF m q fs))) = some "Depot"
  c5 : ∃ B, HasDep B ∧ HasDays B ∧ HasPlaces B ∧ ∀ ds s, A.call ("Depot", "begun") ds s = f_Depot_begun.run B ds s
theorem sum_small : ∀ sp : List Int, (∀ x ∈ sp, -12 ≤ x ∧ x ≤ 12) → -12 * (sp.length : Int) ≤ sp.sum ∧ sp.sum ≤ 12 * (sp.length : Int)
  | [], _ => by simp
  | x :: sp, h => by
    have h1 := sum_small sp fun y hy => h y (List.mem_cons_of_mem _ hy)
    have h2 := h x (List.mem_cons_self ..)
    rw [List.sum_cons, List.length_cons]
    omega
section
variable {A : Api} {S : Store} {m q : Int} {fs : List Int}
theorem fld_at {v : Vw} {f : Str} {d : D} {e : Env} {s : Store} (h : (fldV A v f).wp e s fun x e' s' => x = d ∧ e' = e ∧ s' = s) : fldV A v f e s = .ok d e s := wp_eq h
theorem told_numbers_spec (h : HasDep A) (hs : HasSize A) (hp : HasPlaces A) (k : HasAsk A) (hm : 1 ≤ m) (hm2 : m ≤ 8) (q1 : 1 ≤ q) (q2 : q ≤ 12) (l2 : fs.length ≤ 12) {n st a : Int} (h0 : 0 ≤ n) (h1 : n ≤ 1000000000000000000000000000000) (hst : 1 ≤ st) (ha : (subAt0 q (cn fs m))[(n % m).toNat]? = some a) :
    (f__law_told_numbers.run A [dep m q fs, .int n, .int st] S).wp fun d s' => d = dueT m q fs n st a ∧ s' = S := by
  refine run_wp rfl rfl ?_
  show (ex A b__law_told_numbers_1).wp [.val (.obj "Depot" (depF m q fs)), .val (.int n), .val (.int st), .emp] S _
  obtain ⟨B1, b1, hB1⟩ := k.c1
  obtain ⟨B2, b2, b3, hB2⟩ := k.c2
  obtain ⟨B3, b4, b5, hB3⟩ := k.c3
  obtain ⟨B4, b6, b7, b8, hB4⟩ := k.c4
  obtain ⟨B5, b9, b10, b11, hB5⟩ := k.c5
  rw [b__law_told_numbers_1]
  refine s_asg (pv_tup (pl_cons (pv_fld (ph_val rfl rr_obj) (fld_at ((fld_p h).mpr ⟨rfl, rfl, rfl⟩))) (pl_cons (pv_fld (ph_val rfl rr_obj) (fld_at ((fld_q h).mpr ⟨rfl, rfl, rfl⟩))) (pl_cons (pv_fld (ph_val rfl rr_obj) (fld_at ((fld_f h).mpr ⟨rfl, rfl, rfl⟩))) (pl_cons (pv_fld (ph_val rfl rr_obj) (fld_at (fld_size hs ⟨rfl, rfl, rfl⟩))) (pl_cons (pv_fld (ph_val rfl rr_obj) (fld_at (fld_places hp hm (by omega) ⟨rfl, rfl, rfl⟩))) (pl_cons (pv_meth (pv_v rfl) rr_obj (k.g1 m q fs) (pl_cons (pv_v rfl) pl_nil) ((hB1 _ _).trans (out_eq (weekday_spec b1 (by omega) hst)))) pl_nil)))))) (Nat.le_of_ble_eq_true rfl)) ?_
  rw [b__law_told_numbers_0]
  have hsm : Sm100 (subAt0 q (cn fs m)).sum := by
    have := sum_small _ (sp_small (m := m) q1 q2 l2)
    have e := cn_len (fs := fs) (m := m) (q := q)
    exact ⟨by omega, by omega⟩
  have e4 : A.call ("Depot", "due_places") [dep m q fs, .int n] S = .ok (.tup (((subAt0 q (cn fs m)).set (n % m).toNat (a + q)).map .int)) S := by
    rw [hB4]
    refine out_eq (cwp_mono (due_spec b6 b7 b8 hm (by omega) h0 h1) fun d s' hd => ?_)
    obtain ⟨⟨c, hc, rfl⟩, rfl⟩ := hd
    rw [ha] at hc
    cases hc
    exact ⟨rfl, rfl⟩
  refine s_ret (pv_bin (ph_val rfl rr_tup) (ph_of nofun (pv_tup (pl_cons (pv_meth (pv_v rfl) rr_obj (k.g2 m q fs) (pl_cons (pv_v rfl) pl_nil) ((hB2 _ _).trans (out_eq (closings_spec b2 b3 (by omega) (by omega) h0 h1)))) (pl_cons (pv_meth (pv_v rfl) rr_obj (k.g3 m q fs) (pl_cons (pv_v rfl) pl_nil) ((hB3 _ _).trans (out_eq (last_spec b4 b5 (by omega) h0 h1)))) (pl_cons (pv_meth (pv_v rfl) rr_obj (k.g4 m q fs) (pl_cons (pv_v rfl) pl_nil) e4) (pl_cons (pv_meth (pv_v rfl) rr_obj (k.g5 m q fs) (pl_cons (pv_v rfl) pl_nil) ((hB5 _ _).trans (out_eq (begun_spec b9 b10 b11 hm (by omega) h0 h1 hsm)))) pl_nil)))) (Nat.le_of_ble_eq_true rfl)) rr_tup) rfl) ?_
  exact ⟨rfl, rfl⟩
end
end Vm
namespace Vm
open PySem
def b_law_0 : Sm := .cons (.ex (.mut .append (.v 6) (.cons (.mk "Depot" (.cons (.ix (.ix (.v 2) (.v 7)) (.cst (.int (0)))) (.cons (.ix (.ix (.v 2) (.v 7)) (.cst (.int (1)))) (.cons (.ix (.v 5) (.v 7)) .nil)))) .nil))) .nil
def b_law_1 : Sm := .cons (.ex (.mut .append (.v 6) (.cons (.mk "Depot" (.cons (.ix (.ix (.v 2) (.v 7)) (.cst (.int (0)))) (.cons (.ix (.ix (.v 2) (.v 7)) (.cst (.int (1)))) (.cons (.blt .tuple (.cons (.ix (.v 5) (.v 7)) .nil)) .nil)))) .nil))) .nil
def b_law_2 : Sm := .cons (.ifs (.tval (.cmp .eq (.call "_law_take" (.cons (.v 1) (.cons (.cst (.int (2))) .nil))) (.cst (.int (0))))) b_law_0 b_law_1) .nil
def b_law_3 : Sm := .cons (.ret (.cst (.bl false))) .nil
def b_law_4 : Sm := .cons (.ex (.mut .append (.ix (.v 5) (.v 7)) (.cons (.cst (.int (1))) .nil))) .nil
def b_law_5 : Sm := .cons (.setI (.ix (.v 5) (.v 7)) (.cst (.int (0))) (.bin .add (.cst (.int (1))) (.bin .mod (.blt .int (.cons (.ix (.ix (.v 5) (.v 7)) (.cst (.int (0)))) .nil)) (.cst (.int (8)))))) .nil
def b_law_6 : Sm := .cons (.ifs (.tval (.cmp .eq (.ix (.ix (.v 5) (.v 7)) (.cst (.int (0)))) (.cst (.int (1))))) b_law_4 .nil) b_law_5
def b_law_7 : Sm := .cons (.ifs (.tnot (.tval (.call "_law_same" (.cons (.call "_law_told_numbers" (.cons (.ix (.v 6) (.v 7)) (.cons (.v 9) (.cons (.v 10) .nil)))) (.cons (.v 11) .nil))))) b_law_3 .nil) b_law_6
def b_law_8 : Sm := .cons (.asg (.nm 11) (.call "_law_due_numbers" (.cons (.ix (.v 2) (.v 7)) (.cons (.v 9) (.cons (.v 10) .nil))))) b_law_7
def b_law_9 : Sm := .cons (.asg (.nm 10) (.ix (.v 4) (.ix (.v 8) (.cst (.int (1)))))) b_law_8
def b_law_10 : Sm := .cons (.asg (.nm 9) (.ix (.v 3) (.ix (.v 8) (.cst (.int (1)))))) b_law_9
def b_law_11 : Sm := .cons (.asg (.nm 7) (.ix (.v 8) (.cst (.int (0))))) b_law_10
def b_law_12 : Sm := .cons (.ret (.andv (.call "_law_same" (.cons (.cst (.int (8))) (.cons (.cst (.int (8))) .nil))) (.call "_law_same" (.cons (.cst (.int (12))) (.cons (.cst (.int (12))) .nil))))) .nil
def b_law_13 : Sm := .cons (.for_ (.nm 8) (.iseq (.lst (.cons (.tup (.cons (.cst (.int (0))) (.cons (.cst (.int (0))) .nil))) (.cons (.tup (.cons (.cst (.int (1))) (.cons (.cst (.int (0))) .nil))) (.cons (.tup (.cons (.cst (.int (0))) (.cons (.cst (.int (1))) .nil))) (.cons (.tup (.cons (.cst (.int (1))) (.cons (.cst (.int (1))) .nil))) (.cons (.tup (.cons (.cst (.int (0))) (.cons (.cst (.int (0))) .nil))) (.cons (.tup (.cons (.cst (.int (1))) (.cons (.cst (.int (0))) .nil))) .nil)))))))) b_law_11) b_law_12
def b_law_14 : Sm := .cons (.for_ (.nm 7) (.irng1 (.cst (.int (2)))) b_law_2) b_law_13
def b_law_15 : Sm := .cons (.own 6 (.lst .nil)) b_law_14
def b_law_16 : Sm := .cons (.own 5 (.lst (.cons (.cell (.blt .list (.cons (.ix (.ix (.v 2) (.cst (.int (0)))) (.cst (.int (2)))) .nil))) (.cons (.cell (.blt .list (.cons (.ix (.ix (.v 2) (.cst (.int (1)))) (.cst (.int (2)))) .nil))) .nil)))) b_law_15
def b_law_17 : Sm := .cons (.setI (.v 4) (.cst (.int (1))) (.bin .add (.ix (.v 4) (.cst (.int (1)))) (.bin .mod (.blt .int (.cons (.ix (.v 3) (.cst (.int (1)))) .nil)) (.cst (.int (840)))))) b_law_16
def b_law_18 : Sm := .cons (.own 4 (.lst (.cons (.bin .add (.cst (.int (1))) (.call "_law_great" (.cons (.v 1) (.cons (.bin .add (.bin .pow (.cst (.int (10))) (.cst (.int (30)))) (.cst (.int (7)))) .nil)))) (.cons (.bin .mul (.bin .add (.cst (.int (1))) (.call "_law_great" (.cons (.v 1) (.cons (.bin .add (.bin .pow (.cst (.int (10))) (.cst (.int (30)))) (.cst (.int (7)))) .nil)))) (.bin .pow (.cst (.int (10))) (.cst (.int (12))))) .nil)))) b_law_17
def b_law_19 : Sm := .cons (.own 3 (.lst (.cons (.call "_law_great" (.cons (.v 1) (.cons (.bin .pow (.cst (.int (10))) (.cst (.int (30)))) .nil))) (.cons (.call "_law_great" (.cons (.v 1) (.cons (.bin .pow (.cst (.int (10))) (.cst (.int (30)))) .nil))) .nil)))) b_law_18
def b_law_20 : Sm := .cons (.own 2 (.lst (.cons (.call "_law_depot" (.cons (.v 1) (.cons (.cst (.int (12))) (.cons (.cst (.int (8))) .nil)))) (.cons (.call "_law_depot" (.cons (.v 1) (.cons (.cst (.int (12))) (.cons (.cst (.int (8))) .nil)))) .nil)))) b_law_19
def b_law_21 : Sm := .cons (.asg (.nm 1) (.call "_law_pool" (.cons (.v 0) .nil))) b_law_20
def f_law : Fn := ⟨1, 12, b_law_21, none⟩
section
variable {A : Api} {e : Env} {s : Store} {t o : Tm} {d : D} {i : Nat}
/-- a cell's list changed by a method -/
theorem s_mutD {m : Mt} {es : Tm} {r : Sm} {kk : Nat} {xs ds ys : List D} {u : D} {Q : Fl → Env → Store → Prop} (hv : ∀ i, o ≠ .v i) (ho : Pv A o e s (.ref kk)) (hk : s.getD kk none = some (.lst xs)) (he : Pl_ A es e s ds) (hx : m ≠ .extend) (hm : mtF m xs ds = some (u, ys))
    (q : (ex A r).wp e (s.set kk (some (.lst ys))) Q) : (ex A (.cons (.ex (.mut m o es)) r)).wp e s Q := by
  refine wp_cons.mpr (wp_ex.mpr (wp_mut.mpr ?_))
  refine (hw_of hv).mpr (wp_at ho ?_)
  refine wp_isLst.mpr ?_
  rw [wp_res]
  dsimp only
  refine wp_at (rr_ref hk) ⟨xs, rfl, ?_⟩
  refine wp_at he ?_
  rw [wp_mtArgs hx, wp_plOf]
  dsimp only
  rw [wp_getC]
  dsimp only
  rw [hk]
  refine ⟨xs, rfl, (u, ys), hm, ?_⟩
  rw [wp_setC]
  exact q
/-- an own list changed by a method -/
theorem s_mutO {m : Mt} {es : Tm} {r : Sm} {xs ds ys : List D} {u : D} {Q : Fl → Env → Store → Prop} (ho : e.getD i .emp = .own (.lst xs)) (he : Pl_ A es e s ds) (hx : m ≠ .extend) (hm : mtF m xs ds = some (u, ys))
    (q : (ex A r).wp (e.set i (.own (.lst ys))) s Q) : (ex A (.cons (.ex (.mut m (.v i) es)) r)).wp e s Q := by
  refine wp_cons.mpr (wp_ex.mpr (wp_mut.mpr ?_))
  rw [hw_v, ho]
  dsimp only
  refine wp_isLst.mpr ?_
  rw [wp_res]
  dsimp only
  rw [ho]
  refine ⟨xs, rfl, ?_⟩
  refine wp_at he ?_
  rw [wp_mtArgs hx, wp_plOf]
  dsimp only
  rw [ho]
  dsimp only
  rw [wp_getC]
  dsimp only
  rw [ho]
  refine ⟨xs, rfl, (u, ys), hm, ?_⟩
  rw [wp_setC]
  exact q
/-- an item of a cell's list stored -/
theorem s_setD {j : Tm} {r : Sm} {n : Int} {k kk : Nat} {xs : List D} {Q : Fl → Env → Store → Prop} (h : Pv A t e s d) (hv : ∀ i, o ≠ .v i) (ho : Pv A o e s (.ref kk)) (hk : s.getD kk none = some (.lst xs)) (hj : Pv A j e s (.int n)) (hn : L2.ixN xs.length n = some k)
    (q : (ex A r).wp e (s.set kk (some (.lst (xs.set k d)))) Q) : (ex A (.cons (.setI o j t) r)).wp e s Q := by
  refine wp_cons.mpr (wp_setI.mpr (wp_at h ?_))
  refine (hw_of hv).mpr (wp_at ho ?_)
  refine wp_at hj ?_
  rw [wp_plOf]
  dsimp only
  rw [wp_getC]
  dsimp only
  rw [hk]
  refine ⟨xs, n, k, rfl, rfl, hn, ?_⟩
  rw [wp_setC]
  exact q
end
structure HasDue (A : Api) : Prop where
  has : A.has ("", "_law_due_numbers") = true
  call : ∃ B, HasDay B ∧ ∀ ds s, A.call ("", "_law_due_numbers") ds s = f__law_due_numbers.run B ds s
structure HasTold (A : Api) : Prop where
  has : A.has ("", "_law_told_numbers") = true
  call : ∃ B, HasDep B ∧ HasSize B ∧ HasPlaces B ∧ HasAsk B ∧ ∀ ds s, A.call ("", "_law_told_numbers") ds s = f__law_told_numbers.run B ds s
/-- what _law_same gives of like values -/
def SameOk (A : Api) (x : D) : Prop := ∀ s, A.call ("", "_law_same") [x, x] s = .ok (.bl true) s
theorem append_ok {xs : List D} {y : D} (h : xs.length < 2 ^ 24) : mtF .append xs [y] = some (.non, xs ++ [y]) := by
  show (if xs.length < 2 ^ 24 then some _ else none) = _
  rw [if_pos h]
structure Depo (m q : Int) (fs : List Int) : Prop where
  m1 : 1 ≤ m
  m2 : m ≤ 8
  q1 : 1 ≤ q
  q2 : q ≤ 12
  l1 : 1 ≤ fs.length
  l2 : fs.length ≤ 12
theorem law_step {A : Api} {S : Store} {Q : Fl → Env → Store → Prop} {u v : D} {plans spans starts given deps : List D} {x7 x9 x10 x11 : Slot} {k t m q n st g : Int} {fs r : List Int} {kk : Nat} (hd : HasDue A) (ht : HasTold A) (hS : A.has ("", "_law_same") = true) (hs : ∀ m q fs n st a, m ≤ 8 → fs.length ≤ 12 → SameOk A (dueT m q fs n st a))
    (p : Depo m q fs) (h0 : 0 ≤ n) (h1 : n ≤ 1000000000000000000000000000000) (hst : 1 ≤ st) (e2 : ixV (.c (.lst plans)) k = some (plan m q fs)) (e3 : ixV (.c (.lst spans)) t = some (.int n)) (e4 : ixV (.c (.lst starts)) t = some (.int st)) (e5 : ixV (.c (.lst given)) k = some (.ref kk)) (e6 : ixV (.c (.lst deps)) k = some (dep m q fs))
    (hk : S.getD kk none = some (.lst ((g :: r).map .int))) (hkl : kk < S.length) (hr : r.length < 1000)
    (next : ∀ g' r' x7 x9 x10 x11, r'.length ≤ r.length + 1 → Q .next [.val u, .val v, .own (.lst plans), .own (.lst spans), .own (.lst starts), .own (.lst given), .own (.lst deps), x7, .val (.tup [.int k, .int t]), x9, x10, x11] (S.set kk (some (.lst ((g' :: r').map .int))))) :
    (ex A b_law_11).wp [.val u, .val v, .own (.lst plans), .own (.lst spans), .own (.lst starts), .own (.lst given), .own (.lst deps), x7, .val (.tup [.int k, .int t]), x9, x10, x11] S Q := by
  obtain ⟨B1, b1, hB1⟩ := hd.call
  obtain ⟨B2, b2, b3, b4, b5, hB2⟩ := ht.call
  obtain ⟨m1, m2, q1, q2, l1, l2⟩ := p
  have hl : (subAt0 q (cn fs m)).length = m.toNat := cn_len
  obtain ⟨a, ha⟩ : ∃ a, (subAt0 q (cn fs m))[(n % m).toNat]? = some a := by
    have r0 := Int.emod_nonneg n (show m ≠ 0 by omega)
    have r1 := Int.emod_lt_of_pos n (show 0 < m by omega)
    exact ⟨_, List.getElem?_eq_getElem (show (n % m).toNat < _ by omega)⟩
  rw [b_law_11]
  refine s_asg (pv_ix (ph_val rfl rr_tup) pv_cst it0) ?_
  rw [b_law_10]
  refine s_asg (pv_ix (ph_own rfl) (pv_ix (ph_val rfl rr_tup) pv_cst it1) e3) ?_
  rw [b_law_9]
  refine s_asg (pv_ix (ph_own rfl) (pv_ix (ph_val rfl rr_tup) pv_cst it1) e4) ?_
  rw [b_law_8]
  refine s_asg (pv_call hd.has (pl_cons (pv_ix (ph_own rfl) (pv_v rfl) e2) (pl_cons (pv_v rfl) (pl_cons (pv_v rfl) pl_nil))) ((hB1 _ _).trans (out_eq (due_numbers_spec b1 m1 m2 q1 q2 l2 h0 h1 ha)))) ?_
  rw [b_law_7]
  refine s_ifF (pt_not (p := true) (pt_val (pv_call hS (pl_cons (pv_call ht.has (pl_cons (pv_ix (ph_own rfl) (pv_v rfl) e6) (pl_cons (pv_v rfl) (pl_cons (pv_v rfl) pl_nil))) ((hB2 _ _).trans (out_eq (told_numbers_spec b2 b3 b4 b5 m1 m2 q1 q2 l2 h0 h1 hst ha)))) (pl_cons (pv_v rfl) pl_nil)) (hs _ _ _ _ _ _ m2 l2 _)))) ?_
  rw [b_law_6]
  refine s_if (pt_val (pv_cmp (ph_of nofun (pv_ix (ph_of nofun (pv_ix (ph_own rfl) (pv_v rfl) e5) (rr_ref hk)) pv_cst ic0) rr_int) (ph_of nofun pv_cst rr_int) cmp_eq_int)) (fun _ => ?_) fun _ => ?_
  · rw [b_law_4]
    refine s_mutD nofun (pv_ix (ph_own rfl) (pv_v rfl) e5) hk (pl_cons pv_cst pl_nil) nofun (append_ok (by simp; omega)) ?_
    refine wp_nil.mpr ?_
    dsimp only
    have hk2 : (S.set kk (some (.lst ((g :: r).map .int ++ [.int 1])))).getD kk none = some (.lst ((g :: (r ++ [1])).map .int)) := by
      rw [getD_set_same hkl]
      simp
    rw [b_law_5]
    refine s_setD (pv_bin (ph_of nofun pv_cst rr_int) (ph_of nofun (pv_bin (ph_of nofun (pv_blt1 (ph_of nofun (pv_ix (ph_of nofun (pv_ix (ph_own rfl) (pv_v rfl) e5) (rr_ref hk2)) pv_cst ic0) rr_int) int_i) rr_int) (ph_of nofun pv_cst rr_int) (bop_mod_ok (by decide))) rr_int) bop_add_int) nofun (pv_ix (ph_own rfl) (pv_v rfl) e5) hk2 pv_cst ixn0 ?_
    refine wp_nil.mpr ?_
    rw [List.set_set]
    exact next _ (r ++ [1]) _ _ _ _ (by simp)
  · refine wp_nil.mpr ?_
    dsimp only
    rw [b_law_5]
    refine s_setD (pv_bin (ph_of nofun pv_cst rr_int) (ph_of nofun (pv_bin (ph_of nofun (pv_blt1 (ph_of nofun (pv_ix (ph_of nofun (pv_ix (ph_own rfl) (pv_v rfl) e5) (rr_ref hk)) pv_cst ic0) rr_int) int_i) rr_int) (ph_of nofun pv_cst rr_int) (bop_mod_ok (by decide))) rr_int) bop_add_int) nofun (pv_ix (ph_own rfl) (pv_v rfl) e5) hk pv_cst ixn0 ?_
    refine wp_nil.mpr ?_
    exact next _ r _ _ _ _ (by omega)
end Vm
namespace Vm
open PySem
section
variable {A : Api} {e : Env} {s : Store} {a b : Tm} {d : D} {i : Nat} {QD : D → Env → Store → Prop}
theorem e_call {f : Str} {es : Tm} {ds : List D} (h : A.has ("", f) = true) (hp : Pl_ A es e s ds) (q : (A.call ("", f) ds s).wp fun d s => QD d e s) : (ev A (.call f es)).wp e s QD := wp_call.mpr ⟨h, wp_at hp q⟩
theorem e_mk {f : Str} {es : Tm} {ds : List D} (h : A.has (f, "__init__") = true) (hp : Pl_ A es e s ds) (q : (A.call (f, "__init__") ds s).wp fun d s => QD d e s) : (ev A (.mk f es)).wp e s QD := wp_mk.mpr ⟨h, wp_at hp q⟩
theorem e_binC {o : Bop} {n : Int} (hv : ∀ i, b ≠ .v i) (h : (ev A b).wp e s fun d e s => ∃ m r, d = .int m ∧ bop o (.d (.int n)) (.d (.int m)) = some r ∧ QD r e s) : (ev A (.bin o (.cst (.int n)) b)).wp e s QD := by
  refine wp_bin.mpr (hw_cst.mpr ((hw_of hv).mpr (wp_mono h ?_)))
  rintro d e s ⟨m, r, rfl, hr, q⟩
  exact wp_at rr_int (wp_at rr_int ⟨r, hr, q⟩)
theorem e_binL {o : Bop} (hv : ∀ i, a ≠ .v i) (hb : ∀ i, b ≠ .v i) (h : (ev A a).wp e s fun d e s => ∃ m n r, d = .int m ∧ Pv A b e s (.int n) ∧ bop o (.d (.int m)) (.d (.int n)) = some r ∧ QD r e s) : (ev A (.bin o a b)).wp e s QD := by
  refine wp_bin.mpr ((hw_of hv).mpr (wp_mono h ?_))
  rintro d e s ⟨m, n, r, rfl, hp, hr, q⟩
  exact (hw_of hb).mpr (wp_at hp (wp_at rr_int (wp_at rr_int ⟨r, hr, q⟩)))
theorem t_cmpL {o : Cop} (hv : ∀ i, a ≠ .v i) (hb : ∀ i, b ≠ .v i) {QB : Bool → Env → Store → Prop} (h : (ev A a).wp e s fun d e s => ∃ m n r, d = .int m ∧ Pv A b e s (.int n) ∧ cmpV o (.d (.int m)) (.d (.int n)) = some r ∧ QB r e s) : (et A (.tval (.cmp o a b))).wp e s QB := by
  refine wp_tval.mpr (wp_cmp.mpr ((hw_of hv).mpr (wp_mono h ?_)))
  rintro d e s ⟨m, n, r, rfl, hp, hr, q⟩
  exact (hw_of hb).mpr (wp_at hp (wp_at rr_int (wp_at rr_int ⟨r, hr, r, rfl, q⟩)))
end
structure HasGreat (A : Api) : Prop where
  has : A.has ("", "_law_great") = true
  call : ∃ B, Draws B ∧ ∀ ds s, A.call ("", "_law_great") ds s = f__law_great.run B ds s
structure HasDepotD (A : Api) : Prop where
  has : A.has ("", "_law_depot") = true
  call : ∃ B, Draws B ∧ ∀ ds s, A.call ("", "_law_depot") ds s = f__law_depot.run B ds s
structure HasPool (A : Api) : Prop where
  has : A.has ("", "_law_pool") = true
  call : ∃ B, ∀ ds s, A.call ("", "_law_pool") ds s = f__law_pool.run B ds s
structure HasInit (A : Api) : Prop where
  has : A.has ("Depot", "__init__") = true
  call : ∃ B, HasDep B ∧ HasMake B ∧ ∀ ds s, A.call ("Depot", "__init__") ds s = f_Depot___init__.run B ds s
theorem HasGreat.st {A : Api} (h : HasGreat A) {k : Nat} {S0 S : Store} {N m : Int} (p : PoolSt k N S0 S) (hN : N < 900000000) (h0 : 0 ≤ m) (hm : m < 1267650600228229401496703205375) :
    (A.call ("", "_law_great") [.ref k, .int m] S).wp fun d S' => ∃ n, d = .int n ∧ 0 ≤ n ∧ n ≤ m ∧ PoolSt k (N + 5) S0 S' := by
  obtain ⟨B, b, hB⟩ := h.call
  rw [hB]
  exact great_spec b p hN h0 hm
theorem HasDepotD.st {A : Api} (h : HasDepotD A) {k : Nat} {S0 S : Store} {N dr pe : Int} (p : PoolSt k N S0 S) (hN : N < 800000000) (h1 : 1 ≤ dr) (h2 : dr < 100) (h3 : 1 ≤ pe) (h4 : pe < 100) :
    (A.call ("", "_law_depot") [.ref k, .int dr, .int pe] S).wp fun d S' => ∃ (m q : Int) (fs : List Int), d = plan m q fs ∧ PlanOk dr pe m q fs ∧ PoolSt k (N + 300) S0 S' := by
  obtain ⟨B, b, hB⟩ := h.call
  rw [hB]
  exact depot_spec b p hN h1 h2 h3 h4
/-- one depot made, and appended -/
theorem law_made {A : Api} {S0 S : Store} {N : Int} {Q : Fl → Env → Store → Prop} {u : D} {plans given deps : List D} {x3 x4 x8 x9 x10 x11 : Slot} {k m q : Int} {fs : List Int} {kk : Nat} (hd : Draws A) (hi : HasInit A) (p : PlanOk 12 8 m q fs) (ps : PoolSt 0 N S0 S) (hN : N < 900000000)
    (e2 : ixV (.c (.lst plans)) k = some (plan m q fs)) (e5 : ixV (.c (.lst given)) k = some (.ref kk)) (hk : S0.getD kk none = some (.lst (fs.map .int))) (hk0 : kk ≠ 0) (hl : deps.length < 1000)
    (next : ∀ S', PoolSt 0 (N + 1) S0 S' → Q .next [.val u, .val (.ref 0), .own (.lst plans), x3, x4, .own (.lst given), .own (.lst (deps ++ [dep m q fs])), .val (.int k), x8, x9, x10, x11] S') :
    (ex A b_law_2).wp [.val u, .val (.ref 0), .own (.lst plans), x3, x4, .own (.lst given), .own (.lst deps), .val (.int k), x8, x9, x10, x11] S Q := by
  obtain ⟨B, b1, b2, hB⟩ := hi.call
  have hcl := List.count_le_length (a := (1 : Int)) (l := fs)
  have p2 := p.q2
  have p1 := p.q1
  have p3 := p.n2
  have l1 : 1 ≤ fs.length := by omega
  have l2 : fs.length ≤ 12 := by omega
  have hS : ∀ S', PoolSt 0 (N + 1) S0 S' → S'.getD kk none = some (.lst (fs.map .int)) := by
    rintro S' ⟨a, b, c, i, xs, rfl, _, _⟩
    rw [List.getD_eq_getElem?_getD, List.getElem?_set_ne (Ne.symm hk0), ← List.getD_eq_getElem?_getD]
    exact hk
  rw [b_law_2]
  refine wp_cons.mpr (wp_ifs2.mpr (t_cmpL (by nofun) (by nofun) (e_call hd.has (pl_cons (pv_v rfl) (pl_cons pv_cst pl_nil)) (cwp_mono (hd.st ps (by omega) (by decide) ⟨by decide, by decide⟩) ?_))))
  rintro d S' ⟨n, rfl, n0, n1, ps'⟩
  have hk' := hS S' ps'
  refine ⟨n, 0, _, rfl, pv_cst, cmp_eq_int, fun _ => ?_, fun _ => ?_⟩
  · rw [b_law_0]
    refine s_mutO rfl (pl_cons (pv_mk hi.has (pl_cons (pv_ix (ph_of nofun (pv_ix (ph_own rfl) (pv_v rfl) e2) rr_lst) pv_cst il0) (pl_cons (pv_ix (ph_of nofun (pv_ix (ph_own rfl) (pv_v rfl) e2) rr_lst) pv_cst il1) (pl_cons (pv_ix (ph_own rfl) (pv_v rfl) e5) pl_nil))) ((hB _ _).trans (out_eq (init_spec (fs := fs) b1 b2 (.inr ⟨kk, rfl, hk'⟩) p.m1 p.m2 p.q1 (by omega) l1 l2 p.f p.q2)))) pl_nil) nofun (append_ok (by omega)) ?_
    exact wp_nil.mpr (wp_nil.mpr (next S' ps'))
  · rw [b_law_1]
    refine s_mutO rfl (pl_cons (pv_mk hi.has (pl_cons (pv_ix (ph_of nofun (pv_ix (ph_own rfl) (pv_v rfl) e2) rr_lst) pv_cst il0) (pl_cons (pv_ix (ph_of nofun (pv_ix (ph_own rfl) (pv_v rfl) e2) rr_lst) pv_cst il1) (pl_cons (pv_blt1 (ph_of nofun (pv_ix (ph_own rfl) (pv_v rfl) e5) (rr_ref hk')) list_tup) pl_nil))) ((hB _ _).trans (out_eq (init_spec (fs := fs) b1 b2 (.inl rfl) p.m1 p.m2 p.q1 (by omega) l1 l2 p.f p.q2)))) pl_nil) nofun (append_ok (by omega)) ?_
    exact wp_nil.mpr (wp_nil.mpr (next S' ps'))
end Vm
namespace Vm
open PySem
theorem pow30 : bop .pow (.d (.int 10)) (.d (.int 30)) = some (.int 1000000000000000000000000000000) := rfl
theorem pow12 : bop .pow (.d (.int 10)) (.d (.int 12)) = some (.int 1000000000000) := rfl
theorem depo_of {m q : Int} {fs : List Int} (p : PlanOk 12 8 m q fs) : Depo m q fs := by
  have hcl := List.count_le_length (a := (1 : Int)) (l := fs)
  obtain ⟨a, b, c, d, f, g⟩ := p
  exact ⟨a, b, c, by omega, by omega, by omega⟩
theorem list_lst {xs : List D} : btF .list [.d (.lst xs)] = some (.lst xs) := rfl
theorem law_spec {A : Api} {ns : List Int} (hp : HasPool A) (hd : HasDepotD A) (hg : HasGreat A) (ht : Draws A) (hi : HasInit A) (hdue : HasDue A) (htold : HasTold A) (hS : A.has ("", "_law_same") = true) (hs : ∀ m q fs n st a, m ≤ 8 → fs.length ≤ 12 → SameOk A (dueT m q fs n st a)) (hsi : ∀ n, SameOk A (.int n)) :
    (f_law.run A [.scr ns] []).wp fun d S => d = .bl true := by
  refine run_wp rfl rfl ?_
  show (ex A b_law_21).wp [.val (.scr ns), .emp, .emp, .emp, .emp, .emp, .emp, .emp, .emp, .emp, .emp, .emp] [] _
  rw [b_law_21]
  refine wp_cons.mpr (wp_asg.mpr (e_call hp.has (pl_cons (pv_v rfl) pl_nil) ?_))
  obtain ⟨B, hB⟩ := hp.call
  rw [hB]
  refine cwp_mono pool_spec ?_
  rintro d S0 ⟨rfl, rfl⟩
  have ps0 : PoolSt 0 0 [none] ([] ++ [some (pool 0 1 0 0 ns)]) := pool_st (S0 := [])
  generalize [] ++ [some (pool 0 1 0 0 ns)] = S0 at ps0 ⊢
  show (ex A b_law_20).wp [.val (.scr ns), .val (.ref 0), .emp, .emp, .emp, .emp, .emp, .emp, .emp, .emp, .emp, .emp] S0 _
  rw [b_law_20]
  refine wp_cons.mpr (wp_own.mpr (wp_lst.mpr (wp_el_cons.mpr (e_call hd.has (pl_cons (pv_v rfl) (pl_cons pv_cst (pl_cons pv_cst pl_nil))) (cwp_mono (hd.st ps0 (by decide) (by decide) (by decide) (by decide) (by decide)) ?_)))))
  rintro d S1 ⟨m0, q0, f0, rfl, p0, ps1⟩
  refine wp_el_cons.mpr (e_call hd.has (pl_cons (pv_v rfl) (pl_cons pv_cst (pl_cons pv_cst pl_nil))) (cwp_mono (hd.st ps1 (by decide) (by decide) (by decide) (by decide) (by decide)) ?_))
  rintro d S2 ⟨m1, q1, f1, rfl, p1, ps2⟩
  refine wp_el_nil.mpr ⟨Nat.le_of_ble_eq_true rfl, _, rfl, ?_⟩
  dsimp only
  rw [b_law_19]
  refine wp_cons.mpr (wp_own.mpr (wp_lst.mpr (wp_el_cons.mpr (e_call hg.has (pl_cons (pv_v rfl) (pl_cons (pv_bin (ph_of nofun pv_cst rr_int) (ph_of nofun pv_cst rr_int) pow30) pl_nil)) (cwp_mono (hg.st ps2 (by decide) (by decide) (by decide)) ?_)))))
  rintro d S3 ⟨n0, rfl, n00, n01, ps3⟩
  refine wp_el_cons.mpr (e_call hg.has (pl_cons (pv_v rfl) (pl_cons (pv_bin (ph_of nofun pv_cst rr_int) (ph_of nofun pv_cst rr_int) pow30) pl_nil)) (cwp_mono (hg.st ps3 (by decide) (by decide) (by decide)) ?_))
  rintro d S4 ⟨n1, rfl, n10, n11, ps4⟩
  refine wp_el_nil.mpr ⟨Nat.le_of_ble_eq_true rfl, _, rfl, ?_⟩
  dsimp only
  rw [b_law_18]
  refine wp_cons.mpr (wp_own.mpr (wp_lst.mpr (wp_el_cons.mpr (e_binC nofun (e_call hg.has (pl_cons (pv_v rfl) (pl_cons (pv_bin (ph_of nofun (pv_bin (ph_of nofun pv_cst rr_int) (ph_of nofun pv_cst rr_int) pow30) rr_int) (ph_of nofun pv_cst rr_int) bop_add_int) pl_nil)) (cwp_mono (hg.st ps4 (by decide) (by decide) (by decide)) ?_))))))
  rintro d S5 ⟨t0, rfl, t00, t01, ps5⟩
  refine ⟨_, _, rfl, bop_add_int, ?_⟩
  refine wp_el_cons.mpr (e_binL nofun nofun (e_binC nofun (e_call hg.has (pl_cons (pv_v rfl) (pl_cons (pv_bin (ph_of nofun (pv_bin (ph_of nofun pv_cst rr_int) (ph_of nofun pv_cst rr_int) pow30) rr_int) (ph_of nofun pv_cst rr_int) bop_add_int) pl_nil)) (cwp_mono (hg.st ps5 (by decide) (by decide) (by decide)) ?_))))
  rintro d S6 ⟨t1, rfl, t10, t11, ps6⟩
  refine ⟨_, _, rfl, bop_add_int, _, _, _, rfl, pv_bin (ph_of nofun pv_cst rr_int) (ph_of nofun pv_cst rr_int) pow12, bop_mul_ok ⟨by omega, by omega⟩ ⟨by decide, by decide⟩, ?_⟩
  refine wp_el_nil.mpr ⟨Nat.le_of_ble_eq_true rfl, _, rfl, ?_⟩
  dsimp only
  rw [b_law_17]
  refine s_setO (pv_bin (ph_of nofun (pv_ix (ph_own rfl) pv_cst ic1) rr_int) (ph_of nofun (pv_bin (ph_of nofun (pv_blt1 (ph_of nofun (pv_ix (ph_own rfl) pv_cst ic1) rr_int) int_i) rr_int) (ph_of nofun pv_cst rr_int) (bop_mod_ok (by decide))) rr_int) bop_add_int) rfl pv_cst ixn1 ?_
  have hst : 1 ≤ (1 + t1) * 1000000000000 + n1 % 840 := by
    have := Int.emod_nonneg n1 (show (840 : Int) ≠ 0 by decide)
    omega
  show (ex A b_law_16).wp [.val (.scr ns), .val (.ref 0), .own (.lst [plan m0 q0 f0, plan m1 q1 f1]), .own (.lst [.int n0, .int n1]), .own (.lst [.int (1 + t0), .int ((1 + t1) * 1000000000000 + n1 % 840)]), .emp, .emp, .emp, .emp, .emp, .emp, .emp] S6 _
  generalize (1 + t1) * 1000000000000 + n1 % 840 = u1 at hst ⊢
  have hst0 : 1 ≤ 1 + t0 := by omega
  generalize 1 + t0 = u0 at hst0 ⊢
  obtain ⟨a, b, c, i, xs, rfl, pok, _⟩ := ps6
  rw [b_law_16]
  refine wp_cons.mpr (wp_own.mpr (wp_lst.mpr (wp_el_cons.mpr (wp_cell.mpr (wp_at (pv_blt1 (ph_of nofun (pv_ix (ph_of nofun (pv_ix (ph_own rfl) pv_cst ic0) rr_lst) pv_cst il2) rr_lst) list_lst) ⟨_, rfl, ?_⟩)))))
  refine wp_el_cons.mpr (wp_cell.mpr (wp_at (pv_blt1 (ph_of nofun (pv_ix (ph_of nofun (pv_ix (ph_own rfl) pv_cst ic1) rr_lst) pv_cst il2) rr_lst) list_lst) ⟨_, rfl, ?_⟩))
  refine wp_el_nil.mpr ⟨Nat.le_of_ble_eq_true rfl, _, rfl, ?_⟩
  dsimp only
  have ps7 : PoolSt 0 620 [none, some (.lst (f0.map .int)), some (.lst (f1.map .int))] (([none].set 0 (some (pool a b c i xs)) ++ [some (.lst (f0.map .int))]) ++ [some (.lst (f1.map .int))]) := ⟨a, b, c, i, xs, rfl, pok, Nat.zero_lt_succ _⟩
  show (ex A b_law_15).wp [.val (.scr ns), .val (.ref 0), .own (.lst [plan m0 q0 f0, plan m1 q1 f1]), .own (.lst [.int n0, .int n1]), .own (.lst [.int u0, .int u1]), .own (.lst [.ref 1, .ref 2]), .emp, .emp, .emp, .emp, .emp, .emp] _ _
  generalize (([none].set 0 (some (pool a b c i xs)) ++ [some (.lst (f0.map .int))]) ++ [some (.lst (f1.map .int))] : Store) = S7 at ps7 ⊢
  rw [b_law_15]
  refine s_own (pv_lst pl_nil (by decide)) ?_
  rw [b_law_14]
  refine wp_cons.mpr (for_fix (xs := irange 0 2) (fun j e s => ∃ x7, e = [.val (.scr ns), .val (.ref 0), .own (.lst [plan m0 q0 f0, plan m1 q1 f1]), .own (.lst [.int n0, .int n1]), .own (.lst [.int u0, .int u1]), .own (.lst [.ref 1, .ref 2]), .own (.lst ([dep m0 q0 f0, dep m1 q1 f1].take j)), x7, .emp, .emp, .emp, .emp] ∧ PoolSt 0 (620 + j) [none, some (.lst (f0.map .int)), some (.lst (f1.map .int))] s) ?_ ?_ ?_)
  · exact wp_irng1.mpr (wp_at pv_cst ⟨2, rfl, rfl, rfl, _, rfl, ps7⟩)
  · rintro j x e s hx ⟨x7, rfl, ps⟩
    obtain ⟨rfl, hj⟩ := irange_get hx
    rw [wp_put_nm]
    match j, hj with
    | 0, _ => exact law_made (k := 0) (kk := 1) ht hi p0 ps (by decide) ic0 ic0 rfl (by decide) (by simp) fun S' p => ⟨_, rfl, p⟩
    | 1, _ => exact law_made (k := 1) (kk := 2) ht hi p1 ps (by decide) ic1 ic1 rfl (by decide) (by simp) fun S' p => ⟨_, rfl, p⟩
    | n + 2, h => omega
  · rintro e s ⟨x7, rfl, ps⟩
    dsimp only
    rw [b_law_13]
    refine wp_cons.mpr (for_fix (xs := [.tup [.int 0, .int 0], .tup [.int 1, .int 0], .tup [.int 0, .int 1], .tup [.int 1, .int 1], .tup [.int 0, .int 0], .tup [.int 1, .int 0]]) (fun j e s => ∃ (x7 x8 x9 x10 x11 : Slot) (p : Option Cell) (g0 : Int) (r0 : List Int) (g1 : Int) (r1 : List Int), e = [.val (.scr ns), .val (.ref 0), .own (.lst [plan m0 q0 f0, plan m1 q1 f1]), .own (.lst [.int n0, .int n1]), .own (.lst [.int u0, .int u1]), .own (.lst [.ref 1, .ref 2]), .own (.lst [dep m0 q0 f0, dep m1 q1 f1]), x7, x8, x9, x10, x11] ∧ s = [p, some (.lst ((g0 :: r0).map .int)), some (.lst ((g1 :: r1).map .int))] ∧ r0.length ≤ 12 + j ∧ r1.length ≤ 12 + j) ?_ ?_ ?_)
    · obtain ⟨a, b, c, i, xs, rfl, pok, _⟩ := ps
      have d0 := depo_of p0
      have d1 := depo_of p1
      obtain ⟨g0, r0, rfl⟩ : ∃ g r, f0 = g :: r := by
        cases f0 with
        | nil => exact absurd d0.l1 (by decide)
        | cons g r => exact ⟨g, r, rfl⟩
      obtain ⟨g1, r1, rfl⟩ : ∃ g r, f1 = g :: r := by
        cases f1 with
        | nil => exact absurd d1.l1 (by decide)
        | cons g r => exact ⟨g, r, rfl⟩
      have l0 := d0.l2
      have l1 := d1.l2
      rw [List.length_cons] at l0 l1
      refine wp_iseq.mpr (wp_at (pv_lst (pl_cons (pv_tup (pl_cons pv_cst (pl_cons pv_cst pl_nil)) (Nat.le_of_ble_eq_true rfl)) (pl_cons (pv_tup (pl_cons pv_cst (pl_cons pv_cst pl_nil)) (Nat.le_of_ble_eq_true rfl)) (pl_cons (pv_tup (pl_cons pv_cst (pl_cons pv_cst pl_nil)) (Nat.le_of_ble_eq_true rfl)) (pl_cons (pv_tup (pl_cons pv_cst (pl_cons pv_cst pl_nil)) (Nat.le_of_ble_eq_true rfl)) (pl_cons (pv_tup (pl_cons pv_cst (pl_cons pv_cst pl_nil)) (Nat.le_of_ble_eq_true rfl)) (pl_cons (pv_tup (pl_cons pv_cst (pl_cons pv_cst pl_nil)) (Nat.le_of_ble_eq_true rfl)) pl_nil)))))) (Nat.le_of_ble_eq_true rfl)) ?_)
      exact ⟨rfl, _, _, _, _, _, _, g0, r0, g1, r1, rfl, rfl, by omega, by omega⟩
    · rintro j x e s hx ⟨x7, x8, x9, x10, x11, p, g0, r0, g1, r1, rfl, rfl, h0, h1⟩
      rw [wp_put_nm]
      match j, hx with
      | 0, hx =>
        cases hx
        exact law_step (k := 0) (t := 0) (kk := 1) hdue htold hS hs (depo_of p0) n00 n01 hst0 ic0 ic0 ic0 ic0 ic0 rfl (Nat.le_of_ble_eq_true rfl) (by omega) fun g' r' y7 y9 y10 y11 hl => ⟨_, _, _, _, _, p, g', r', g1, r1, rfl, rfl, by omega, by omega⟩
      | 1, hx =>
        cases hx
        exact law_step (k := 1) (t := 0) (kk := 2) hdue htold hS hs (depo_of p1) n00 n01 hst0 ic1 ic0 ic0 ic1 ic1 rfl (Nat.le_of_ble_eq_true rfl) (by omega) fun g' r' y7 y9 y10 y11 hl => ⟨_, _, _, _, _, p, g0, r0, g', r', rfl, rfl, by omega, by omega⟩
      | 2, hx =>
        cases hx
        exact law_step (k := 0) (t := 1) (kk := 1) hdue htold hS hs (depo_of p0) n10 n11 hst ic0 ic1 ic1 ic0 ic0 rfl (Nat.le_of_ble_eq_true rfl) (by omega) fun g' r' y7 y9 y10 y11 hl => ⟨_, _, _, _, _, p, g', r', g1, r1, rfl, rfl, by omega, by omega⟩
      | 3, hx =>
        cases hx
        exact law_step (k := 1) (t := 1) (kk := 2) hdue htold hS hs (depo_of p1) n10 n11 hst ic1 ic1 ic1 ic1 ic1 rfl (Nat.le_of_ble_eq_true rfl) (by omega) fun g' r' y7 y9 y10 y11 hl => ⟨_, _, _, _, _, p, g0, r0, g', r', rfl, rfl, by omega, by omega⟩
      | 4, hx =>
        cases hx
        exact law_step (k := 0) (t := 0) (kk := 1) hdue htold hS hs (depo_of p0) n00 n01 hst0 ic0 ic0 ic0 ic0 ic0 rfl (Nat.le_of_ble_eq_true rfl) (by omega) fun g' r' y7 y9 y10 y11 hl => ⟨_, _, _, _, _, p, g', r', g1, r1, rfl, rfl, by omega, by omega⟩
      | 5, hx =>
        cases hx
        exact law_step (k := 1) (t := 0) (kk := 2) hdue htold hS hs (depo_of p1) n00 n01 hst0 ic1 ic0 ic0 ic1 ic1 rfl (Nat.le_of_ble_eq_true rfl) (by omega) fun g' r' y7 y9 y10 y11 hl => ⟨_, _, _, _, _, p, g0, r0, g', r', rfl, rfl, by omega, by omega⟩
      | n + 6, h => cases h
    · rintro e s ⟨x7, x8, x9, x10, x11, p, g0, r0, g1, r1, rfl, rfl, h0, h1⟩
      dsimp only
      rw [b_law_12]
      exact s_ret (pv_and (p := true) (pv_call hS (pl_cons pv_cst (pl_cons pv_cst pl_nil)) (hsi 8 _)) (fun _ => pv_call hS (pl_cons pv_cst (pl_cons pv_cst pl_nil)) (hsi 12 _)) nofun) rfl
end Vm
set_option maxHeartbeats 0
namespace L00
open PySem PySem.Spec PyProof.Rows L2 Vm
def T : Tab := tabOf PySem.Challenge.pw_outagain_k00_depot_numbers [(117, 11), (182, 13), (182, 32)]
abbrev X : Text := T.text 100
theorem t1 : X.fn ("", "_law_take") = some f__law_take := by kernel_rfl
theorem t2 : X.fn ("", "_law_great") = some f__law_great := by kernel_rfl
theorem t3 : X.fn ("", "_law_depot") = some f__law_depot := by kernel_rfl
theorem t4 : X.fn ("", "_law_pool") = some f__law_pool := by kernel_rfl
theorem t5 : X.fn ("", "_law_day") = some f__law_day := by kernel_rfl
theorem t6 : X.fn ("", "_law_number") = some f__law_number := by kernel_rfl
theorem t7 : X.fn ("", "_law_same") = some f__law_same := by kernel_rfl
theorem t8 : X.fn ("", "_law_due_numbers") = some f__law_due_numbers := by kernel_rfl
theorem t9 : X.fn ("", "_law_told_numbers") = some f__law_told_numbers := by kernel_rfl
theorem t10 : X.fn ("", "law") = some f_law := by kernel_rfl
theorem t11 : X.fn ("", "check_days") = some f_check_days := by kernel_rfl
theorem t12 : X.fn ("", "check_numbers") = some f_check_numbers := by kernel_rfl
theorem t13 : X.fn ("", "check_firsts") = some f_check_firsts := by kernel_rfl
theorem t14 : X.fn ("Depot", "__init__") = some f_Depot___init__ := by kernel_rfl
theorem t15 : X.fn ("Depot", "size") = some f_Depot_size := by kernel_rfl
theorem t16 : X.fn ("Depot", "places") = some f_Depot_places := by kernel_rfl
theorem t17 : X.fn ("Depot", "weekday") = some f_Depot_weekday := by kernel_rfl
theorem t18 : X.fn ("Depot", "closings") = some f_Depot_closings := by kernel_rfl
theorem t19 : X.fn ("Depot", "last_weekday") = some f_Depot_last_weekday := by kernel_rfl
theorem t20 : X.fn ("Depot", "due_places") = some f_Depot_due_places := by kernel_rfl
theorem t21 : X.fn ("Depot", "begun") = some f_Depot_begun := by kernel_rfl
theorem has_of {n : Nat} {k : Str × Str} {f : Fn} (h : X.fn k = some f) : (api X n).has k = true := by
  show (X.fn k).isSome = true
  rw [h]
  rfl
theorem run_of {n : Nat} {k : Str × Str} {f : Fn} (h : X.fn k = some f) (ds : List D) (s : Store) : (api X (n + 1)).call k ds s = f.run (api X n) ds s := congrFun (congrFun (callN_succ h) ds) s
theorem dep (n : Nat) : HasDep (api X n) := ⟨by kernel_rfl, by kernel_rfl, by kernel_rfl, by kernel_rfl, by kernel_rfl, by kernel_rfl⟩
theorem gate_of {n : Nat} {m : Str} {f : Fn} (h : X.fn ("Depot", m) = some f) (hp : X.prop "Depot" m = false) (hl : ∀ p q fs, (depF p q fs).lookup m = none) (hi : (m == ("__init__" : Str)) = false) (p q : Int) (fs : List Int) : gate (api X n) m (.d (.obj "Depot" (depF p q fs))) = some ("Depot" : Str) := by
  show (if ((api X n).has ("Depot", m) && ((depF p q fs).lookup m).isNone && !(api X n).prop "Depot" m && !(m == ("__init__" : Str))) = true then some ("Depot" : Str) else none) = some ("Depot" : Str)
  rw [if_pos]
  rw [has_of h, hl, hi, show (api X n).prop "Depot" m = false from hp]
  rfl
theorem days (n : Nat) : HasDays (api X (n + 1)) := ⟨has_of t11, _, run_of t11⟩
theorem places (n : Nat) : HasPlaces (api X (n + 1)) := ⟨by kernel_rfl, _, dep _, run_of t16⟩
theorem size (n : Nat) : HasSize (api X (n + 1)) := ⟨by kernel_rfl, _, dep _, run_of t15⟩
theorem ask (n : Nat) : HasAsk (api X (n + 2)) where
  g1 := gate_of t17 (by kernel_rfl) (fun _ _ _ => by kernel_rfl) (by kernel_rfl)
  c1 := ⟨_, dep _, run_of t17⟩
  g2 := gate_of t18 (by kernel_rfl) (fun _ _ _ => by kernel_rfl) (by kernel_rfl)
  c2 := ⟨_, dep _, days n, run_of t18⟩
  g3 := gate_of t19 (by kernel_rfl) (fun _ _ _ => by kernel_rfl) (by kernel_rfl)
  c3 := ⟨_, dep _, days n, run_of t19⟩
  g4 := gate_of t20 (by kernel_rfl) (fun _ _ _ => by kernel_rfl) (by kernel_rfl)
  c4 := ⟨_, dep _, days n, places n, run_of t20⟩
  g5 := gate_of t21 (by kernel_rfl) (fun _ _ _ => by kernel_rfl) (by kernel_rfl)
  c5 := ⟨_, dep _, days n, places n, run_of t21⟩
theorem same_i (n : Nat) (k : Int) : SameOk (api X (n + 2)) (.int k) := fun s => (run_of t7 _ _).trans (out_eq (same_int (has_of t6) ⟨_, run_of t6⟩))
theorem same_t (n : Nat) (ks : List Int) (h : ks.length < 100) : SameOk (api X (n + 3)) (.tup (ks.map .int)) := fun s => (run_of t7 _ _).trans (out_eq (same_tup (has_of t7) (by simp; omega) fun x hx => by
  obtain ⟨k, _, rfl⟩ := List.mem_map.mp hx
  exact ⟨_, _, same_i n k s, rfl, rfl⟩))
theorem same_d (n : Nat) (m q : Int) (fs : List Int) (a st b : Int) (h1 : fs.length ≤ 12) (h2 : m ≤ 8) : SameOk (api X (n + 4)) (dueT m q fs a st b) := fun s => (run_of t7 _ _).trans (out_eq (same_tup (has_of t7) (Nat.le_of_ble_eq_true rfl) fun x hx => by
  have hl : (subAt0 q (cn fs m)).length = m.toNat := cn_len
  have hi : ∀ k, (api X (n + 3)).call ("", "_law_same") [.int k, .int k] s = .ok (.bl true) s := fun k => same_i (n + 1) k s
  have ht : ∀ ks : List Int, ks.length < 100 → (api X (n + 3)).call ("", "_law_same") [.tup (ks.map .int), .tup (ks.map .int)] s = .ok (.bl true) s := fun ks h => same_t n ks h s
  simp only [List.mem_cons, List.not_mem_nil, or_false] at hx
  rcases hx with rfl | rfl | rfl | rfl | rfl | rfl | rfl | rfl | rfl | rfl
  · exact ⟨_, _, hi _, rfl, rfl⟩
  · exact ⟨_, _, hi _, rfl, rfl⟩
  · exact ⟨_, _, ht _ (by omega), rfl, rfl⟩
  · exact ⟨_, _, hi _, rfl, rfl⟩
  · exact ⟨_, _, ht _ (by omega), rfl, rfl⟩
  · exact ⟨_, _, hi _, rfl, rfl⟩
  · exact ⟨_, _, hi _, rfl, rfl⟩
  · exact ⟨_, _, hi _, rfl, rfl⟩
  · exact ⟨_, _, ht _ (by rw [List.length_set]; omega), rfl, rfl⟩
  · exact ⟨_, _, hi _, rfl, rfl⟩))
theorem draws (n : Nat) : Draws (api X (n + 1)) := ⟨has_of t1, _, run_of t1⟩
theorem plain : Plain T 100 40 := fun ns _ _ => by
  obtain ⟨d, S, h, rfl⟩ := law_spec (A := api X 39) (ns := ns) ⟨has_of t4, _, run_of t4⟩ ⟨has_of t3, _, draws _, run_of t3⟩ ⟨has_of t2, _, draws _, run_of t2⟩ (draws _)
    ⟨has_of t14, _, dep _, ⟨has_of t12, ⟨_, run_of t12⟩, has_of t13, ⟨_, run_of t13⟩⟩, run_of t14⟩ ⟨has_of t8, _, ⟨has_of t5, _, run_of t5⟩, run_of t8⟩ ⟨has_of t9, _, dep _, size _, places _, ask _, run_of t9⟩ (has_of t7)
    (fun m q fs n st a h1 h2 => same_d 35 m q fs n st a h2 h1) (fun k => same_i 37 k)
  exact ⟨S, (run_of t10 _ _).trans h⟩
abbrev R : PySem.W.OpenRow := PySem.W.OpenLaw.row PySem.Challenge.rw_outagain_k00_depot_numbers
def names : List Str := ["_wall", "__name__", "OutagainError", "OutOfRange", "BadDepot", "MOST_DAYS", "check_days", "MOST_QUOTA", "check_numbers", "check_firsts", "Depot", "_law_number", "_law_same", "_law_pool", "_law_take", "_law_great", "_law_depot", "_law_day", "_law_due_numbers", "_law_told_numbers"]
theorem run (w : World) : HandSHeadRun.RunEq R (PySem.W.view R.prog [23]) (hookV 5 T) (obV 5 T) 4000 names w := by
  intro os
  kernel_rfl
end L00
open PySem PySem.W PySem.Calls PyProof.Rows
theorem PySem.Challenge.cw_outagain_k00_depot_numbers_holds : PySem.Challenge.rw_outagain_k00_depot_numbers.Holds := by
  w_on; o_law
  refine HandSHeadRun.head_any (r := OpenLaw.row PySem.Challenge.rw_outagain_k00_depot_numbers) (q := view (OpenLaw.row PySem.Challenge.rw_outagain_k00_depot_numbers).prog [23]) (H := Vm.hookV 5 L00.T) (ob := Vm.obV 5 L00.T) (M := 4000) (loose := L00.names) (d := HandSHeadRun.topDef (OpenLaw.row PySem.Challenge.rw_outagain_k00_depot_numbers).prog 23) (kwd := []) (Vm.obV_eq 5 L00.T)
    (by kernel_rfl) (fun s => by kernel_rfl) L00.run (by kernel_rfl) (by kernel_rfl) (by kernel_rfl) (by rfl) (by first | assumption | decide +kernel) (by decide +kernel) ⟨rfl, rfl, rfl, rfl, rfl, by decide +kernel⟩ ?hw ?hc
  case hw => w_witness2
  case hc =>
    refine LamX.walk_ofTsE (l := PySem.Challenge.rw_outagain_k00_depot_numbers) (n := 63) (k := 120) (x := "script") (CX := fun w => L2.CX (PySem.Challenge.rw_outagain_k00_depot_numbers).prog w) rfl (by decide) (by kernel_rfl) ⟨rfl, by decide, by decide⟩ ?F (fun w H s e s' z => ?_)
    case F =>
      intro w mg fa h Y G hmg0
      obtain ⟨K, KX, c⟩ := Y
      have hmg : mg ("law" : PySem.Str) = some (.ref fa) := by
        have e : (HandSHeadRun.topDef (OpenLaw.row PySem.Challenge.rw_outagain_k00_depot_numbers).prog 23).name = ("law" : PySem.Str) := by kernel_rfl
        rw [← e]
        exact hmg0
      obtain ⟨d, hd, hk, hps⟩ : ∃ d ∈ L00.T.defs, d.key = (("" : PySem.Str), ("law" : PySem.Str)) ∧ d.ps = [("script" : PySem.Str)] := Vm.law_in (by decide +kernel)
      exact ⟨K, KX, Vm.law_at (n := 40) (fuel := 100) KX G (by decide +kernel) c hd hk hps hmg L00.plain⟩
    case _ =>
      obtain ⟨_, _, _, _, _, _, _, _, _, _, _, _, y⟩ := z
      exact y
