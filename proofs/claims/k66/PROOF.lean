import PyProof.Rows.All
import Wide.All
import OpenK.AllK
import Wide.FinOn
import HandS.ForMost
import HandS.ForExc
import HandS.Flow
import HandS.IsInst
import HandS.Walk
import HandS.Zip
import HandS.TupAny
import HandS.TupMul
import HandS.Deep
import HandS.TupLe
import KE.SortData
import PyProof.ListStr
import PyProof.TupleOfStr
import HandS.Text
import HandS.Conv
import HandS.Strs
import PyProof.Draws
import PyProof.StrOps2
import HandS.Exc
import HandS.ExcIs
import HandS.ExcValue
import HandS.Lambda
import HandS.CallLocal
import HandS.Dict
import HandS.WordsExc
import HandS.EndTab
import HandS.EndOwn
import PySem.Challenge.RW_choiceshown_k66_whole_duels_that_voters
set_option Elab.async false
set_option linter.all false
set_option maxRecDepth 100000
set_option maxHeartbeats 4000000
/-! Tuples that are known to have no dict of their own (so that their methods may be called): tracked as known objects. -/
namespace DL
open PySem PySem.Spec PyProof.Rows L2
abbrev tobj (us : List Value) : Obj := { cls := .type "tuple", data := .seq us.toArray }
/-- a new tuple, known -/
def NewT (H : Hp) (Q : VK) (xs : List V) : Prop := ∀ (p : Addr) (o : Obj), H p = none → o.dict = none → Q (.ref p) (upd H p (.frz o (.tup xs)))
section
variable {X : Cx} {pins : List (Addr × Obj)} {σ : L2.St} {H : Hp} {s : Shared}
theorem new_tup {xs : List V} {us : List Value} {Q : VK} (I : Inv X pins σ H s) (r : Vals xs us) (hz : xs.length ≤ sizeLine) (q : NewT H Q xs) : EP X pins σ Q (.ref s.heap.objs.size) { s with heap := s.heap.push (tobj us) } := by
  refine ⟨.ref s.heap.objs.size, _, I.laid (t' := s.toks) (o := .frz (tobj us) (.tup xs)) (fun b u e => Heap.get?_push_of_some _ e) (Nat.le_refl _) ?_, rfl, q _ (tobj us) (I.hok.fresh (Nat.le_refl _)) rfl⟩
  exact ⟨Heap.get?_push_size _ rfl, hz, us, r, IsTup.new _ _⟩
/-- (a, b, ..) -/
def tTupF (t : TA) : TE := fun σ H Q => t σ H fun xs H1 => xs.length ≤ sizeLine ∧ NewT H1 Q xs
theorem pe_tupF {es : List Expr} {t : TA} {pos : Pos} {x1} (h : PA X es t) : PE X (.Tuple es x1 pos) (tTupF t) :=
  ⟨fun pins s σ H Q I hq => wpAny_Tuple_spliced (thn (h.run pos pins s σ H _ I hq) fun us s1 ⟨xs, H1, I1, r, z, q⟩ => ⟨by rw [← r.length]; exact z, new_tup I1 r z q⟩)⟩
/-- tuple(list), tuple(tuple) -/
def rTupF (K : PySem.W.Frag) : List V → Hp → VK → Prop := fun xs H Q => ∃ p ys, xs = [.ref p] ∧ ((SqL K H p ys ∧ NewT H Q ys) ∨ (SqT K H p ys ∧ Q (.ref p) H))
theorem call_tupF : CallR X (.type "tuple") (rTupF X.K) := by
  intro pins s σ H xs us Q I r h
  obtain ⟨p, ys, rfl, h⟩ := h
  obtain ⟨u, rfl, rx⟩ := vals1 r
  cases rx
  rcases h with ⟨hq, q⟩ | ⟨hq, q⟩
  · obtain ⟨its, r', pl, hz⟩ := I.list hq
    refine call_tuple_list pl.isList (fun h' kp => ?_) (by rw [List.size_toArray, ← r'.length]; exact hz)
    exact new_tup (s := { s with heap := h' }) (I.kept (t' := s.toks) kp) r' hz q
  · obtain ⟨its, _, pl, _⟩ := I.tuple hq
    exact call_tuple_same pl ⟨.ref p, H, I, rfl, q⟩
/-- t + u -/
def rCatF (K : PySem.W.Frag) : R2 := fun x y H Q => ∃ a b xs ys, x = .ref a ∧ y = .ref b ∧ SqT K H a xs ∧ SqT K H b ys ∧ xs.length + ys.length ≤ sizeLine ∧ (xs = [] → Q (.ref b) H) ∧ (xs ≠ [] → ys = [] → Q (.ref a) H) ∧ (xs ≠ [] → ys ≠ [] → NewT H Q (xs ++ ys))
theorem op_catF : OpR X (binaryOp .Add) (rCatF X.K) := by
  intro pins s σ H x y v u Q I rx ry h
  obtain ⟨a, b, xs, ys, rfl, rfl, ha, hb, hz, q0, q1, q2⟩ := h
  cases rx
  cases ry
  obtain ⟨its, r1, p1, _⟩ := I.tuple ha
  obtain ⟨its2, r2, p2, _⟩ := I.tuple hb
  by_cases hx : xs = []
  · subst hx
    cases r1
    exact L2.cat_tup0 p1 p2 ⟨.ref b, H, I, rfl, q0 rfl⟩
  · refine HT.cat_tup p1 p2 (fun z => hx (r1.nil_iff.mp z)) (fun z => ⟨.ref a, H, I, rfl, q1 hx (r2.nil_iff.mp z)⟩) (fun z => ?_) (by rw [← r1.length, ← r2.length]; exact hz)
    exact new_tup I (r1.append r2) (by rw [List.length_append]; exact hz) (q2 hx fun w => z (r2.nil_iff.mpr w))
/-- t[a:b] -/
def rSlF (K : PySem.W.Frag) : V → Option Int → Option Int → Hp → VK → Prop := fun x lo hi H Q => ∃ a xs, x = .ref a ∧ SqT K H a xs ∧
  (HT.sIx xs.length 0 lo = 0 ∧ HT.sIx xs.length xs.length hi = xs.length → Q (.ref a) H) ∧ (¬ (HT.sIx xs.length 0 lo = 0 ∧ HT.sIx xs.length xs.length hi = xs.length) → NewT H Q (cutV xs lo hi))
theorem sl_tupF : SlR X (rSlF X.K) := by
  intro pins s σ H x v vl vu lo hi sl Q I rx hs pl pu h
  obtain ⟨a, xs, rfl, hx, q1, q2⟩ := h
  cases rx
  obtain ⟨its, r, ht, hz⟩ := I.tuple hx
  have hlen : its.toArray.size = xs.length := by rw [List.size_toArray]; exact r.length.symm
  refine ⟨"tuple", _, PyProof.Rows.slot_tuple_getitem.lookup, ht.typeIs, ?_⟩
  by_cases hw : HT.sIx xs.length 0 lo = 0 ∧ HT.sIx xs.length xs.length hi = xs.length
  · exact L2.getItem_tuple_whole ht hs pl pu (by rw [hlen]; exact hw) ⟨.ref a, H, I, rfl, q1 hw⟩
  · refine HT.getItem_tuple_cut ht hs pl pu (by rw [hlen]; exact hw) ?_ (by rw [hlen]; exact hz)
    rw [hlen]
    exact new_tup I ((r.drop (HT.sIx xs.length 0 lo)).take (HT.sIx xs.length xs.length hi - HT.sIx xs.length 0 lo)) (Nat.le_trans (cutV_length xs lo hi) hz) (q2 hw)
/-- list('abc'), tuple('abc') -/
def sgV (z : Str) : List V := z.cps.toList.map fun c => V.str ⟨#[c]⟩
/-- a method of a known tuple: o.m(e, ..) -/
def tBT (r : V → List V → Hp → VK → Prop) (to : TE) (t : TA) : TE := fun σ H Q => to σ H fun x H1 => (∃ a o xs, x = .ref a ∧ H1 a = some (.frz o (.tup xs)) ∧ o.dict = none) ∧ t σ H1 fun xs H2 => r x xs H2 Q
theorem pe_bmT {o e : Expr} {es : List Expr} {to : TE} {t : TA} {name : Str} {apos cpos : Pos} {id : String} {r : V → List V → Hp → VK → Prop} (slot : Slot "tuple" name id) (hty : typeOf (.builtin id) = pure (.type "method_descriptor")) (hm : MtR X id r) (ho : PE X o to) (ha : PA X (e :: es) t)
    (hbase : attributeBase o name X.env (eval o X.env) = eval o X.env := by rfl)
    (hfew : ((backTo cpos (starEach (e :: es) X.env)).all (fun x => !x.1) && (backToKw cpos (keywordEach [] X.env)).all (fun x => x.1.isSome)
      && decide ((e :: es).length + ([] : List Keyword).length + (if ([] : List Keyword).isEmpty then 0 else 1) < 30)) = true := by rfl)
    (hline : (apos.endLine == cpos.line) = true := by rfl) (hs : starEach (e :: es) X.env = (false, eval e X.env) :: starEach es X.env := by rfl) (hplain : (backTo cpos (starEach es X.env)).any (·.1) = false := by rfl) :
    PE X (.Call (.Attribute o name apos) (e :: es) [] cpos) (tBT r to t) := by
  refine ⟨fun pins s σ H Q I h => wpAny_Call_method_late hbase hfew hline rfl (thn (ho.run pins s σ H _ I h) fun v s1 ⟨x, H1, I1, r1, ⟨a, ob, xs, ex, hx, hd⟩, q1⟩ => ?_)⟩
  subst ex
  cases r1
  obtain ⟨hob, _, its, _, o2, ho2, hc2, _⟩ := (show ObjOk X.prog X.w H1 s1.heap a (.frz ob (.tup xs)) from I1.hok a _ hx)
  have eo : ob = o2 := Option.some.inj (hob.symm.trans ho2)
  have TI : s1.TypeIs (.ref a) "tuple" := ⟨ob, hob, by rw [eo]; exact hc2⟩
  refine ⟨"tuple", id, PySem.F.plainAttrs_tuple, slot, hty, TI, fun b eb => ?_, ?_⟩
  · cases eb
    exact ⟨ob, hob, hd⟩
  · have hA := ha.run cpos pins s1 σ H1 _ I1 q1
    rw [hs] at hA ⊢
    refine Calls.callWith_builtin (by show (false || (backTo cpos (starEach es X.env)).any (·.1)) = false; rw [hplain] <;> rfl) (Calls.evalArgs_plain ?_)
    exact thn hA fun us s2 ⟨vs, H2, I2, r2, q2⟩ => hm pins s2 σ H2 (.ref a) vs (.ref a) us Q I2 rfl r2 q2
end
end DL

/-! The data layer: expressions as functions over data, statements as predicate transformers over data. -/
namespace DL
open PySem PySem.Spec PyProof.Rows L2

abbrev D := PyData

/-! ### values as data -/
/-- a known tuple -/
def TpAt (F : Hp) (a : Addr) (vs : List V) : Prop := ∃ o : Obj, F a = some (.frz o (.tup vs)) ∧ o.dict = none
theorem TpAt.sq {K : PySem.W.Frag} {F : Hp} {a : Addr} {vs : List V} (h : TpAt F a vs) : SqT K F a vs := by
  obtain ⟨o, h, _⟩ := h
  exact .inl (.inr ⟨o, h⟩)
mutual
inductive Rp (K : PySem.W.Frag) (F : Hp) : V → D → Prop
  | non : Rp K F .non .none
  | bl (b : Bool) : Rp K F (.bl b) (.bool b)
  | int (i : Int) : Rp K F (.int i) (.int i)
  | str (x : Str) (h : PyData.strOk x = true) : Rp K F (.str x) (.str x)
  | lst {a : Addr} {vs : List V} {ds : List D} : F a = some (.lst vs) → RpAll K F vs ds → Rp K F (.ref a) (.list ds)
  | tup {a : Addr} {vs : List V} {ds : List D} : TpAt F a vs → RpAll K F vs ds → Rp K F (.ref a) (.tuple ds)
  | dct {a : Addr} : F a = some (.dK []) → Rp K F (.ref a) (.dict [])
inductive RpAll (K : PySem.W.Frag) (F : Hp) : List V → List D → Prop
  | nil : RpAll K F [] []
  | cons {v : V} {vs : List V} {d : D} {ds : List D} : Rp K F v d → RpAll K F vs ds → RpAll K F (v :: vs) (d :: ds)
end

/-- all of the one stands in the other -/
def Sub (F F' : Hp) : Prop := ∀ b o, F b = some o → F' b = some o
theorem Sub.refl (F : Hp) : Sub F F := fun _ _ h => h
theorem Sub.trans {A B C : Hp} (h : Sub A B) (g : Sub B C) : Sub A C := fun b o e => g b o (h b o e)
theorem Sub.tp {F F' : Hp} (h : Sub F F') {a : Addr} {vs : List V} (r : TpAt F a vs) : TpAt F' a vs := by
  obtain ⟨o, e, d⟩ := r
  exact ⟨o, h _ _ e, d⟩
theorem Sub.rd {F F' : Hp} (h : Sub F F') {a : Addr} {u : HO} (r : Rd F a u) : Rd F' a u := by
  rcases r with r | ⟨o, r⟩
  · exact .inl (h _ _ r)
  · exact .inr ⟨o, h _ _ r⟩
theorem Sub.sl {K : PySem.W.Frag} {F F' : Hp} (h : Sub F F') {a : Addr} {vs : List V} (r : SqL K F a vs) : SqL K F' a vs := r.imp (Sub.rd h) id
theorem Sub.stp {K : PySem.W.Frag} {F F' : Hp} (h : Sub F F') {a : Addr} {vs : List V} (r : SqT K F a vs) : SqT K F' a vs := r.imp (Sub.rd h) id

section
variable {K : PySem.W.Frag} {F F' : Hp}
mutual
theorem Rp.mono (h : Sub F F') : ∀ {v : V} {d : D}, Rp K F v d → Rp K F' v d
  | _, _, .non => .non
  | _, _, .bl b => .bl b
  | _, _, .int i => .int i
  | _, _, .str x h => .str x h
  | _, _, .lst a b => .lst (h _ _ a) (RpAll.mono h b)
  | _, _, .tup a b => .tup (h.tp a) (RpAll.mono h b)
  | _, _, .dct a => .dct (h _ _ a)
theorem RpAll.mono (h : Sub F F') : ∀ {vs : List V} {ds : List D}, RpAll K F vs ds → RpAll K F' vs ds
  | _, _, .nil => .nil
  | _, _, .cons a b => .cons (Rp.mono h a) (RpAll.mono h b)
end
theorem RpAll.length : ∀ {vs : List V} {ds : List D}, RpAll K F vs ds → vs.length = ds.length
  | _, _, .nil => rfl
  | _, _, .cons _ b => congrArg (· + 1) b.length
theorem RpAll.get : ∀ {vs : List V} {ds : List D} {i : Nat} {v : V}, RpAll K F vs ds → vs[i]? = some v → ∃ d, ds[i]? = some d ∧ Rp K F v d
  | _, _, 0, _, .cons a _, e => by
    cases e
    exact ⟨_, rfl, a⟩
  | _, _, i + 1, _, .cons _ b, e => RpAll.get (i := i) b e
theorem RpAll.getD : ∀ {vs : List V} {ds : List D} {i : Nat} {d : D}, RpAll K F vs ds → ds[i]? = some d → ∃ v, vs[i]? = some v ∧ Rp K F v d
  | _, _, 0, _, .cons a _, e => by
    cases e
    exact ⟨_, rfl, a⟩
  | _, _, i + 1, _, .cons _ b, e => RpAll.getD (i := i) b e
theorem RpAll.append : ∀ {vs ws : List V} {ds es : List D}, RpAll K F vs ds → RpAll K F ws es → RpAll K F (vs ++ ws) (ds ++ es)
  | _, _, _, _, .nil, h => h
  | _, _, _, _, .cons a b, h => .cons a (b.append h)
theorem RpAll.take : ∀ {vs : List V} {ds : List D} (n : Nat), RpAll K F vs ds → RpAll K F (vs.take n) (ds.take n)
  | _, _, 0, _ => .nil
  | _, _, _ + 1, .nil => .nil
  | _, _, n + 1, .cons a b => .cons a (b.take n)
theorem RpAll.drop : ∀ {vs : List V} {ds : List D} (n : Nat), RpAll K F vs ds → RpAll K F (vs.drop n) (ds.drop n)
  | _, _, 0, h => h
  | _, _, _ + 1, .nil => .nil
  | _, _, n + 1, .cons _ b => b.drop n
theorem RpAll.eraseIdx : ∀ {vs : List V} {ds : List D} (n : Nat), RpAll K F vs ds → RpAll K F (vs.eraseIdx n) (ds.eraseIdx n)
  | _, _, _, .nil => .nil
  | _, _, 0, .cons _ b => b
  | _, _, n + 1, .cons a b => .cons a (b.eraseIdx n)
theorem RpAll.set : ∀ {vs : List V} {ds : List D} (n : Nat) {v : V} {d : D}, Rp K F v d → RpAll K F vs ds → RpAll K F (vs.set n v) (ds.set n d)
  | _, _, _, _, _, _, .nil => .nil
  | _, _, 0, _, _, h, .cons _ b => .cons h b
  | _, _, n + 1, _, _, h, .cons a b => .cons a (b.set n h)
theorem RpAll.reverse {vs : List V} {ds : List D} (h : RpAll K F vs ds) : RpAll K F vs.reverse ds.reverse := by
  induction h using RpAll.rec (motive_1 := fun _ _ _ => True) with
  | non => trivial
  | bl => trivial
  | int => trivial
  | str => trivial
  | lst => trivial
  | tup => trivial
  | dct => trivial
  | nil => exact .nil
  | cons a _ _ ih =>
    rw [List.reverse_cons, List.reverse_cons]
    exact ih.append (.cons a .nil)
theorem RpAll.ints : ∀ (ns : List Int), RpAll K F (ns.map V.int) (ns.map PyData.int)
  | [] => .nil
  | n :: r => .cons (.int n) (RpAll.ints r)
/-- what is int data stands as ints -/
theorem RpAll.ofInts : ∀ {vs : List V} (ns : List Int), RpAll K F vs (ns.map PyData.int) → vs = ns.map V.int
  | _, [], .nil => rfl
  | _, n :: r, .cons a b => by
    cases a
    rw [RpAll.ofInts r b]
    rfl
end

/-! ### data without dicts -/
mutual
def plain : D → Bool
  | .none | .bool _ | .int _ | .str _ => true
  | .list ds => plainAll ds
  | .tuple ds => plainAll ds
  | .dict _ => false
def plainAll : List D → Bool
  | [] => true
  | d :: r => plain d && plainAll r
end
section
variable {K : PySem.W.Frag} {F H : Hp}
mutual
theorem Rp.dp (h : Sub F H) : ∀ {v : V} {d : D}, Rp K F v d → plain d = true → Dp K H v d
  | _, _, .non, _ => .non
  | _, _, .bl b, _ => .bl b
  | _, _, .int i, _ => .int i
  | _, _, .str x _, _ => .str x
  | _, _, .lst a b, p => .lst (SqL.of (h _ _ a)) (RpAll.dp h b p)
  | _, _, .tup a b, p => .tup (h.tp a).sq (RpAll.dp h b p)
  | _, _, .dct _, p => by cases p
theorem RpAll.dp (h : Sub F H) : ∀ {vs : List V} {ds : List D}, RpAll K F vs ds → plainAll ds = true → DpAll K H vs ds
  | _, _, .nil, _ => .nil
  | _, _, .cons a b, p => by
    have q := Bool.and_eq_true_iff.mp p
    exact .cons (Rp.dp h a q.1) (RpAll.dp h b q.2)
end
end

section
variable {K : PySem.W.Frag} {F : Hp}
mutual
theorem Rp.lay : ∀ {v : V} {d : D}, Rp K F v d → plain d = true → d.canLay0 = true
  | _, _, .non, _ => rfl
  | _, _, .bl b, _ => rfl
  | _, _, .int i, _ => rfl
  | _, _, .str x h, _ => h
  | _, _, .lst _ b, p => RpAll.lay b p
  | _, _, .tup _ b, p => RpAll.lay b p
  | _, _, .dct _, p => by cases p
theorem RpAll.lay : ∀ {vs : List V} {ds : List D}, RpAll K F vs ds → plainAll ds = true → PyData.canLayAll0 ds = true
  | _, _, .nil, _ => rfl
  | _, _, .cons a b, p => by
    have q := Bool.and_eq_true_iff.mp p
    exact Bool.and_eq_true_iff.mpr ⟨Rp.lay a q.1, RpAll.lay b q.2⟩
end
end
/-- what == may look at -/
def eqOk (d : D) : Bool := plain d && decide (d.depth ≤ 64)
theorem Rp.shaped {K : PySem.W.Frag} {F : Hp} {v : V} {d : D} (h : Rp K F v d) (p : eqOk d = true) : SeqAt.shaped d = true := by
  have q := Bool.and_eq_true_iff.mp p
  exact Bool.and_eq_true_iff.mpr ⟨h.lay q.1, q.2⟩

/-! ### the monad of the mirrors -/
/-- what the draws hold -/
structure DG where
  great : List Int
  cells : List Int
  rest : Int
  turn : Int
/-- an error of the package: its class's name, its fields -/
structure Er where
  cls : Str
  fs : List (Str × D)
inductive Rs (α : Type) where
  | ok (x : α)
  | er (e : Er)
abbrev M (α : Type) := DG → Option (Rs α × DG)
def mp {α : Type} (x : α) : M α := fun G => some (.ok x, G)
def me {α : Type} (e : Er) : M α := fun G => some (.er e, G)
def mz {α : Type} : M α := fun _ => none
def mb {α β : Type} (m : M α) (k : α → M β) : M β := fun G => match m G with
  | some (.ok x, G1) => k x G1
  | some (.er e, G1) => some (.er e, G1)
  | none => none
/-- an option as a step -/
def mo {α : Type} (o : Option α) : M α := match o with
  | some x => mp x
  | none => mz
theorem mb_mp {α β : Type} (x : α) (k : α → M β) : mb (mp x) k = k x := rfl
theorem mb_mz {α β : Type} (k : α → M β) : mb mz k = mz := rfl
theorem mb_me {α β : Type} (e : Er) (k : α → M β) : mb (me e) k = me e := rfl
theorem mo_some {α : Type} (x : α) : mo (some x) = mp x := rfl
theorem mo_none {α : Type} : mo (none : Option α) = mz := rfl
theorem mb_some {α β : Type} {m : M α} {k : α → M β} {G G1 : DG} {x : α} (h : m G = some (.ok x, G1)) : mb m k G = k x G1 := by
  show (match m G with | some (.ok x, G1) => k x G1 | some (.er e, G1) => some (.er e, G1) | none => none) = _
  rw [h]
theorem mb_assoc {α β γ : Type} (m : M α) (k : α → M β) (j : β → M γ) : mb (mb m k) j = mb m (fun x => mb (k x) j) := by
  funext G
  show (match (match m G with | some (.ok x, G1) => k x G1 | some (.er e, G1) => some (.er e, G1) | none => none) with | some (.ok x, G1) => j x G1 | some (.er e, G1) => some (.er e, G1) | none => none) = (match m G with | some (.ok x, G1) => mb (k x) j G1 | some (.er e, G1) => some (.er e, G1) | none => none)
  cases m G with
  | none => rfl
  | some p =>
    obtain ⟨r, G1⟩ := p
    cases r with
    | ok x => rfl
    | er e => rfl

/-- what an expression yields: frozen data; a list that may still change; the script; the draws; a def; an error -/
inductive DV where
  | d (x : D)
  | vl (xs : List D)
  | sc (ns : List Int)
  | dr
  | fn (a : Addr)
  | ex (e : Er)
abbrev SS := List (Option DV)

/-! ### the frame's data -/
/-- told once: where the draws stand, how an error's object is told, the classes' places -/
structure Gb where
  dr : Addr
  eo : Er → Addr → HO
  ca : Str → Addr
/-- a family of defs: what they may change, what they keep of the world, what they may do to the draws -/
structure Fam where
  ex : List Addr
  W : Hp → DG → Prop
  gr : DG → DG → Prop
/-- what changes in the frames' own lists and dicts -/
def isMu : HO → Bool
  | .lst _ => true
  | .dK _ => true
  | .dT _ => true
  | _ => false
/-- nothing that may change stands at b -/
def Nm (H : Hp) (b : Addr) : Prop := ∀ u, H b = some u → isMu u = false
theorem nm_none {H : Hp} {b : Addr} (h : H b = none) : Nm H b := fun u e => by
  rw [h] at e
  cases e
theorem nm_no {H : Hp} {b : Addr} {u : HO} (h : Nm H b) (e : H b = some u) (m : isMu u = true) : False := by
  rw [h u e] at m
  cases m
theorem nm_by {H : Hp} {b : Addr} (h : ∀ u, H b = some u → isMu u = true → False) : Nm H b := fun u e => by
  cases m : isMu u with
  | false => rfl
  | true => exact (h u e m).elim
/-- no table of code objects -/
def NT (F : Hp) : Prop := ∀ b ps, F b ≠ some (.tbl ps)
structure FamOk (m : Fam) : Prop where
  wex : ∀ H G, m.W H G → ∀ b ∈ m.ex, ∃ o, H b = some o ∧ isMu o = true
  wm : ∀ H p o G, H p = none → (∀ ps, o ≠ HO.tbl ps) → m.W H G → m.W (upd H p o) G
  wu : ∀ H G a o o', m.W H G → a ∉ m.ex → H a = some o → isMu o = true → m.W (upd H a o') G
theorem FamOk.wne {m : Fam} (ok : FamOk m) (H : Hp) (G : DG) (w : m.W H G) (b : Addr) (hb : b ∈ m.ex) : H b ≠ none := fun e => by
  obtain ⟨o, q, _⟩ := ok.wex H G w b hb
  rw [e] at q
  cases q
structure Fx where
  gb : Gb
  m : Fam
  F0 : Hp
  H0 : Hp
  E : XK
abbrev Fx.ex (Φ : Fx) : List Addr := Φ.m.ex
abbrev Fx.W (Φ : Fx) : Hp → DG → Prop := Φ.m.W
abbrev Fx.dr (Φ : Fx) : Addr := Φ.gb.dr
abbrev Fx.eo (Φ : Fx) : Er → Addr → HO := Φ.gb.eo
/-- what is wanted where an error leaves -/
def Fx.Ec (Φ : Fx) (e : Er) (H : Hp) : Prop := e.fs = [] ∧ Φ.E (.ref (Φ.gb.ca e.cls)) none H

structure Step (Φ : Fx) (F H F' H' : Hp) : Prop where
  up : Sub F F'
  sub : Sub F' H'
  noex : ∀ b ∈ Φ.ex, F' b = none
  new : ∀ b o, F' b = some o → F b = some o ∨ Nm H b
  pres : ∀ b o, H b = some o → isMu o = true → b ∉ Φ.ex → H' b = some o
  nt : NT F → NT F'
theorem Step.trans {Φ : Fx} {F H F1 H1 F2 H2 : Hp} (a : Step Φ F H F1 H1) (b : Step Φ F1 H1 F2 H2) : Step Φ F H F2 H2 where
  up := a.up.trans b.up
  sub := b.sub
  noex := b.noex
  new := fun c o e => by
    rcases b.new c o e with q | q
    · exact a.new c o q
    · refine .inr (nm_by fun u r m => ?_)
      by_cases hc : c ∈ Φ.ex
      · rw [b.noex c hc] at e
        cases e
      · exact nm_no q (a.pres c u r m hc) m
  pres := fun c o e m h => b.pres c o (a.pres c o e m h) m h
  nt := fun h => b.nt (a.nt h)

/-- a list of the frame's own, which nothing frozen leans on -/
structure Own (Φ : Fx) (F H : Hp) (a : Addr) (vs : List V) : Prop where
  at_ : H a = some (.lst vs)
  nf : F a = none
  ne : a ∉ Φ.ex
  n0 : Nm Φ.H0 a
def VR (K : PySem.W.Frag) (Φ : Fx) (F H : Hp) (v : V) : DV → Prop
  | .d x => Rp K F v x
  | .vl xs => ∃ a vs, v = .ref a ∧ Own Φ F H a vs ∧ RpAll K F vs xs
  | .sc ns => ∃ a, v = .ref a ∧ SqL K F a (ns.map V.int)
  | .dr => v = .ref Φ.dr
  | .fn a => v = .ref a
  | .ex e => ∃ a, v = .ref a ∧ F a = some (Φ.eo e a)
theorem Own.step {Φ : Fx} {F H F' H' : Hp} {a : Addr} {vs : List V} (o : Own Φ F H a vs) (s : Step Φ F H F' H') : Own Φ F' H' a vs := by
  refine ⟨s.pres a _ o.at_ rfl o.ne, ?_, o.ne, o.n0⟩
  cases e : F' a with
  | none => rfl
  | some u =>
    rcases s.new a u e with q | q
    · rw [o.nf] at q
      cases q
    · exact (nm_no q o.at_ rfl).elim
theorem VR.step {K : PySem.W.Frag} {Φ : Fx} {F H F' H' : Hp} {v : V} (s : Step Φ F H F' H') : ∀ {x : DV}, VR K Φ F H v x → VR K Φ F' H' v x
  | .d x, h => Rp.mono s.up h
  | .vl xs, ⟨a, vs, e, o, r⟩ => ⟨a, vs, e, o.step s, r.mono s.up⟩
  | .sc ns, ⟨a, e, q⟩ => ⟨a, e, s.up.sl q⟩
  | .dr, h => h
  | .fn a, h => h
  | .ex e, ⟨a, h, q⟩ => ⟨a, h, s.up _ _ q⟩
abbrev VRs (K : PySem.W.Frag) (Φ : Fx) (F H : Hp) : List V → List DV → Prop := Paired (VR K Φ F H)
theorem VRs.step {K : PySem.W.Frag} {Φ : Fx} {F H F' H' : Hp} (s : Step Φ F H F' H') {vs : List V} {xs : List DV} (h : VRs K Φ F H vs xs) : VRs K Φ F' H' vs xs := Paired.mapP h fun _ _ q => q.step s

structure St (K : PySem.W.Frag) (Φ : Fx) (F H : Hp) (σ : L2.St) (S : SS) (G : DG) : Prop where
  ok : FamOk Φ.m
  sub : Sub F H
  noex : ∀ b ∈ Φ.ex, F b = none
  f0 : Sub Φ.F0 F
  new : ∀ b o, F b = some o → Φ.F0 b = some o ∨ Nm Φ.H0 b
  pres : ∀ b o, Φ.H0 b = some o → isMu o = true → b ∉ Φ.ex → H b = some o
  nt : NT F
  w : Φ.W H G
  len : σ.length = S.length
  at_ : ∀ (i : Nat) x, S[i]? = some (some x) → ∃ v, σ[i]? = some (some v) ∧ VR K Φ F H v x
  dist : ∀ (i j : Nat) a xs ys, i ≠ j → S[i]? = some (some (.vl xs)) → S[j]? = some (some (.vl ys)) → σ[i]? = some (some (.ref a)) → σ[j]? = some (some (.ref a)) → False

section
variable {K : PySem.W.Frag} {Φ : Fx} {F H F' H' : Hp} {σ : L2.St} {S : SS} {G G' : DG}
theorem Step.refl (h : St K Φ F H σ S G) : Step Φ F H F H := ⟨.refl F, h.sub, h.noex, fun _ _ e => .inl e, fun _ _ e _ _ => e, id⟩
theorem St.step (h : St K Φ F H σ S G) (s : Step Φ F H F' H') (w : Φ.W H' G') : St K Φ F' H' σ S G' where
  ok := h.ok
  sub := s.sub
  noex := s.noex
  f0 := h.f0.trans s.up
  new := fun b o e => by
    rcases s.new b o e with q | q
    · exact h.new b o q
    · refine .inr (nm_by fun u r m => ?_)
      by_cases hb : b ∈ Φ.ex
      · rw [s.noex b hb] at e
        cases e
      · exact nm_no q (h.pres b u r m hb) m
  pres := fun b o e m hb => s.pres b o (h.pres b o e m hb) m hb
  nt := s.nt h.nt
  w := w
  len := h.len
  at_ := fun i x e => by
    obtain ⟨v, e1, r⟩ := h.at_ i x e
    exact ⟨v, e1, r.step s⟩
  dist := h.dist
/-- a new object is laid and frozen -/
theorem St.lay (h : St K Φ F H σ S G) {p : Addr} {o : HO} (hp : H p = none) (ht : ∀ ps, o ≠ HO.tbl ps := by intro _ z; cases z) : Step Φ F H (upd F p o) (upd H p o) := by
  have hne : p ∉ Φ.ex := fun z => h.ok.wne H G h.w p z hp
  have fp : F p = none := by
    cases e : F p with
    | none => rfl
    | some u =>
      rw [h.sub p u e] at hp
      cases hp
  refine ⟨fun b u e => ?_, fun b u e => ?_, fun b hb => ?_, fun b u e => ?_, fun b u e _ _ => ?_, fun n b ps e => ?_⟩
  · rw [upd_ne (ne_of_none e fp)]
    exact e
  · by_cases hb : b = p
    · subst hb
      rw [upd_same] at e ⊢
      exact e
    · rw [upd_ne hb] at e ⊢
      exact h.sub b u e
  · rw [upd_ne (fun z => hne (by rw [← z]; exact hb))]
    exact h.noex b hb
  · by_cases hb : b = p
    · subst hb
      exact .inr (nm_none hp)
    · rw [upd_ne hb] at e
      exact .inl e
  · rw [upd_ne (ne_of_none e hp)]
    exact e
  · by_cases hb : b = p
    · subst hb
      rw [upd_same] at e
      exact ht ps (Option.some.inj e)
    · rw [upd_ne hb] at e
      exact n b ps e
theorem sub_upd {p : Addr} {o : HO} (hp : H p = none) : Sub H (upd H p o) := fun b u e => by
  rw [upd_ne (ne_of_none e hp)]
  exact e
end
end DL

namespace DL
open PySem PySem.Spec PyProof.Rows L2

/-! ### readings by mirrors -/
def Post {α τ : Type} (R : Hp → Hp → τ → α → Prop) (Φ : Fx) (F H : Hp) (r : Rs α) (G : DG) (Q : τ → Hp → Prop) : Prop :=
  ∀ F' H', Step Φ F H F' H' → Φ.W H' G → match r with
    | .ok x => ∀ v, R F' H' v x → Q v H'
    | .er e => Φ.Ec e H'
def tX {α τ : Type} (K : PySem.W.Frag) (Φ : Fx) (R : Hp → Hp → τ → α → Prop) (c : SS → M α) (σ : L2.St) (H : Hp) (Q : τ → Hp → Prop) : Prop :=
  ∃ F S G r G', St K Φ F H σ S G ∧ c S G = some (r, G') ∧ Post R Φ F H r G' Q
abbrev tD (K : PySem.W.Frag) (Φ : Fx) (c : SS → M DV) : TE := tX K Φ (VR K Φ) c
abbrev tDT (K : PySem.W.Frag) (Φ : Fx) (c : SS → M Bool) : TT := tX K Φ (fun _ _ b x => b = x) c
abbrev tDA (K : PySem.W.Frag) (Φ : Fx) (c : SS → M (List DV)) : TA := tX K Φ (VRs K Φ) c
abbrev tDO (K : PySem.W.Frag) (Φ : Fx) (c : SS → M (Option Int)) : TO := tX K Φ (fun _ _ b x => b = x) c

section
variable {K : PySem.W.Frag} {Φ : Fx} {F H : Hp} {σ : L2.St} {S : SS} {G : DG}
theorem Post.now {α τ : Type} {R : Hp → Hp → τ → α → Prop} {x : α} {v : τ} {Q : τ → Hp → Prop} (po : Post R Φ F H (.ok x) G Q) (st : St K Φ F H σ S G) (r : R F H v x) : Q v H :=
  po F H (.refl st) st.w v r
theorem Post.later {α τ : Type} {R : Hp → Hp → τ → α → Prop} {r : Rs α} {G' : DG} {Q : τ → Hp → Prop} {F' H' : Hp} (po : Post R Φ F H r G' Q) (s : Step Φ F H F' H') : Post R Φ F' H' r G' Q :=
  fun F2 H2 s2 w => po F2 H2 (s.trans s2) w
/-- a new object as the answer -/
theorem Post.new {x : DV} {p : Addr} {o : HO} {Q : VK} (po : Post (VR K Φ) Φ F H (.ok x) G Q) (st : St K Φ F H σ S G) (hp : H p = none) (r : VR K Φ (upd F p o) (upd H p o) (.ref p) x) (ht : ∀ ps, o ≠ HO.tbl ps := by intro _ z; cases z) : Q (.ref p) (upd H p o) :=
  po _ _ (st.lay hp ht) (st.ok.wm _ _ _ _ hp ht st.w) _ r
/-- one part runs, then the rest -/
theorem tX_run {α β τ τ' : Type} {R1 : Hp → Hp → τ → α → Prop} {R2 : Hp → Hp → τ' → β → Prop} (c : SS → M α) {kk : α → M β} {r : Rs β} {G' : DG} {Q : τ' → Hp → Prop} {Q1 : τ → Hp → Prop} (st : St K Φ F H σ S G)
    (e : mb (c S) kk G = some (r, G')) (po : Post R2 Φ F H r G' Q)
    (next : ∀ F' H' G1 x v, St K Φ F' H' σ S G1 → Step Φ F H F' H' → R1 F' H' v x → kk x G1 = some (r, G') → Post R2 Φ F' H' r G' Q → Q1 v H') : tX K Φ R1 c σ H Q1 := by
  cases hc : c S G with
  | none =>
    have e' : (match c S G with | some (.ok x, G1) => kk x G1 | some (.er e, G1) => some (.er e, G1) | none => none) = some (r, G') := e
    rw [hc] at e'
    cases e'
  | some p =>
    obtain ⟨q, G1⟩ := p
    have e' : (match c S G with | some (.ok x, G1) => kk x G1 | some (.er e, G1) => some (.er e, G1) | none => none) = some (r, G') := e
    rw [hc] at e'
    cases q with
    | ok x =>
      refine ⟨F, S, G, .ok x, G1, st, hc, fun F' H' s w v rv => ?_⟩
      exact next F' H' G1 x v (st.step s w) s rv e' (po.later s)
    | er x =>
      cases e'
      exact ⟨F, S, G, .er x, _, st, hc, po⟩
end

theorem pe_imp {X : Cx} {e : Expr} {t t' : TE} (h : PE X e t) (i : ∀ σ H Q, t' σ H Q → t σ H Q) : PE X e t' := ⟨fun pins s σ H Q I q => h.run pins s σ H Q I (i σ H Q q)⟩
theorem pt_imp {X : Cx} {e : Expr} {t t' : TT} (h : PT X e t) (i : ∀ σ H Q, t' σ H Q → t σ H Q) : PT X e t' := ⟨fun pins s σ H Q I q => h.run pins s σ H Q I (i σ H Q q)⟩
theorem pw_imp {X : Cx} {e : Expr} {t t' : TT} (h : PW X e t) (i : ∀ σ H Q, t' σ H Q → t σ H Q) : PW X e t' := ⟨fun wh pins s σ H Q I q => h.run wh pins s σ H Q I (i σ H Q q)⟩
theorem pa_imp {X : Cx} {es : List Expr} {t t' : TA} (h : PA X es t) (i : ∀ σ H Q, t' σ H Q → t σ H Q) : PA X es t' := ⟨fun pos pins s σ H Q I q => h.run pos pins s σ H Q I (i σ H Q q)⟩
theorem pk_imp {X : Cx} {es : List Keyword} {t t' : TA} (h : PK X es t) (i : ∀ σ H Q, t' σ H Q → t σ H Q) : PK X es t' := ⟨fun pos pins s σ H Q I q => h.run pos pins s σ H Q I (i σ H Q q)⟩
theorem po_imp {X : Cx} {e : Option Expr} {t t' : TO} (h : PO X e t) (i : ∀ σ H Q, t' σ H Q → t σ H Q) : PO X e t' := ⟨fun pins s σ H Q I q => h.run pins s σ H Q I (i σ H Q q)⟩

/-! ### expressions: mirrors and their rules -/
def cVar (i : Nat) (S : SS) : M DV := mo (S.getD i none)
def cK (x : D) (_ : SS) : M DV := mp (.d x)
def cFn (a : Addr) (_ : SS) : M DV := mp (.fn a)
def cUn (f : DV → M DV) (c : SS → M DV) (S : SS) : M DV := mb (c S) f
def cBin (f : DV → DV → M DV) (c d : SS → M DV) (S : SS) : M DV := mb (c S) fun x => mb (d S) fun y => f x y
def cNil (_ : SS) : M (List DV) := mp []
def cCons (c : SS → M DV) (d : SS → M (List DV)) (S : SS) : M (List DV) := mb (c S) fun x => mb (d S) fun xs => mp (x :: xs)
def cApp (f : List DV → M DV) (c : SS → M (List DV)) (S : SS) : M DV := mb (c S) f

/-- the last step of an operation: from the values' data to its reading -/
def Op1 (K : PySem.W.Frag) (Φ : Fx) (r : V → Hp → VK → Prop) (f : DV → M DV) : Prop :=
  ∀ F H σ S G x v r' G' Q, St K Φ F H σ S G → VR K Φ F H v x → f x G = some (r', G') → Post (VR K Φ) Φ F H r' G' Q → r v H Q
def Op2 (K : PySem.W.Frag) (Φ : Fx) (r : R2) (f : DV → DV → M DV) : Prop :=
  ∀ F H σ S G x y v u r' G' Q, St K Φ F H σ S G → VR K Φ F H v x → VR K Φ F H u y → f x y G = some (r', G') → Post (VR K Φ) Φ F H r' G' Q → r v u H Q
def OpA (K : PySem.W.Frag) (Φ : Fx) (r : List V → Hp → VK → Prop) (f : List DV → M DV) : Prop :=
  ∀ F H σ S G xs vs r' G' Q, St K Φ F H σ S G → VRs K Φ F H vs xs → f xs G = some (r', G') → Post (VR K Φ) Φ F H r' G' Q → r vs H Q

section
variable {X : Cx} {Φ : Fx}
theorem de_var (i : Nat) {x : Str} {pos : Pos} (hN : X.N[i]? = some x := by rfl) (hv : Vis X.env.scope x := by first | exact Or.inl rfl | exact Or.inr (Or.inl rfl) | exact Or.inr (Or.inr rfl)) (hd : (x == ("__debug__" : Str)) = false := by decide)
    (hcd : (x == ("__classdict__" : Str)) = false := by decide) : PE X (.Name x pos) (tD X.K Φ (cVar i)) := by
  refine pe_imp (pe_var (i := i) hN hv hd hcd) fun σ H Q h => ?_
  obtain ⟨F, S, G, r, G', st, e, po⟩ := h
  have e : mo (S.getD i none) G = some (r, G') := e
  cases hx : S[i]? with
  | none =>
    rw [List.getD_eq_getElem?_getD, hx] at e
    cases e
  | some o =>
    rw [List.getD_eq_getElem?_getD, hx] at e
    cases o with
    | none => cases e
    | some x =>
      cases e
      obtain ⟨v, e1, rv⟩ := st.at_ i x hx
      exact ⟨v, e1, po.now st rv⟩
theorem de_c {v : V} {x : D} {e : Expr} (h : PE X e (tC v)) (hr : ∀ F, Rp X.K F v x) : PE X e (tD X.K Φ (cK x)) := by
  refine pe_imp h fun σ H Q q => ?_
  obtain ⟨F, S, G, r, G', st, e, po⟩ := q
  cases e
  exact po.now st (hr F)
theorem de_int {i : Int} {j pos} : PE X (.Constant (.int i) j pos) (tD X.K Φ (cK (.int i))) := de_c pe_int fun _ => .int i
theorem de_bl {b : Bool} {j pos} : PE X (.Constant (.bool b) j pos) (tD X.K Φ (cK (.bool b))) := de_c pe_bl fun _ => .bl b
theorem de_non {j pos} : PE X (.Constant .none j pos) (tD X.K Φ (cK .none)) := de_c pe_non fun _ => .non
theorem de_str {x : Str} {j pos} (h : PyData.strOk x = true := by decide +kernel) : PE X (.Constant (.str x) j pos) (tD X.K Φ (cK (.str x))) := de_c pe_str fun _ => .str x h
theorem de_globI {x : Str} {i : Int} {t : Tok} {pos : Pos} (hg : Gl X x) (hm : X.mg x = some (.int i t)) (hd : (x == ("__debug__" : Str)) = false := by decide) : PE X (.Name x pos) (tD X.K Φ (cK (.int i))) := de_c (pe_glob (v := .int i) hg hm ⟨t, rfl⟩ hd) fun _ => .int i
theorem de_globS {x y : Str} {t : Tok} {pos : Pos} (hg : Gl X x) (hm : X.mg x = some (.str y t)) (hy : PyData.strOk y = true) (hd : (x == ("__debug__" : Str)) = false := by decide) : PE X (.Name x pos) (tD X.K Φ (cK (.str y))) := de_c (pe_glob (v := .str y) hg hm ⟨t, rfl⟩ hd) fun _ => .str y hy
/-- a def (or a class) of the module as a value -/
theorem de_globF {x : Str} {a : Addr} {pos : Pos} (hg : Gl X x) (hm : X.mg x = some (.ref a)) (hd : (x == ("__debug__" : Str)) = false := by decide) : PE X (.Name x pos) (tD X.K Φ (cFn a)) := by
  refine pe_imp (pe_glob (v := .ref a) hg hm rfl hd) fun σ H Q q => ?_
  obtain ⟨F, S, G, r, G', st, e, po⟩ := q
  cases e
  exact po.now st (show VR X.K Φ F H (.ref a) (.fn a) from rfl)
theorem de_op {op : Operator} {r : R2} {f : DV → DV → M DV} {a b : Expr} {pos : Pos} {ca cb : SS → M DV} (ho : OpR X (binaryOp op) r) (h2 : Op2 X.K Φ r f) (ha : PE X a (tD X.K Φ ca)) (hb : PE X b (tD X.K Φ cb)) : PE X (.BinOp a op b pos) (tD X.K Φ (cBin f ca cb)) := by
  refine pe_imp (pe_op ho ha hb) fun σ H Q h => ?_
  obtain ⟨F, S, G, r, G', st, e, po⟩ := h
  refine tX_run ca st e po fun F1 H1 G1 x v st1 s1 vx e1 po1 => ?_
  refine tX_run cb st1 e1 po1 fun F2 H2 G2 y u st2 s2 vy e2 po2 => ?_
  exact h2 F2 H2 σ S G2 x y v u r G' Q st2 (vx.step s2) vy e2 po2
theorem de_cmp {op : CmpOp} {r : R2} {f : DV → DV → M DV} {a b : Expr} {pos : Pos} {ca cb : SS → M DV} (ho : OpR X (compareOp op) r) (h2 : Op2 X.K Φ r f) (ha : PE X a (tD X.K Φ ca)) (hb : PE X b (tD X.K Φ cb)) (hm : behindInMarks op b = false) : PE X (.Compare a [op] [b] pos) (tD X.K Φ (cBin f ca cb)) := by
  refine pe_imp (pe_cmpR ho ha hb hm) fun σ H Q h => ?_
  obtain ⟨F, S, G, r, G', st, e, po⟩ := h
  refine tX_run ca st e po fun F1 H1 G1 x v st1 s1 vx e1 po1 => ?_
  refine tX_run cb st1 e1 po1 fun F2 H2 G2 y u st2 s2 vy e2 po2 => ?_
  exact h2 F2 H2 σ S G2 x y v u r G' Q st2 (vx.step s2) vy e2 po2
theorem de_un {op : UnaryOp} {r : V → Hp → VK → Prop} {f : DV → M DV} {a : Expr} {pos : Pos} {ca : SS → M DV} (ho : UnR X (unaryOp op) r) (h1 : Op1 X.K Φ r f) (ha : PE X a (tD X.K Φ ca)) : PE X (.UnaryOp op a pos) (tD X.K Φ (cUn f ca)) := by
  refine pe_imp (pe_un ho ha) fun σ H Q h => ?_
  obtain ⟨F, S, G, r, G', st, e, po⟩ := h
  refine tX_run ca st e po fun F1 H1 G1 x v st1 s1 vx e1 po1 => ?_
  exact h1 F1 H1 σ S G1 x v r G' Q st1 vx e1 po1
theorem de_ix {r : R2} {f : DV → DV → M DV} {a b : Expr} {pos : Pos} {ca cb : SS → M DV} (ho : IxR X r) (h2 : Op2 X.K Φ r f) (ha : PE X a (tD X.K Φ ca)) (hb : PE X b (tD X.K Φ cb)) (hs : PlainIx b := by exact fun _ _ => rfl) : PE X (.Subscript a b pos) (tD X.K Φ (cBin f ca cb)) := by
  refine pe_imp (pe_ix ho ha hb hs) fun σ H Q h => ?_
  obtain ⟨F, S, G, r, G', st, e, po⟩ := h
  refine tX_run ca st e po fun F1 H1 G1 x v st1 s1 vx e1 po1 => ?_
  refine tX_run cb st1 e1 po1 fun F2 H2 G2 y u st2 s2 vy e2 po2 => ?_
  exact h2 F2 H2 σ S G2 x y v u r G' Q st2 (vx.step s2) vy e2 po2

/-! ### argument lists -/
theorem da_nil : PA X [] (tDA X.K Φ cNil) := by
  refine pa_imp pa_nil fun σ H Q h => ?_
  obtain ⟨F, S, G, r, G', st, e, po⟩ := h
  cases e
  exact po.now st (v := []) .nil
theorem da_cons {e : Expr} {es : List Expr} {c : SS → M DV} {d : SS → M (List DV)} (ha : PE X e (tD X.K Φ c)) (hr : PA X es (tDA X.K Φ d)) (hs : starEach (e :: es) X.env = (false, eval e X.env) :: starEach es X.env := by rfl) : PA X (e :: es) (tDA X.K Φ (cCons c d)) := by
  refine pa_imp (pa_cons ha hr hs) fun σ H Q h => ?_
  obtain ⟨F, S, G, r, G', st, e, po⟩ := h
  refine tX_run c st e po fun F1 H1 G1 x v st1 s1 vx e1 po1 => ?_
  refine tX_run d st1 e1 po1 fun F2 H2 G2 xs vs st2 s2 vxs e2 po2 => ?_
  cases e2
  exact po2.now st2 (.cons (vx.step s2) vxs)
theorem dk_nil : PK X [] (tDA X.K Φ cNil) := by
  refine pk_imp pk_nil fun σ H Q h => ?_
  obtain ⟨F, S, G, r, G', st, e, po⟩ := h
  cases e
  exact po.now st (v := []) .nil
theorem dk_cons {nm : Option Str} {kpos : Pos} {e : Expr} {es : List Keyword} {c : SS → M DV} {d : SS → M (List DV)} (ha : PE X e (tD X.K Φ c)) (hr : PK X es (tDA X.K Φ d)) : PK X (⟨nm, e, kpos⟩ :: es) (tDA X.K Φ (cCons c d)) := by
  refine pk_imp (pk_cons ha hr) fun σ H Q h => ?_
  obtain ⟨F, S, G, r, G', st, e, po⟩ := h
  refine tX_run c st e po fun F1 H1 G1 x v st1 s1 vx e1 po1 => ?_
  refine tX_run d st1 e1 po1 fun F2 H2 G2 xs vs st2 s2 vxs e2 po2 => ?_
  cases e2
  exact po2.now st2 (.cons (vx.step s2) vxs)
/-- all frozen data -/
def toDs : List DV → Option (List D)
  | [] => some []
  | .d x :: r => (toDs r).map (x :: ·)
  | _ :: _ => none
theorem toDs_rp {K : PySem.W.Frag} {F H : Hp} : ∀ {vs : List V} {xs : List DV} {ds : List D}, VRs K Φ F H vs xs → toDs xs = some ds → RpAll K F vs ds
  | _, [], _, .nil, e => by
    cases e
    exact .nil
  | _, .d x :: r, ds, .cons a b, e => by
    have e : (toDs r).map (x :: ·) = some ds := e
    cases h : toDs r with
    | none =>
      rw [h] at e
      cases e
    | some es =>
      rw [h] at e
      cases e
      exact .cons a (toDs_rp b h)
  | _, .vl _ :: _, _, .cons _ _, e => by cases e
  | _, .dr :: _, _, .cons _ _, e => by cases e
  | _, .sc _ :: _, _, .cons _ _, e => by cases e
  | _, .fn _ :: _, _, .cons _ _, e => by cases e
  | _, .ex _ :: _, _, .cons _ _, e => by cases e
theorem RpAll.len_line {n : Nat} (h : n ≤ 100000) : n ≤ sizeLine := Nat.le_trans h (by decide)
/-- (a, b, ..) -/
def fTup (xs : List DV) : M DV := match toDs xs with
  | some ds => if ds.length ≤ 100000 then mp (.d (.tuple ds)) else mz
  | none => mz
def fLst (xs : List DV) : M DV := match toDs xs with
  | some ds => if ds.length ≤ 100000 then mp (.d (.list ds)) else mz
  | none => mz
theorem de_tup {es : List Expr} {x1} {pos : Pos} {c : SS → M (List DV)} (h : PA X es (tDA X.K Φ c)) : PE X (.Tuple es x1 pos) (tD X.K Φ (cApp fTup c)) := by
  refine pe_imp (pe_tupF h) fun σ H Q h => ?_
  obtain ⟨F, S, G, r, G', st, e, po⟩ := h
  refine tX_run c st e po fun F1 H1 G1 xs vs st1 s1 vx e1 po1 => ?_
  unfold fTup at e1
  cases hd : toDs xs with
  | none =>
    rw [hd] at e1
    cases e1
  | some ds =>
    rw [hd] at e1
    have ra := toDs_rp vx hd
    by_cases hl : ds.length ≤ 100000
    · dsimp only at e1
      rw [if_pos hl] at e1
      cases e1
      refine ⟨by rw [ra.length]; exact RpAll.len_line hl, fun p o hp ho => po1.new st1 hp ?_⟩
      exact Rp.tup ⟨o, upd_same, ho⟩ (ra.mono (st1.lay hp).up)
    · dsimp only at e1
      rw [if_neg hl] at e1
      cases e1
theorem de_lst {es : List Expr} {pos : Pos} {c : SS → M (List DV)} (h : PA X es (tDA X.K Φ c)) : PE X (.List es pos) (tD X.K Φ (cApp fLst c)) := by
  refine pe_imp (pe_lst h) fun σ H Q h => ?_
  obtain ⟨F, S, G, r, G', st, e, po⟩ := h
  refine tX_run c st e po fun F1 H1 G1 xs vs st1 s1 vx e1 po1 => ?_
  unfold fLst at e1
  cases hd : toDs xs with
  | none =>
    rw [hd] at e1
    cases e1
  | some ds =>
    rw [hd] at e1
    have ra := toDs_rp vx hd
    by_cases hl : ds.length ≤ 100000
    · dsimp only at e1
      rw [if_pos hl] at e1
      cases e1
      refine ⟨by rw [ra.length]; exact RpAll.len_line hl, fun p hp => po1.new st1 hp ?_⟩
      exact Rp.lst upd_same (ra.mono (st1.lay hp).up)
    · dsimp only at e1
      rw [if_neg hl] at e1
      cases e1

/-- a new tuple as the answer -/
theorem Post.newT {K : PySem.W.Frag} {Φ : Fx} {F H : Hp} {σ : L2.St} {S : SS} {G : DG} {ds : List D} {vs : List V} {Q : VK} (po : Post (VR K Φ) Φ F H (.ok (.d (.tuple ds))) G Q) (st : St K Φ F H σ S G) (r : RpAll K F vs ds) : NewT H Q vs := fun p o hp ho =>
  po.new st hp (Rp.tup ⟨o, upd_same, ho⟩ (r.mono (st.lay hp).up))
theorem Post.newL {K : PySem.W.Frag} {Φ : Fx} {F H : Hp} {σ : L2.St} {S : SS} {G : DG} {ds : List D} {vs : List V} {Q : VK} (po : Post (VR K Φ) Φ F H (.ok (.d (.list ds))) G Q) (st : St K Φ F H σ S G) (r : RpAll K F vs ds) : ∀ p, H p = none → Q (.ref p) (upd H p (.lst vs)) := fun p hp =>
  po.new st hp (Rp.lst upd_same (r.mono (st.lay hp).up))

/-! ### built-in functions by name -/
theorem de_callB {x : Str} {f : List DV → M DV} {r : List V → Hp → VK → Prop} {e : Expr} {es : List Expr} {p pos : Pos} {id : String} {c : SS → M (List DV)} (hr : CallR X (.builtin id) r) (hf : OpA X.K Φ r f) (hg : Gl X x) (hm : X.mg x = none) (hv : bootBuiltins x = some (.builtin id)) (ha : PA X (e :: es) (tDA X.K Φ c))
    (hn : x ≠ "__name__" := by decide) (hdb : (x == ("__debug__" : Str)) = false := by decide) (he : starEach (e :: es) X.env = (false, eval e X.env) :: starEach es X.env := by rfl) (hpl : (backTo pos (starEach es X.env)).any (·.1) = false := by rfl) :
    PE X (.Call (.Name x p) (e :: es) [] pos) (tD X.K Φ (cApp f c)) := by
  refine pe_imp (pe_callB hr hg hm hv ha hn hdb he hpl) fun σ H Q h => ?_
  obtain ⟨F, S, G, r', G', st, e, po⟩ := h
  refine tX_run c st e po fun F1 H1 G1 xs vs st1 s1 vx e1 po1 => ?_
  exact hf F1 H1 σ S G1 xs vs r' G' Q st1 vx e1 po1
theorem de_callT {x : Str} {f : List DV → M DV} {r : List V → Hp → VK → Prop} {e : Expr} {es : List Expr} {p pos : Pos} {T : String} {c : SS → M (List DV)} (hr : CallR X (.type T) r) (hf : OpA X.K Φ r f) (hg : Gl X x) (hm : X.mg x = none) (hv : bootBuiltins x = some (.type T)) (ha : PA X (e :: es) (tDA X.K Φ c))
    (hn : x ≠ "__name__" := by decide) (hdb : (x == ("__debug__" : Str)) = false := by decide) (he : starEach (e :: es) X.env = (false, eval e X.env) :: starEach es X.env := by rfl) (hpl : (backTo pos (starEach es X.env)).any (·.1) = false := by rfl) :
    PE X (.Call (.Name x p) (e :: es) [] pos) (tD X.K Φ (cApp f c)) := by
  refine pe_imp (pe_callTy hr hg hm hv ha hn hdb he hpl) fun σ H Q h => ?_
  obtain ⟨F, S, G, r', G', st, e, po⟩ := h
  refine tX_run c st e po fun F1 H1 G1 xs vs st1 s1 vx e1 po1 => ?_
  exact hf F1 H1 σ S G1 xs vs r' G' Q st1 vx e1 po1
end
end DL

namespace DL
open PySem PySem.Spec PyProof.Rows L2

/-! ### tests -/
theorem mb_cases {α β : Type} {m : M α} {k : α → M β} {G G' : DG} {r : Rs β} (e : mb m k G = some (r, G')) : (∃ x, m G = some (.er x, G') ∧ r = .er x) ∨ ∃ x G1, m G = some (.ok x, G1) ∧ k x G1 = some (r, G') := by
  have e' : (match m G with | some (.ok x, G1) => k x G1 | some (.er e, G1) => some (.er e, G1) | none => none) = some (r, G') := e
  cases hm : m G with
  | none =>
    rw [hm] at e'
    cases e'
  | some p =>
    obtain ⟨q, G1⟩ := p
    rw [hm] at e'
    cases q with
    | ok x => exact .inr ⟨x, G1, rfl, e'⟩
    | er x =>
      cases e'
      exact .inl ⟨x, rfl, rfl⟩
def onB {β : Type} (x : DV) (k : Bool → M β) : M β := match x with
  | .d (.bool b) => k b
  | _ => mz
def cTest (c : SS → M DV) (S : SS) : M Bool := mb (c S) fun x => onB x mp
def cAndT (c d : SS → M Bool) (S : SS) : M Bool := mb (c S) fun b => if b = true then d S else mp false
def cOrT (c d : SS → M Bool) (S : SS) : M Bool := mb (c S) fun b => if b = true then mp true else d S
def cNotT (c : SS → M Bool) (S : SS) : M Bool := mb (c S) fun b => mp (!b)
def cAnd (c d : SS → M DV) (S : SS) : M DV := mb (c S) fun x => onB x fun b => if b = true then d S else mp (.d (.bool false))
def cOr (c d : SS → M DV) (S : SS) : M DV := mb (c S) fun x => onB x fun b => if b = true then mp (.d (.bool true)) else d S
def fNot (x : DV) : M DV := onB x fun b => mp (.d (.bool (!b)))
def cIf (t : SS → M Bool) (a b : SS → M DV) (S : SS) : M DV := mb (t S) fun k => if k = true then a S else b S
def cChain (f f' : DV → DV → M DV) (a b c : SS → M DV) (S : SS) : M DV := mb (a S) fun x => mb (b S) fun y => mb (f x y) fun z => onB z fun k => if k = true then mb (c S) fun w => f' y w else mp (.d (.bool false))
/-- the values that are a bool -/
theorem onB_of {β : Type} {K : PySem.W.Frag} {Φ : Fx} {F H : Hp} {v : V} {x : DV} {k : Bool → M β} {G : DG} {r : Rs β × DG} (h : VR K Φ F H v x) (e : onB x k G = some r) : ∃ b, v = .bl b ∧ x = .d (.bool b) ∧ k b G = some r := by
  cases x with
  | d d =>
    cases d with
    | bool b =>
      cases h
      exact ⟨b, rfl, rfl, e⟩
    | none => cases e
    | int => cases e
    | str => cases e
    | list => cases e
    | tuple => cases e
    | dict => cases e
  | vl => cases e
  | dr => cases e
  | sc => cases e
  | fn => cases e
  | ex => cases e
def onI {β : Type} (x : DV) (k : Int → M β) : M β := match x with
  | .d (.int i) => k i
  | _ => mz
def onS {β : Type} (x : DV) (k : Str → M β) : M β := match x with
  | .d (.str z) => k z
  | _ => mz
def onT {β : Type} (x : DV) (k : List D → M β) : M β := match x with
  | .d (.tuple ds) => k ds
  | _ => mz
/-- a list, frozen or one's own -/
def onL {β : Type} (x : DV) (k : List D → M β) : M β := match x with
  | .d (.list ds) => k ds
  | .vl ds => k ds
  | _ => mz
def onD {β : Type} (x : DV) (k : D → M β) : M β := match x with
  | .d z => k z
  | _ => mz
def on1 {β : Type} (xs : List DV) (k : DV → M β) : M β := match xs with
  | [x] => k x
  | _ => mz
def on2 {β : Type} (xs : List DV) (k : DV → DV → M β) : M β := match xs with
  | [x, y] => k x y
  | _ => mz
/-- a guard -/
def gd {β : Type} (p : Prop) [Decidable p] (m : M β) : M β := if p then m else mz
theorem gd_of {β : Type} {p : Prop} [Decidable p] {m : M β} {G : DG} {r : Rs β × DG} (e : gd p m G = some r) : p ∧ m G = some r := by
  unfold gd at e
  by_cases h : p
  · rw [if_pos h] at e
    exact ⟨h, e⟩
  · rw [if_neg h] at e
    cases e
theorem gd_yes {β : Type} {p : Prop} [Decidable p] {m : M β} (h : p) : gd p m = m := if_pos h
section
variable {β : Type} {K : PySem.W.Frag} {Φ : Fx} {F H : Hp} {v : V} {x : DV} {G : DG} {r : Rs β × DG}
theorem onI_of {k : Int → M β} (h : VR K Φ F H v x) (e : onI x k G = some r) : ∃ i, v = .int i ∧ x = .d (.int i) ∧ k i G = some r := by
  cases x with
  | d d =>
    cases d with
    | int i =>
      cases h
      exact ⟨i, rfl, rfl, e⟩
    | none => cases e
    | bool => cases e
    | str => cases e
    | list => cases e
    | tuple => cases e
    | dict => cases e
  | vl => cases e
  | dr => cases e
  | sc => cases e
  | fn => cases e
  | ex => cases e
theorem onS_of {k : Str → M β} (h : VR K Φ F H v x) (e : onS x k G = some r) : ∃ z, v = .str z ∧ x = .d (.str z) ∧ k z G = some r := by
  cases x with
  | d d =>
    cases d with
    | str z =>
      cases h
      exact ⟨z, rfl, rfl, e⟩
    | none => cases e
    | bool => cases e
    | int => cases e
    | list => cases e
    | tuple => cases e
    | dict => cases e
  | vl => cases e
  | dr => cases e
  | sc => cases e
  | fn => cases e
  | ex => cases e
theorem onT_of {k : List D → M β} (h : VR K Φ F H v x) (e : onT x k G = some r) : ∃ ds a vs, v = .ref a ∧ x = .d (.tuple ds) ∧ TpAt F a vs ∧ RpAll K F vs ds ∧ k ds G = some r := by
  cases x with
  | d d =>
    cases d with
    | tuple z =>
      cases h with
      | tup h1 h2 => exact ⟨z, _, _, rfl, rfl, h1, h2, e⟩
    | none => cases e
    | bool => cases e
    | int => cases e
    | list => cases e
    | str => cases e
    | dict => cases e
  | vl => cases e
  | dr => cases e
  | sc => cases e
  | fn => cases e
  | ex => cases e
theorem onL_of {k : List D → M β} (h : VR K Φ F H v x) (sb : Sub F H) (e : onL x k G = some r) : ∃ ds a vs, v = .ref a ∧ SqL K H a vs ∧ RpAll K F vs ds ∧ k ds G = some r := by
  cases x with
  | d d =>
    cases d with
    | list z =>
      cases h with
      | lst h1 h2 => exact ⟨z, _, _, rfl, SqL.of (sb _ _ h1), h2, e⟩
    | none => cases e
    | bool => cases e
    | int => cases e
    | tuple => cases e
    | str => cases e
    | dict => cases e
  | vl ds =>
    obtain ⟨a, vs, rfl, o, ra⟩ := h
    exact ⟨ds, a, vs, rfl, SqL.of o.at_, ra, e⟩
  | dr => cases e
  | sc => cases e
  | fn => cases e
  | ex => cases e
theorem onD_of {k : D → M β} (h : VR K Φ F H v x) (e : onD x k G = some r) : ∃ z, x = .d z ∧ Rp K F v z ∧ k z G = some r := by
  cases x with
  | d d => exact ⟨d, rfl, h, e⟩
  | vl => cases e
  | dr => cases e
  | sc => cases e
  | fn => cases e
  | ex => cases e
theorem on1_of {k : DV → M β} {vs : List V} {xs : List DV} (h : VRs K Φ F H vs xs) (e : on1 xs k G = some r) : ∃ x v, xs = [x] ∧ vs = [v] ∧ VR K Φ F H v x ∧ k x G = some r := by
  cases h with
  | nil => cases e
  | cons a b =>
    cases b with
    | nil => exact ⟨_, _, rfl, rfl, a, e⟩
    | cons => cases e
theorem on2_of {k : DV → DV → M β} {vs : List V} {xs : List DV} (h : VRs K Φ F H vs xs) (e : on2 xs k G = some r) : ∃ x y v u, xs = [x, y] ∧ vs = [v, u] ∧ VR K Φ F H v x ∧ VR K Φ F H u y ∧ k x y G = some r := by
  cases h with
  | nil => cases e
  | cons a b =>
    cases b with
    | nil => cases e
    | cons c d =>
      cases d with
      | nil => exact ⟨_, _, _, _, rfl, rfl, a, c, e⟩
      | cons => cases e
end
section
variable {X : Cx} {Φ : Fx} {a b c : Expr} {rest : List Expr} {pos : Pos} {ca cb cc : SS → M DV} {ta tb : SS → M Bool}
theorem test_run {K : PySem.W.Frag} {σ : L2.St} {H : Hp} {Q : Bool → Hp → Prop} {c : SS → M DV} (h : tDT K Φ (cTest c) σ H Q) : tD K Φ c σ H fun x H' => ∃ k, x = .bl k ∧ Q k H' := by
  obtain ⟨F, S, G, r, G', st, e, po⟩ := h
  refine tX_run c st e po fun F1 H1 G1 x v st1 s1 vx e1 po1 => ?_
  obtain ⟨k, rfl, rfl, e2⟩ := onB_of vx e1
  cases e2
  exact ⟨k, rfl, po1.now st1 rfl⟩
theorem dt_val {e : Expr} {c : SS → M DV} (h : PE X e (tD X.K Φ c)) (he : ∀ whole, isTrue e X.env whole = (do let v ← whole; standAt e.pos; holding [v] (truthy v)) := by intro _; rfl) : PT X e (tDT X.K Φ (cTest c)) :=
  pt_imp (pt_val h he) fun σ H Q q => test_run q
theorem dt_cmp {op : CmpOp} {r : R2} {f : DV → DV → M DV} (ho : OpR X (compareOp op) r) (h2 : Op2 X.K Φ r f) (ha : PE X a (tD X.K Φ ca)) (hb : PE X b (tD X.K Φ cb)) (hm : behindInMarks op b = false) : PT X (.Compare a [op] [b] pos) (tDT X.K Φ (cTest (cBin f ca cb))) := by
  refine pt_imp (pt_cmpR ho ha hb hm) fun σ H Q h => ?_
  have q := test_run h
  obtain ⟨F, S, G, r, G', st, e, po⟩ := q
  refine tX_run ca st e po fun F1 H1 G1 x v st1 s1 vx e1 po1 => ?_
  refine tX_run cb st1 e1 po1 fun F2 H2 G2 y u st2 s2 vy e2 po2 => ?_
  exact h2 F2 H2 σ S G2 x y v u r G' _ st2 (vx.step s2) vy e2 po2
theorem dt_and1 (ha : PT X a (tDT X.K Φ ta)) : PW X (.BoolOp .And [a] pos) (tDT X.K Φ ta) := pw_and1 ha
theorem dt_or1 (ha : PT X a (tDT X.K Φ ta)) : PW X (.BoolOp .Or [a] pos) (tDT X.K Φ ta) := pw_or1 ha
theorem dt_and (ha : PT X a (tDT X.K Φ ta)) (hb : PW X (.BoolOp .And (b :: rest) pos) (tDT X.K Φ tb)) : PW X (.BoolOp .And (a :: b :: rest) pos) (tDT X.K Φ (cAndT ta tb)) := by
  refine pw_imp (pw_and ha hb) fun σ H Q h => ?_
  obtain ⟨F, S, G, r, G', st, e, po⟩ := h
  refine tX_run ta st e po fun F1 H1 G1 x v st1 s1 vx e1 po1 => ?_
  obtain rfl : v = x := vx
  cases v with
  | true => exact iteT ⟨F1, S, G1, r, G', st1, e1, po1⟩
  | false =>
    cases e1
    exact iteF (po1.now st1 rfl)
theorem dt_or (ha : PT X a (tDT X.K Φ ta)) (hb : PW X (.BoolOp .Or (b :: rest) pos) (tDT X.K Φ tb)) : PW X (.BoolOp .Or (a :: b :: rest) pos) (tDT X.K Φ (cOrT ta tb)) := by
  refine pw_imp (pw_or ha hb) fun σ H Q h => ?_
  obtain ⟨F, S, G, r, G', st, e, po⟩ := h
  refine tX_run ta st e po fun F1 H1 G1 x v st1 s1 vx e1 po1 => ?_
  obtain rfl : v = x := vx
  cases v with
  | true =>
    cases e1
    exact iteT (po1.now st1 rfl)
  | false => exact iteF ⟨F1, S, G1, r, G', st1, e1, po1⟩
theorem dt_not (ha : PT X a (tDT X.K Φ ta)) : PT X (.UnaryOp .Not a pos) (tDT X.K Φ (cNotT ta)) := by
  refine pt_imp (pt_not ha) fun σ H Q h => ?_
  obtain ⟨F, S, G, r, G', st, e, po⟩ := h
  refine tX_run ta st e po fun F1 H1 G1 x v st1 s1 vx e1 po1 => ?_
  obtain rfl : v = x := vx
  cases e1
  exact po1.now st1 rfl
theorem de_one {op} (h : PE X a (tD X.K Φ ca)) : PE X (.BoolOp op [a] pos) (tD X.K Φ ca) := pe_one h
theorem de_and (ha : PE X a (tD X.K Φ ca)) (hb : PE X (.BoolOp .And (b :: rest) pos) (tD X.K Φ cb)) : PE X (.BoolOp .And (a :: b :: rest) pos) (tD X.K Φ (cAnd ca cb)) := by
  refine pe_imp (pe_and ha hb) fun σ H Q h => ?_
  obtain ⟨F, S, G, r, G', st, e, po⟩ := h
  refine tX_run ca st e po fun F1 H1 G1 x v st1 s1 vx e1 po1 => ?_
  obtain ⟨k, rfl, rfl, e2⟩ := onB_of vx e1
  refine ⟨k, rfl, ?_⟩
  cases k with
  | true => exact iteT ⟨F1, S, G1, r, G', st1, e2, po1⟩
  | false =>
    cases e2
    exact iteF (po1.now st1 (Rp.bl false))
theorem de_or (ha : PE X a (tD X.K Φ ca)) (hb : PE X (.BoolOp .Or (b :: rest) pos) (tD X.K Φ cb)) : PE X (.BoolOp .Or (a :: b :: rest) pos) (tD X.K Φ (cOr ca cb)) := by
  refine pe_imp (pe_or ha hb) fun σ H Q h => ?_
  obtain ⟨F, S, G, r, G', st, e, po⟩ := h
  refine tX_run ca st e po fun F1 H1 G1 x v st1 s1 vx e1 po1 => ?_
  obtain ⟨k, rfl, rfl, e2⟩ := onB_of vx e1
  refine ⟨k, rfl, ?_⟩
  cases k with
  | true =>
    cases e2
    exact iteT (po1.now st1 (Rp.bl true))
  | false => exact iteF ⟨F1, S, G1, r, G', st1, e2, po1⟩
theorem de_not (ha : PE X a (tD X.K Φ ca)) : PE X (.UnaryOp .Not a pos) (tD X.K Φ (cUn fNot ca)) := by
  refine pe_imp (pe_not ha) fun σ H Q h => ?_
  obtain ⟨F, S, G, r, G', st, e, po⟩ := h
  refine tX_run ca st e po fun F1 H1 G1 x v st1 s1 vx e1 po1 => ?_
  have e1 : onB x (fun b => mp (DV.d (.bool (!b)))) G1 = some (r, G') := e1
  obtain ⟨k, rfl, rfl, e2⟩ := onB_of vx e1
  cases e2
  exact ⟨k, rfl, po1.now st1 (Rp.bl _)⟩
theorem de_if (hc : PT X c (tDT X.K Φ ta)) (ha : PE X a (tD X.K Φ ca)) (hb : PE X b (tD X.K Φ cb)) : PE X (.IfExp c a b pos) (tD X.K Φ (cIf ta ca cb)) := by
  refine pe_imp (pe_ifExp hc ha hb) fun σ H Q h => ?_
  obtain ⟨F, S, G, r, G', st, e, po⟩ := h
  refine tX_run ta st e po fun F1 H1 G1 x v st1 s1 vx e1 po1 => ?_
  obtain rfl : v = x := vx
  cases v with
  | true => exact iteT ⟨F1, S, G1, r, G', st1, e1, po1⟩
  | false => exact iteF ⟨F1, S, G1, r, G', st1, e1, po1⟩
theorem de_chain {op op' : CmpOp} {r r' : R2} {f f' : DV → DV → M DV} (ho : OpR X (compareOp op) r) (ho' : OpR X (compareOp op') r') (h2 : Op2 X.K Φ r f) (h2' : Op2 X.K Φ r' f') (ha : PE X a (tD X.K Φ ca)) (hb : PE X b (tD X.K Φ cb)) (hc : PE X c (tD X.K Φ cc))
    (hm : lastMarks [op, op'] [b, c] = false := by with_unfolding_all rfl) : PE X (.Compare a [op, op'] [b, c] pos) (tD X.K Φ (cChain f f' ca cb cc)) := by
  refine pe_imp (pe_chain ho ho' ha hb hc hm) fun σ H Q h => ?_
  obtain ⟨F, S, G, r1, G', st, e, po⟩ := h
  refine tX_run ca st e po fun F1 H1 G1 x v st1 s1 vx e1 po1 => ?_
  refine tX_run cb st1 e1 po1 fun F2 H2 G2 y u st2 s2 vy e2 po2 => ?_
  rcases mb_cases e2 with ⟨x', hf, rfl⟩ | ⟨z, G3, hf, e3⟩
  · exact h2 F2 H2 σ S G2 x y v u _ G' _ st2 (vx.step s2) vy hf fun F3 H3 s3 w3 => po2 F3 H3 s3 w3
  · refine h2 F2 H2 σ S G2 x y v u _ G3 _ st2 (vx.step s2) vy hf fun F3 H3 s3 w3 vz hz => ?_
    obtain ⟨k, rfl, rfl, e4⟩ := onB_of hz e3
    refine ⟨k, rfl, ?_⟩
    cases k with
    | true =>
      refine iteT ?_
      refine tX_run cc (st2.step s3 w3) e4 (po2.later s3) fun F4 H4 G4 z4 v4 st4 s4 vz4 e5 po4 => ?_
      exact h2' F4 H4 σ S G4 y z4 u v4 r1 G' Q st4 ((vy.step s3).step s4) vz4 e5 po4
    | false =>
      cases e4
      exact iteF ((po2.later s3).now (st2.step s3 w3) (Rp.bl false))
theorem dt_chain {op op' : CmpOp} {r r' : R2} {f f' : DV → DV → M DV} (ho : OpR X (compareOp op) r) (ho' : OpR X (compareOp op') r') (h2 : Op2 X.K Φ r f) (h2' : Op2 X.K Φ r' f') (ha : PE X a (tD X.K Φ ca)) (hb : PE X b (tD X.K Φ cb)) (hc : PE X c (tD X.K Φ cc))
    (hm : lastMarks [op, op'] [b, c] = false := by with_unfolding_all rfl) : PT X (.Compare a [op, op'] [b, c] pos) (tDT X.K Φ (cTest (cChain f f' ca cb cc))) := by
  refine pt_imp (pt_chain ho ho' ha hb hc hm) fun σ H Q h => ?_
  obtain ⟨F, S, G, r1, G', st, e, po⟩ := test_run h
  refine tX_run ca st e po fun F1 H1 G1 x v st1 s1 vx e1 po1 => ?_
  refine tX_run cb st1 e1 po1 fun F2 H2 G2 y u st2 s2 vy e2 po2 => ?_
  rcases mb_cases e2 with ⟨x', hf, rfl⟩ | ⟨z, G3, hf, e3⟩
  · exact h2 F2 H2 σ S G2 x y v u _ G' _ st2 (vx.step s2) vy hf fun F3 H3 s3 w3 => po2 F3 H3 s3 w3
  · refine h2 F2 H2 σ S G2 x y v u _ G3 _ st2 (vx.step s2) vy hf fun F3 H3 s3 w3 vz hz => ?_
    obtain ⟨k, rfl, rfl, e4⟩ := onB_of hz e3
    refine ⟨k, rfl, ?_⟩
    cases k with
    | true =>
      refine iteT ?_
      refine tX_run cc (st2.step s3 w3) e4 (po2.later s3) fun F4 H4 G4 z4 v4 st4 s4 vz4 e5 po4 => ?_
      exact h2' F4 H4 σ S G4 y z4 u v4 r1 G' _ st4 ((vy.step s3).step s4) vz4 e5 po4
    | false =>
      cases e4
      exact iteF ((po2.later s3).now (st2.step s3 w3) (Rp.bl false))
end
end DL

namespace DL
open PySem PySem.Spec PyProof.Rows L2

/-! ### statements: predicate transformers over data -/
structure AE where
  nx : SS → DG → Prop
  rt : DV → DG → Prop
  er : Er → DG → Prop
  bk : SS → DG → Prop
  ct : SS → DG → Prop
abbrev TSa := AE → SS → DG → Prop
def isVl : DV → Bool
  | .vl _ => true
  | _ => false
/-- handed back for good -/
def frz : DV → DV
  | .vl xs => .d (.list xs)
  | x => x
structure EndsOk (K : PySem.W.Frag) (Φ : Fx) (F : Hp) (A : AE) (D : Ends) : Prop where
  nx : ∀ F' H σ S G, Sub F F' → St K Φ F' H σ S G → A.nx S G → D.nx σ H
  rt : ∀ F' H' v x G, Step Φ Φ.F0 Φ.H0 F' H' → Φ.W H' G → VR K Φ F' H' v x → isVl x = false → A.rt x G → D.rt v H'
  er : ∀ F' H' e G, Step Φ Φ.F0 Φ.H0 F' H' → Φ.W H' G → A.er e G → Φ.Ec e H'
  bk : ∀ F' H σ S G, Sub F F' → St K Φ F' H σ S G → A.bk S G → D.bk σ H
  ct : ∀ F' H σ S G, Sub F F' → St K Φ F' H σ S G → A.ct S G → D.ct σ H
theorem EndsOk.up {K : PySem.W.Frag} {Φ : Fx} {F F' : Hp} {A : AE} {D : Ends} (h : EndsOk K Φ F A D) (s : Sub F F') : EndsOk K Φ F' A D :=
  ⟨fun F2 H σ S G q => h.nx F2 H σ S G (s.trans q), h.rt, h.er, fun F2 H σ S G q => h.bk F2 H σ S G (s.trans q), fun F2 H σ S G q => h.ct F2 H σ S G (s.trans q)⟩
def tS (K : PySem.W.Frag) (Φ : Fx) (a : TSa) : TS := fun D σ H => ∃ F S G A, St K Φ F H σ S G ∧ a A S G ∧ EndsOk K Φ F A D
/-- an expression, then what follows -/
def aEv {α : Type} (m : M α) (A : AE) (G : DG) (k : α → DG → Prop) : Prop := match m G with
  | some (.ok x, G1) => k x G1
  | some (.er e, G1) => A.er e G1
  | none => False
theorem aEv_ok {α : Type} {m : M α} {A : AE} {G G1 : DG} {k : α → DG → Prop} {x : α} (h : m G = some (.ok x, G1)) (q : k x G1) : aEv m A G k := by
  unfold aEv
  rw [h]
  exact q
theorem aEv_er {α : Type} {m : M α} {A : AE} {G G1 : DG} {k : α → DG → Prop} {x : Er} (h : m G = some (.er x, G1)) (q : A.er x G1) : aEv m A G k := by
  unfold aEv
  rw [h]
  exact q
theorem aEv_mp {α : Type} {A : AE} {G : DG} {k : α → DG → Prop} {x : α} : aEv (mp x) A G k = k x G := rfl
theorem aEv_mb {α β : Type} {m : M α} {f : α → M β} {A : AE} {G : DG} {k : β → DG → Prop} : aEv (mb m f) A G k = aEv m A G (fun x G1 => aEv (f x) A G1 k) := by
  unfold aEv mb
  cases m G with
  | none => rfl
  | some p =>
    obtain ⟨r, G1⟩ := p
    cases r with
    | ok x => rfl
    | er e => rfl
/-- the frame's step since the entry -/
theorem St.fin {K : PySem.W.Frag} {Φ : Fx} {F H : Hp} {σ : L2.St} {S : SS} {G : DG} (st : St K Φ F H σ S G) : Step Φ Φ.F0 Φ.H0 F H := ⟨st.f0, st.sub, st.noex, st.new, st.pres, fun _ => st.nt⟩
theorem ev_run {K : PySem.W.Frag} {Φ : Fx} {α τ : Type} {R : Hp → Hp → τ → α → Prop} (c : SS → M α) {F H : Hp} {σ : L2.St} {S : SS} {G : DG} {A : AE} {D : Ends} {k : α → DG → Prop} {Q : τ → Hp → Prop} (st : St K Φ F H σ S G) (h : aEv (c S) A G k)
    (en : EndsOk K Φ F A D) (next : ∀ F' H' G1 x v, St K Φ F' H' σ S G1 → Step Φ F H F' H' → R F' H' v x → k x G1 → Q v H') : tX K Φ R c σ H Q := by
  unfold aEv at h
  cases hc : c S G with
  | none =>
    rw [hc] at h
    exact h.elim
  | some p =>
    obtain ⟨r, G1⟩ := p
    rw [hc] at h
    refine ⟨F, S, G, r, G1, st, hc, fun F' H' s w => ?_⟩
    cases r with
    | ok x => exact fun v rv => next F' H' G1 x v (st.step s w) s rv h
    | er e => exact en.er F' H' e G1 (st.step s w).fin w h

theorem ps_imp {X : Cx} {e : Stmt} {t t' : TS} (h : PS X e t) (i : ∀ D σ H, t' D σ H → t D σ H) : PS X e t' := ⟨fun pins s σ H D I q => h.run pins s σ H D I (i D σ H q)⟩
theorem pss_imp {X : Cx} {e : List Stmt} {t t' : TS} (h : PSs X e t) (i : ∀ D σ H, t' D σ H → t D σ H) : PSs X e t' := ⟨fun pins s σ H D I q => h.run pins s σ H D I (i D σ H q)⟩
theorem pg_imp {X : Cx} {e : Expr} {t t' : TG} (h : PG X e t) (i : ∀ v σ H Q, t' v σ H Q → t v σ H Q) : PG X e t' := ⟨fun pins s σ H v u Q I r q => h.run pins s σ H v u Q I r (i v σ H Q q)⟩
theorem pgs_imp {X : Cx} {es : List Expr} {t t' : TGs} (h : PGs X es t) (i : ∀ v σ H Q, t' v σ H Q → t v σ H Q) : PGs X es t' := ⟨fun pins s σ H v u Q I r q => h.run pins s σ H v u Q I r (i v σ H Q q)⟩

def aNext : TSa := fun A S G => A.nx S G
def aSeq (a b : TSa) : TSa := fun A S G => a { A with nx := b A } S G
def aRet (c : SS → M DV) : TSa := fun A S G => aEv (c S) A G fun x G1 => A.rt (frz x) G1
def aRetN : TSa := fun A _ G => A.rt (.d .none) G
def aIf (t : SS → M Bool) (a b : TSa) : TSa := fun A S G => aEv (t S) A G fun k G1 => if k = true then a A S G1 else b A S G1
def aDrop (c : SS → M DV) : TSa := fun A S G => aEv (c S) A G fun _ G1 => A.nx S G1
def aNever : TSa := fun _ _ _ => False
def aBreak : TSa := fun A S G => A.bk S G
def aCont : TSa := fun A S G => A.ct S G
def aWhN (t : SS → M Bool) (b : TSa) : Nat → TSa
  | 0 => fun _ _ _ => False
  | n + 1 => fun A S G => aEv (t S) A G fun k G1 => if k = true then b { A with nx := aWhN t b n A, ct := aWhN t b n A, bk := A.nx } S G1 else A.nx S G1
def aWh (t : SS → M Bool) (b : TSa) : TSa := fun A S G => ∃ n, aWhN t b n A S G

section
variable {X : Cx} {Φ : Fx}
theorem ds_nil : PSs X [] (tS X.K Φ aNext) := pss_imp pss_nil fun D σ H ⟨F, S, G, A, st, h, en⟩ => en.nx F H σ S G (.refl F) st h
theorem ds_cons {s : Stmt} {r : List Stmt} {a b : TSa} (h1 : PS X s (tS X.K Φ a)) (h2 : PSs X r (tS X.K Φ b)) : PSs X (s :: r) (tS X.K Φ (aSeq a b)) := pss_imp (pss_cons h1 h2) fun D σ H ⟨F, S, G, A, st, h, en⟩ =>
  ⟨F, S, G, _, st, h, ⟨fun F' H σ S G q s2 h2 => ⟨F', S, G, A, s2, h2, en.up q⟩, en.rt, en.er, en.bk, en.ct⟩⟩
theorem ds_one {s : Stmt} {a : TSa} (h1 : PS X s (tS X.K Φ a)) : PSs X [s] (tS X.K Φ a) := pss_one h1
theorem ds_pass {pos} : PS X (.Pass pos) (tS X.K Φ aNext) := ps_imp ps_pass fun D σ H ⟨F, S, G, A, st, h, en⟩ => en.nx F H σ S G (.refl F) st h
theorem ds_break {pos} : PS X (.Break pos) (tS X.K Φ aBreak) := ps_imp ps_break fun D σ H ⟨F, S, G, A, st, h, en⟩ => en.bk F H σ S G (.refl F) st h
theorem ds_cont {pos} : PS X (.Continue pos) (tS X.K Φ aCont) := ps_imp ps_continue fun D σ H ⟨F, S, G, A, st, h, en⟩ => en.ct F H σ S G (.refl F) st h
theorem ds_never {s : Stmt} : PS X s (tS X.K Φ aNever) := ps_imp ps_never fun D σ H ⟨F, S, G, A, st, h, en⟩ => h
theorem dss_never {s : List Stmt} : PSs X s (tS X.K Φ aNever) := pss_imp pss_never fun D σ H ⟨F, S, G, A, st, h, en⟩ => h
theorem ds_doc {x j pos pos'} : PS X (.Expr (.Constant (.str x) j pos) pos') (tS X.K Φ aNext) := ps_imp ps_doc fun D σ H ⟨F, S, G, A, st, h, en⟩ => en.nx F H σ S G (.refl F) st h
/-- an own list is frozen -/
theorem Own.freeze {K : PySem.W.Frag} {F H : Hp} {σ : L2.St} {S : SS} {G : DG} {a : Addr} {vs : List V} (st : St K Φ F H σ S G) (o : Own Φ F H a vs) : Step Φ Φ.F0 Φ.H0 (upd F a (.lst vs)) H ∧ Sub F (upd F a (.lst vs)) := by
  have up : Sub F (upd F a (.lst vs)) := fun b u e => by
    rw [upd_ne (ne_of_none e o.nf)]
    exact e
  refine ⟨⟨st.f0.trans up, fun b u e => ?_, fun b hb => ?_, fun b u e => ?_, st.pres, fun _ b ps e => ?_⟩, up⟩
  · by_cases hb : b = a
    · subst hb
      rw [upd_same] at e
      cases e
      exact o.at_
    · rw [upd_ne hb] at e
      exact st.sub b u e
  · rw [upd_ne (fun z => o.ne (by rw [← z]; exact hb))]
    exact st.noex b hb
  · by_cases hb : b = a
    · subst hb
      exact .inr o.n0
    · rw [upd_ne hb] at e
      exact st.new b u e
  · by_cases hb : b = a
    · subst hb
      rw [upd_same] at e
      cases e
    · rw [upd_ne hb] at e
      exact st.nt b ps e
theorem ds_ret {e : Expr} {c : SS → M DV} {pos : Pos} (he : PE X e (tD X.K Φ c)) : PS X (.Return (some e) pos) (tS X.K Φ (aRet c)) := ps_imp (ps_ret he) fun D σ H ⟨F, S, G, A, st, h, en⟩ =>
  ev_run c st h en fun F' H' G1 x v st1 s1 vx q => by
    cases x with
    | vl xs =>
      obtain ⟨a, vs, rfl, o, r⟩ := vx
      obtain ⟨fin, up⟩ := o.freeze st1
      exact en.rt _ H' (.ref a) (.d (.list xs)) G1 fin st1.w (Rp.lst upd_same (r.mono up)) rfl q
    | d x => exact en.rt F' H' v (.d x) G1 st1.fin st1.w vx rfl q
    | dr => exact en.rt F' H' v .dr G1 st1.fin st1.w vx rfl q
    | sc ns => exact en.rt F' H' v (.sc ns) G1 st1.fin st1.w vx rfl q
    | fn a => exact en.rt F' H' v (.fn a) G1 st1.fin st1.w vx rfl q
    | ex e => exact en.rt F' H' v (.ex e) G1 st1.fin st1.w vx rfl q
theorem ds_retN {pos} : PS X (.Return none pos) (tS X.K Φ aRetN) := ps_imp ps_retN fun D σ H ⟨F, S, G, A, st, h, en⟩ => en.rt F H .non (.d .none) G st.fin st.w .non rfl h
theorem ds_if {c : Expr} {p q : List Stmt} {t : SS → M Bool} {a b : TSa} {pos : Pos} (hc : PT X c (tDT X.K Φ t)) (ha : PSs X p (tS X.K Φ a)) (hb : PSs X q (tS X.K Φ b)) : PS X (.If c p q pos) (tS X.K Φ (aIf t a b)) :=
  ps_imp (ps_if hc ha hb) fun D σ H ⟨F, S, G, A, st, h, en⟩ => ev_run t st h en fun F' H' G1 x v st1 s1 vx q => by
    obtain rfl : v = x := vx
    cases v with
    | true =>
      refine iteT ⟨F', S, G1, A, st1, ?_, en.up s1.up⟩
      rw [if_pos rfl] at q
      exact q
    | false =>
      refine iteF ⟨F', S, G1, A, st1, ?_, en.up s1.up⟩
      rw [if_neg Bool.false_ne_true] at q
      exact q
theorem ds_drop {e : Expr} {c : SS → M DV} {pos : Pos} (he : PE X e (tD X.K Φ c)) (hs : swapsWith e none pos.line X.env = pure false := by rfl) : PS X (.Expr e pos) (tS X.K Φ (aDrop c)) :=
  ps_imp (ps_expr he hs) fun D σ H ⟨F, S, G, A, st, h, en⟩ => ev_run c st h en fun F' H' G1 x v st1 s1 vx q => en.nx F' H' σ S G1 s1.up st1 q
theorem ds_while {c : Expr} {body : List Stmt} {t : SS → M Bool} {b : TSa} {pos : Pos} (hp : PassesOwn (model X.prog X.w) X.A X.env X.xe) (hc : PT X c (tDT X.K Φ t)) (hb : PSs X body (tS X.K Φ b)) : PS X (.While c body [] pos) (tS X.K Φ (aWh t b)) :=
  ps_imp (ps_while hp hc hb) fun D σ H ⟨F, S, G, A, st, ⟨n, h⟩, en⟩ => by
    refine ⟨fun m σ H => ∃ F S G, St X.K Φ F H σ S G ∧ aWhN t b m A S G ∧ EndsOk X.K Φ F A D, ⟨n, F, S, G, st, h, en⟩, ?_⟩
    rintro m σ H ⟨F, S, G, st, h, en⟩
    cases m with
    | zero => exact h.elim
    | succ m =>
      refine ev_run t st h en fun F' H' G1 x v st1 s1 vx q => ?_
      obtain rfl : v = x := vx
      cases v with
      | false =>
        refine iteF ?_
        rw [if_neg Bool.false_ne_true] at q
        exact en.nx F' H' σ S G1 s1.up st1 q
      | true =>
        rw [if_pos rfl] at q
        refine iteT ⟨fun σ' H' => ∃ F S G, St X.K Φ F H' σ' S G ∧ aWhN t b m A S G ∧ EndsOk X.K Φ F A D, fun σ' H' hN => ⟨m, Nat.lt_succ_self m, hN⟩, F', S, G1, _, st1, q, ?_⟩
        have en' := en.up s1.up
        exact ⟨fun F2 H2 σ2 S2 G2 u s2 a2 => ⟨F2, S2, G2, s2, a2, en'.up u⟩, en.rt, en.er, fun F2 H2 σ2 S2 G2 u s2 a2 => en'.nx F2 H2 σ2 S2 G2 u s2 a2, fun F2 H2 σ2 S2 G2 u s2 a2 => ⟨F2, S2, G2, s2, a2, en'.up u⟩⟩
end

/-! ### slots -/
section
variable {K : PySem.W.Frag} {Φ : Fx} {F H : Hp} {σ : L2.St} {S : SS} {G : DG}
theorem getset {α : Type} {l : List α} {i j : Nat} {x y : α} (h : (l.set i x)[j]? = some y) : (j = i ∧ y = x) ∨ (j ≠ i ∧ l[j]? = some y) := by
  by_cases e : i = j
  · subst e
    by_cases hl : i < l.length
    · rw [List.getElem?_set_self hl] at h
      exact .inl ⟨rfl, (Option.some.inj h).symm⟩
    · rw [List.getElem?_eq_none (by rw [List.length_set]; omega)] at h
      cases h
  · rw [List.getElem?_set_ne e] at h
    exact .inr ⟨fun z => e z.symm, h⟩
/-- what a store may put into a slot: frozen things, or a list that is new since H0 -/
def VN (K : PySem.W.Frag) (Φ : Fx) (Hs F H : Hp) (v : V) (x : DV) : Prop := VR K Φ F H v x ∧ (isVl x = true → ∃ a, v = .ref a ∧ Nm Hs a)
theorem St.set (st : St K Φ F H σ S G) (i : Nat) {v : V} {x : DV} (hv : VR K Φ F H v x) (hn : isVl x = true → ∀ (j : Nat) xs, S[j]? = some (some (.vl xs)) → σ[j]? ≠ some (some v)) : St K Φ F H (σ.set i (some v)) (S.set i (some x)) G where
  ok := st.ok
  sub := st.sub
  noex := st.noex
  f0 := st.f0
  new := st.new
  pres := st.pres
  nt := st.nt
  w := st.w
  len := by rw [List.length_set, List.length_set, st.len]
  at_ := fun j y e => by
    rcases getset e with ⟨rfl, e2⟩ | ⟨hj, e2⟩
    · cases e2
      have hl : j < S.length := by
        have q := (List.getElem?_eq_some_iff.mp e).1
        rwa [List.length_set] at q
      exact ⟨v, List.getElem?_set_self (by rw [st.len]; exact hl), hv⟩
    · obtain ⟨u, e3, r⟩ := st.at_ j y e2
      exact ⟨u, by rw [List.getElem?_set_ne (Ne.symm hj)]; exact e3, r⟩
  dist := fun a b p xs ys hab e1 e2 e3 e4 => by
    rcases getset e1 with ⟨rfl, q1⟩ | ⟨h1, q1⟩
    · rcases getset e2 with ⟨rfl, q2⟩ | ⟨h2, q2⟩
      · exact hab rfl
      · rcases getset e3 with ⟨_, q3⟩ | ⟨h3, _⟩
        · rw [List.getElem?_set_ne (Ne.symm h2)] at e4
          cases q1
          cases q3
          exact hn rfl b ys q2 e4
        · exact h3 rfl
    · rw [List.getElem?_set_ne (Ne.symm h1)] at e3
      rcases getset e2 with ⟨rfl, q2⟩ | ⟨h2, q2⟩
      · rcases getset e4 with ⟨_, q4⟩ | ⟨h4, _⟩
        · cases q2
          cases q4
          exact hn rfl a xs q1 e3
        · exact h4 rfl
      · rw [List.getElem?_set_ne (Ne.symm h2)] at e4
        exact st.dist a b p xs ys hab q1 q2 e3 e4
end

theorem St.setN {K : PySem.W.Frag} {Φ : Fx} {F H Hs Fs : Hp} {σ : L2.St} {S : SS} {G Gs : DG} (st : St K Φ F H σ S G) (ss : St K Φ Fs Hs σ S Gs) (i : Nat) {v : V} {x : DV} (h : VN K Φ Hs F H v x) : St K Φ F H (σ.set i (some v)) (S.set i (some x)) G := by
  refine st.set i h.1 fun hx j xs e1 e2 => ?_
  obtain ⟨a, rfl, ha⟩ := h.2 hx
  obtain ⟨u, e3, b, vs, rfl, o, _⟩ := ss.at_ j _ e1
  rw [e3] at e2
  cases e2
  exact nm_no ha o.at_ rfl

/-- values for a store -/
abbrev tV (K : PySem.W.Frag) (Φ : Fx) (c : SS → M DV) : TE := fun σ H => tX K Φ (VN K Φ H) c σ H
/-- only what is frozen -/
def cNv (c : SS → M DV) (S : SS) : M DV := mb (c S) fun x => if isVl x = true then mz else mp x
def aSet (i : Nat) (c : SS → M DV) : TSa := fun A S G => aEv (c S) A G fun x G1 => A.nx (S.set i (some x)) G1
def aPar (i j : Nat) (c d : SS → M DV) : TSa := fun A S G => aEv (c S) A G fun x G1 => aEv (d S) A G1 fun y G2 => A.nx ((S.set i (some x)).set j (some y)) G2
def aPar3 (i j l : Nat) (c d f : SS → M DV) : TSa := fun A S G => aEv (c S) A G fun x G1 => aEv (d S) A G1 fun y G2 => aEv (f S) A G2 fun z G3 => A.nx (((S.set i (some x)).set j (some y)).set l (some z)) G3
theorem VN.of {K : PySem.W.Frag} {Φ : Fx} {F H Hs : Hp} {v : V} {x : DV} (h : VR K Φ F H v x) (q : isVl x = false) : VN K Φ Hs F H v x := ⟨h, fun z => by rw [q] at z; cases z⟩
theorem VN.step {K : PySem.W.Frag} {Φ : Fx} {F H F' H' Hs : Hp} {v : V} {x : DV} (h : VN K Φ Hs F H v x) (s : Step Φ F H F' H') : VN K Φ Hs F' H' v x := ⟨h.1.step s, h.2⟩
/-- new since later is new since before -/
theorem VN.back {K : PySem.W.Frag} {Φ : Fx} {F H F1 H1 Hs Fs : Hp} {v : V} {x : DV} (h : VN K Φ H1 F H v x) (s : Step Φ Fs Hs F1 H1) : VN K Φ Hs F H v x := by
  refine ⟨h.1, fun hx => ?_⟩
  obtain ⟨a, rfl, ha⟩ := h.2 hx
  refine ⟨a, rfl, ?_⟩
  cases x with
  | vl xs =>
    obtain ⟨b, vs, e, o, _⟩ := h.1
    cases e
    exact nm_by fun u q m => nm_no ha (s.pres a u q m o.ne) m
  | d => cases hx
  | dr => cases hx
  | sc => cases hx
  | fn => cases hx
  | ex => cases hx
/-- a new list of the frame's own -/
theorem St.newOwn {K : PySem.W.Frag} {Φ : Fx} {F H : Hp} {σ : L2.St} {S : SS} {G : DG} (st : St K Φ F H σ S G) {p : Addr} (hp : H p = none) (vs : List V) : Step Φ F H F (upd H p (.lst vs)) ∧ Φ.W (upd H p (.lst vs)) G ∧ Own Φ F (upd H p (.lst vs)) p vs := by
  have hne : p ∉ Φ.ex := fun z => st.ok.wne H _ st.w p z hp
  have fp : F p = none := by
    cases e : F p with
    | none => rfl
    | some u =>
      rw [st.sub p u e] at hp
      cases hp
  have n0 : Nm Φ.H0 p := nm_by fun u e m => by
    rw [st.pres p u e m hne] at hp
    cases hp
  have sb : Sub H (upd H p (.lst vs)) := sub_upd hp
  exact ⟨⟨.refl F, st.sub.trans sb, st.noex, fun _ _ e => .inl e, fun b o e _ _ => sb b o e, id⟩, st.ok.wm _ _ _ _ hp (fun _ z => nomatch z) st.w, ⟨upd_same, fp, hne, n0⟩⟩
section
variable {X : Cx} {Φ : Fx}
theorem dv_of {e : Expr} {c : SS → M DV} (h : PE X e (tD X.K Φ c)) : PE X e (tV X.K Φ (cNv c)) := by
  refine pe_imp h fun σ H Q q => ?_
  obtain ⟨F, S, G, r, G', st, e, po⟩ := q
  refine tX_run c st e po fun F1 H1 G1 x v st1 s1 vx e1 po1 => ?_
  cases hx : isVl x with
  | true =>
    rw [hx, if_pos rfl] at e1
    cases e1
  | false =>
    rw [hx, if_neg Bool.false_ne_true] at e1
    cases e1
    exact po1.now st1 (VN.of vx hx)
/-- [] as a list that may change -/
def cOwn0 (_ : SS) : M DV := mp (.vl [])
theorem dv_nil {pos : Pos} : PE X (.List [] pos) (tV X.K Φ cOwn0) := by
  refine pe_imp (pe_lst pa_nil) fun σ H Q q => ?_
  obtain ⟨F, S, G, r, G', st, e, po⟩ := q
  cases e
  refine ⟨Nat.zero_le _, fun p hp => ?_⟩
  obtain ⟨s, w, o⟩ := st.newOwn hp []
  exact po F _ s w (.ref p) ⟨⟨p, [], rfl, o, .nil⟩, fun _ => ⟨p, rfl, nm_none hp⟩⟩
theorem ds_set {i : Nat} {x : Str} {e : Expr} {c : SS → M DV} {pos pos' : Pos} (hN : X.N.Nodup) (he : PE X e (tV X.K Φ c)) (hi : X.N[i]? = some x := by rfl) (hx : Loc X.env.scope x := by first | exact Or.inl rfl | exact Or.inr rfl)
    (hs : swapsWith e (some (.Name x pos')) pos.line X.env = pure false := by rfl) (hf : X.fn x = true ∨ X.env.scope.names.lookup x = some .local := by first | exact .inl rfl | exact .inr rfl | assumption) : PS X (.Assign [.Name x pos'] e pos) (tS X.K Φ (aSet i c)) :=
  ps_imp (ps_set (i := i) hN hi hx he hs hf) fun D σ H ⟨F, S, G, A, st, h, en⟩ => ev_run c st h en fun F' H' G1 x v st1 s1 vx q =>
    en.nx F' H' _ _ G1 s1.up (st1.setN st i vx) q
theorem ds_par {i j : Nat} {x y : Str} {a b : Expr} {c d : SS → M DV} {px py pt pos : Pos} {kt k2 pt2} (hc : X.calm = true) (hN : X.N.Nodup) (hij : i ≠ j) (ha : PE X a (tV X.K Φ c)) (hb : PE X b (tV X.K Φ d))
    (hw : swappedStores [.Tuple [.Name x px, .Name y py] kt pt] (.Tuple [a, b] k2 pt2) X.env = pure (some [x, y]) := by rfl) (hi : X.N[i]? = some x := by rfl) (hj : X.N[j]? = some y := by rfl) 
    (hx : X.env.scope.names.lookup x = some .local := by rfl) (hy : X.env.scope.names.lookup y = some .local := by rfl) (hs : swapsWithSole [.Tuple [.Name x px, .Name y py] kt pt] (.Tuple [a, b] k2 pt2) pos.line X.env = pure false := by rfl)
    (hs1 : starEach [a, b] X.env = (false, eval a X.env) :: starEach [b] X.env := by rfl) (hs2 : starEach [b] X.env = (false, eval b X.env) :: starEach [] X.env := by rfl) :
    PS X (.Assign [.Tuple [.Name x px, .Name y py] kt pt] (.Tuple [a, b] k2 pt2) pos) (tS X.K Φ (aPar i j c d)) :=
  ps_imp (ps_par hc hN hi hj hij hx hy (pa_cons ha (pa_cons hb pa_nil hs2) hs1) hw hs) fun D σ H ⟨F, S, G, A, st, h, en⟩ => ev_run c st h en fun F1 H1 G1 x v st1 s1 vx q =>
    ev_run d st1 q (en.up s1.up) fun F2 H2 G2 y u st2 s2 vy q2 => by
      refine ⟨v, u, rfl, ?_⟩
      have vx2 := vx.step s2
      have stA := st2.setN st i vx2
      refine en.nx F2 H2 _ _ G2 (s1.up.trans s2.up) (stA.set j vy.1 fun hy2 l xs e1 e2 => ?_) q2
      obtain ⟨p, rfl, hp⟩ := vy.2 hy2
      rcases getset e1 with ⟨rfl, q1⟩ | ⟨hl, q1⟩
      · cases q1
        obtain ⟨p', vs', e', o', _⟩ := vx.1
        rcases getset e2 with ⟨_, q2⟩ | ⟨hl, _⟩
        · cases q2
          cases e'
          exact nm_no hp o'.at_ rfl
        · exact hl rfl
      · rw [List.getElem?_set_ne (Ne.symm hl)] at e2
        obtain ⟨w, e3, b', vs', rfl, o', _⟩ := st1.at_ l _ q1
        rw [e3] at e2
        cases e2
        exact nm_no hp o'.at_ rfl
end
end DL

namespace DL
open PySem PySem.Spec PyProof.Rows L2

/-! ### what is walked -/
/-- what an item is: frozen data, or (tr) a tuple made for the turn alone -/
def Rg (K : PySem.W.Frag) (tr : Bool) (F H : Hp) (v : V) (d : D) : Prop := match tr with
  | false => Rp K F v d
  | true => ∃ a vs ds, v = .ref a ∧ d = .tuple ds ∧ SqT K H a vs ∧ RpAll K F vs ds
def WalkOn (K : PySem.W.Frag) (Φ : Fx) (tr : Bool) (C : Hp → Hp → Prop) (J : It) (ds : List D) : Prop := ∀ F H σ S G, St K Φ F H σ S G → C F H →
  (∀ i, i < ds.length → J.go i H) ∧ J.stop ds.length H ∧ ∀ i x H', i < ds.length → J.yld i H x H' → ∃ F' d, ds[i]? = some d ∧ Step Φ F H F' H' ∧ Φ.W H' G ∧ Rg K tr F' H' x d
/-- what is walked is frozen; it stands as long as all else does -/
def condF (F1 _H1 : Hp) (F _H : Hp) : Prop := Sub F1 F
def condH (Φ : Fx) (F1 H1 : Hp) (F H : Hp) : Prop := Sub F1 F ∧ ∀ b o, H1 b = some o → isMu o = true → b ∉ Φ.ex → H b = some o
abbrev iF (K : PySem.W.Frag) (Φ : Fx) (tr : Bool) (c : SS → M (List D)) : TI := tX K Φ (fun F1 H1 J ds => WalkOn K Φ tr (condF F1 H1) J ds) c
abbrev iH (K : PySem.W.Frag) (Φ : Fx) (tr : Bool) (c : SS → M (List D)) : TI := tX K Φ (fun F1 H1 J ds => WalkOn K Φ tr (condH Φ F1 H1) J ds) c
theorem pi_imp {X : Cx} {tg e : Expr} {t t' : TI} (h : PI X tg e t) (i : ∀ σ H Q, t' σ H Q → t σ H Q) : PI X tg e t' := ⟨fun pins s σ H Q I q => h.run pins s σ H Q I (i σ H Q q)⟩
theorem di_fh {X : Cx} {Φ : Fx} {tr : Bool} {tg e : Expr} {c : SS → M (List D)} (h : PI X tg e (iF X.K Φ tr c)) : PI X tg e (iH X.K Φ tr c) := pi_imp h fun σ H Q ⟨F, S, G, r, G', st, e, po⟩ =>
  ⟨F, S, G, r, G', st, e, fun F1 H1 s w => by
    have q := po F1 H1 s w
    cases r with
    | er x => exact q
    | ok ds => exact fun J hJ => q J fun F H σ S G st c => hJ F H σ S G st c.1⟩
def signs (z : Str) : List D := z.cps.toList.map fun c => .str ⟨#[c]⟩
def seqOf : DV → Option (List D)
  | .d (.list xs) => some xs
  | .d (.tuple xs) => some xs
  | .d (.str z) => some (signs z)
  | _ => none
def cSeq (c : SS → M DV) (S : SS) : M (List D) := mb (c S) fun x => mo (seqOf x)
theorem strOk_at {z : Str} {i c : Nat} (h : PyData.strOk z = true) (e : z.cps[i]? = some c) : PyData.strOk ⟨#[c]⟩ = true := by
  have q : z.cps.all (· < 0x110000) = true := h
  rw [Array.all_eq_true_iff_forall_mem] at q
  have m := q c (Array.mem_of_getElem? e)
  show (#[c] : Array Nat).all (· < 0x110000) = true
  simpa using m
section
variable {K : PySem.W.Frag} {Φ : Fx}
theorem walk_at {C : Hp → Hp → Prop} {J : It} {GG : Hp → Prop} {vs : List V} {ds : List D} {F1 : Hp} (w : Walk J vs.length GG (YAt vs)) (hr : RpAll K F1 vs ds) (h1 : ∀ F H, C F H → Sub F1 F) (h2 : ∀ F H σ S G, St K Φ F H σ S G → C F H → GG H) : WalkOn K Φ false C J ds := by
  intro F H σ S G st c
  have g := h2 F H σ S G st c
  rw [← hr.length]
  refine ⟨fun i hi => w.goes i H hi g, w.stops H g, fun i x H' hi y => ?_⟩
  obtain ⟨rfl, e⟩ := w.yields i H x H' hi g y
  obtain ⟨d, e2, r⟩ := hr.get e
  exact ⟨F, d, e2, .refl st, st.w, r.mono (h1 F _ c)⟩
end
section
variable {X : Cx} {Φ : Fx}
theorem di_seq {tg e : Expr} {c : SS → M DV} (h : PE X e (tD X.K Φ c)) : PI X tg e (iF X.K Φ false (cSeq c)) := by
  refine ⟨fun pins s σ H R I q => ?_⟩
  obtain ⟨F, S, G, r, G', st, e1, po⟩ := q
  rcases mb_cases e1 with ⟨x, hc, rfl⟩ | ⟨x, G1, hc, e2⟩
  · exact (pi_list h).run pins s σ H R I ⟨F, S, G, .er x, G', st, hc, fun F' H' s' w => po F' H' s' w⟩
  · cases hx : seqOf x with
    | none =>
      rw [hx] at e2
      cases e2
    | some ds =>
      rw [hx] at e2
      cases e2
      cases x with
      | d x =>
        cases x with
        | list xs =>
          cases hx
          refine (pi_list h).run pins s σ H R I ⟨F, S, G, _, _, st, hc, fun F' H' s' w v rv => ?_⟩
          cases rv with
          | lst hs ha => exact ⟨_, rfl, ⟨_, SqL.of (s'.sub _ _ hs)⟩, po F' H' s' w _ (walk_at walk_list ha (fun F H c => c) fun F H σ S G st2 c => SqL.of (st2.sub _ _ (c _ _ hs)))⟩
        | tuple xs =>
          cases hx
          refine (pi_tup h).run pins s σ H R I ⟨F, S, G, _, _, st, hc, fun F' H' s' w v rv => ?_⟩
          cases rv with
          | tup hs ha => exact ⟨_, rfl, ⟨_, s'.sub.stp hs.sq⟩, po F' H' s' w _ (walk_at walk_tup ha (fun F H c => c) fun F H σ S G st2 c => st2.sub.stp (Sub.stp c hs.sq))⟩
        | str z =>
          cases hx
          refine (pi_str h).run pins s σ H R I ⟨F, S, G, _, _, st, hc, fun F' H' s' w v rv => ?_⟩
          obtain ⟨hz⟩ : ∃ h : PyData.strOk z = true, True := by cases rv with | str _ h => exact ⟨h, trivial⟩
          cases rv
          refine ⟨z, rfl, po F' H' s' w _ ?_⟩
          intro F2 H2 σ2 S2 G2 st2 c2
          have hl : (signs z).length = z.cps.size := by simp [signs]
          rw [hl]
          refine ⟨fun i hi => walk_str.goes i H2 hi trivial, walk_str.stops H2 trivial, fun i x H3 hi y => ?_⟩
          obtain ⟨rfl, cc, e3, rfl⟩ := walk_str.yields i H2 x H3 hi trivial y
          refine ⟨F2, .str ⟨#[cc]⟩, ?_, .refl st2, st2.w, .str _ (strOk_at hz e3)⟩
          unfold signs
          rw [List.getElem?_map, Array.getElem?_toList, e3]
          rfl
        | none => cases hx
        | bool => cases hx
        | int => cases hx
        | dict => cases hx
      | vl => cases hx
      | dr => cases hx
      | sc => cases hx
      | fn => cases hx
      | ex => cases hx
/-- an own list, in a comprehension -/
def seqOfH : DV → Option (List D)
  | .vl xs => some xs
  | x => seqOf x
def cSeqH (c : SS → M DV) (S : SS) : M (List D) := mb (c S) fun x => mo (seqOfH x)
theorem di_seqH {tg e : Expr} {c : SS → M DV} (h : PE X e (tD X.K Φ c)) : PI X tg e (iH X.K Φ false (cSeqH c)) := by
  refine ⟨fun pins s σ H R I q => ?_⟩
  obtain ⟨F, S, G, r, G', st, e1, po⟩ := q
  rcases mb_cases e1 with ⟨x, hc, rfl⟩ | ⟨x, G1, hc, e2⟩
  · exact (pi_list h).run pins s σ H R I ⟨F, S, G, .er x, G', st, hc, fun F' H' s' w => po F' H' s' w⟩
  · by_cases hv : isVl x = true
    · cases x with
      | vl xs =>
        cases e2
        refine (pi_list h).run pins s σ H R I ⟨F, S, G, _, _, st, hc, fun F' H' s' w v rv => ?_⟩
        obtain ⟨a, vs, rfl, o, ra⟩ := rv
        exact ⟨a, rfl, ⟨vs, SqL.of o.at_⟩, po F' H' s' w _ (walk_at walk_list ra (fun F H c => c.1) fun F H σ S G st2 c => SqL.of (c.2 a _ o.at_ rfl o.ne))⟩
      | d => cases hv
      | dr => cases hv
      | sc => cases hv
      | fn => cases hv
      | ex => cases hv
    · have hx : seqOfH x = seqOf x := by
        cases x with
        | vl => exact absurd rfl hv
        | d => rfl
        | dr => rfl
        | sc => rfl
        | fn => rfl
        | ex => rfl
      rw [hx] at e2
      refine (di_fh (di_seq (tg := tg) h)).run pins s σ H R I ⟨F, S, G, r, G', st, ?_, po⟩
      show mb (c S) (fun x => mo (seqOf x)) G = _
      rw [mb_some hc]
      exact e2
/-- range(n), range(a, b) -/
def rng (lo : Int) (n : Nat) : List D := (List.range n).map fun (k : Nat) => .int (lo + (k : Int))
def fRng1 (xs : List DV) : M (List D) := on1 xs fun x => onI x fun j => gd (-1000000000 ≤ j ∧ j ≤ 1000000000) (mp (rng 0 j.toNat))
def fRng2 (xs : List DV) : M (List D) := on2 xs fun x y => onI x fun i => onI y fun j => gd ((-1000000000 ≤ i ∧ i ≤ 1000000000) ∧ -1000000000 ≤ j ∧ j ≤ 1000000000) (mp (rng i (j - i).toNat))
def cItr (f : List DV → M (List D)) (c : SS → M (List DV)) (S : SS) : M (List D) := mb (c S) f
theorem walk_rng {K : PySem.W.Frag} {lo : Int} {n : Nat} {C : Hp → Hp → Prop} : WalkOn K Φ false C (Itr lo n) (rng lo n) := by
  intro F H σ S G st c
  have hl : (rng lo n).length = n := by simp [rng]
  rw [hl]
  refine ⟨fun i hi => walk_range.goes i H hi trivial, walk_range.stops H trivial, fun i x H' hi y => ?_⟩
  obtain ⟨rfl, rfl⟩ := walk_range.yields i H x H' hi trivial y
  refine ⟨F, .int (lo + i), ?_, .refl st, st.w, .int _⟩
  unfold rng
  rw [List.getElem?_map, List.getElem?_range hi]
  rfl
theorem di_rng1 {tg a : Expr} {p pos : Pos} {c : SS → M (List DV)} (hm : X.mg "range" = none) (ha : PA X [a] (tDA X.K Φ c)) (hg : Gl X "range" := by rfl) (hs : starEach [a] X.env = [(false, eval a X.env)] := by rfl) :
    PI X tg (.Call (.Name "range" p) [a] [] pos) (iF X.K Φ false (cItr fRng1 c)) := by
  refine pi_imp (pi_range1 hg hm ha hs) fun σ H Q h => ?_
  obtain ⟨F, S, G, r, G', st, e, po⟩ := h
  refine tX_run c st e po fun F1 H1 G1 xs vs st1 s1 vx e1 po1 => ?_
  obtain ⟨x, v, rfl, rfl, hv, e2⟩ := on1_of vx e1
  obtain ⟨j, rfl, rfl, e3⟩ := onI_of hv e2
  obtain ⟨hj, e4⟩ := gd_of e3
  cases e4
  exact ⟨j, rfl, by omega, by omega, po1.now st1 walk_rng⟩
theorem di_rng2 {tg a b : Expr} {p pos : Pos} {c : SS → M (List DV)} (hm : X.mg "range" = none) (ha : PA X [a, b] (tDA X.K Φ c)) (hg : Gl X "range" := by rfl) (hs : starEach [a, b] X.env = [(false, eval a X.env), (false, eval b X.env)] := by rfl) (hs2 : starEach [b] X.env = [(false, eval b X.env)] := by rfl) :
    PI X tg (.Call (.Name "range" p) [a, b] [] pos) (iF X.K Φ false (cItr fRng2 c)) := by
  refine pi_imp (pi_range2 hg hm ha hs hs2) fun σ H Q h => ?_
  obtain ⟨F, S, G, r, G', st, e, po⟩ := h
  refine tX_run c st e po fun F1 H1 G1 xs vs st1 s1 vx e1 po1 => ?_
  obtain ⟨x, y, v, u, rfl, rfl, hv, hu, e2⟩ := on2_of vx e1
  obtain ⟨i, rfl, rfl, e3⟩ := onI_of hv e2
  obtain ⟨j, rfl, rfl, e4⟩ := onI_of hu e3
  obtain ⟨hj, e5⟩ := gd_of e4
  cases e5
  exact ⟨i, j, rfl, by omega, po1.now st1 walk_rng⟩
end

/-! ### targets -/
def tG (K : PySem.W.Frag) (Φ : Fx) (tr : Bool) (js : List Nat) (g : D → SS → Option SS) : TG := fun v σ H Q => ∃ F S G d S', St K Φ F H σ S G ∧ Rg K tr F H v d ∧ g d S = some S' ∧
  ∀ σ', St K Φ F H σ' S' G → σ'.length = σ.length → (∀ j, j ∉ js → σ'[j]? = σ[j]?) → Q σ' H
def tGs (K : PySem.W.Frag) (Φ : Fx) (js : List Nat) (g : List D → SS → Option SS) : TGs := fun vs σ H Q => ∃ F S G ds S', St K Φ F H σ S G ∧ RpAll K F vs ds ∧ g ds S = some S' ∧
  ∀ σ', St K Φ F H σ' S' G → σ'.length = σ.length → (∀ j, j ∉ js → σ'[j]? = σ[j]?) → Q σ' H
def gN (i : Nat) : D → SS → Option SS := fun d S => some (S.set i (some (.d d)))
def gsNil : List D → SS → Option SS := fun ds S => match ds with
  | [] => some S
  | _ => none
def gsCons (g : D → SS → Option SS) (gs : List D → SS → Option SS) : List D → SS → Option SS := fun ds S => match ds with
  | d :: r => (g d S).bind (gs r)
  | [] => none
def gTp (n : Nat) (gs : List D → SS → Option SS) : D → SS → Option SS := fun d S => match d with
  | .tuple ds => if ds.length = n then gs ds S else none
  | _ => none
section
variable {X : Cx} {Φ : Fx} {pos : Pos}
theorem dg_name (i : Nat) {x : Str} (hN : X.N.Nodup) (hi : X.N[i]? = some x := by rfl) (hx : Loc X.env.scope x := by first | exact Or.inl rfl | exact Or.inr rfl) (hf : X.fn x = true ∨ X.env.scope.names.lookup x = some .local := by first | exact .inl rfl | exact .inr rfl | assumption) : PG X (.Name x pos) (tG X.K Φ false [i] (gN i)) :=
  pg_imp (pg_name (i := i) hN hi hx hf) fun v σ H Q ⟨F, S, G, d, S', st, r, e, q⟩ => by
    cases e
    refine q _ (st.set i (x := .d d) r (fun z => by cases z)) (by rw [List.length_set]) fun j hj => List.getElem?_set_ne fun z => hj (by simp [z])
theorem dgs_nil : PGs X [] (tGs X.K Φ [] gsNil) := pgs_imp pgs_nil fun v σ H Q ⟨F, S, G, ds, S', st, r, e, q⟩ => by
  cases r with
  | nil =>
    cases e
    exact ⟨rfl, q σ st rfl fun _ _ => rfl⟩
  | cons => cases e
theorem dgs_cons {e : Expr} {es : List Expr} {js ks : List Nat} {g : D → SS → Option SS} {gs : List D → SS → Option SS} (h1 : PG X e (tG X.K Φ false js g)) (h2 : PGs X es (tGs X.K Φ ks gs)) (hs : (assignEach (e :: es) X.env).map (·.2) = assign e X.env :: (assignEach es X.env).map (·.2) := by rfl) :
    PGs X (e :: es) (tGs X.K Φ (js ++ ks) (gsCons g gs)) := pgs_imp (pgs_cons h1 h2 hs) fun v σ H Q ⟨F, S, G, ds, S', st, r, e, q⟩ => by
  cases r with
  | nil => cases e
  | @cons v vs d ds a b =>
    have e : (g d S).bind (gs ds) = some S' := e
    cases hg : g d S with
    | none =>
      rw [hg] at e
      cases e
    | some S1 =>
      rw [hg] at e
      refine ⟨v, vs, rfl, F, S, G, d, S1, st, a, hg, fun σ1 st1 l1 k1 => ?_⟩
      refine ⟨F, S1, G, ds, S', st1, b, e, fun σ2 st2 l2 k2 => q σ2 st2 (l2.trans l1) fun j hj => ?_⟩
      rw [List.mem_append] at hj
      exact (k2 j fun z => hj (.inr z)).trans (k1 j fun z => hj (.inl z))
theorem dg_tup {tr : Bool} {es : List Expr} {k n : Nat} {js : List Nat} {gs : List D → SS → Option SS} (hc : X.calm = true) (h : PGs X es (tGs X.K Φ js gs)) (hn : (assignEach es X.env).length = n := by rfl) (hst : (assignEach es X.env).findIdx? (·.1) = none := by rfl) : PG X (.Tuple es k pos) (tG X.K Φ tr js (gTp n gs)) :=
  pg_imp (pg_tup hc h hn hst) fun v σ H Q ⟨F, S, G, d, S', st, r, e, q⟩ => by
    have r' : ∃ a vs ds, v = .ref a ∧ d = .tuple ds ∧ SqT X.K H a vs ∧ RpAll X.K F vs ds := by
      cases tr with
      | true => exact r
      | false =>
        cases r with
        | tup hs ha => exact ⟨_, _, _, rfl, rfl, st.sub.stp hs.sq, ha⟩
        | non => cases e
        | bl => cases e
        | int => cases e
        | str => cases e
        | lst => cases e
        | dct => cases e
    obtain ⟨a, vs, ds, rfl, rfl, hs, ha⟩ := r'
    have e : (if ds.length = n then gs ds S else none) = some S' := e
    by_cases hl : ds.length = n
    · rw [if_pos hl] at e
      exact ⟨_, _, rfl, hs, by rw [ha.length, hl], F, S, G, ds, S', st, ha, e, q⟩
    · rw [if_neg hl] at e
      cases e

/-! ### a for -/
def aForL (g : D → SS → Option SS) (b : TSa) : List D → TSa
  | [] => fun A S G => A.nx S G
  | d :: r => fun A S G => match g d S with
    | some S1 => b { A with nx := aForL g b r A, ct := aForL g b r A, bk := A.nx } S1 G
    | none => False
def aFor (c : SS → M (List D)) (g : D → SS → Option SS) (b : TSa) : TSa := fun A S G => aEv (c S) A G fun ds G1 => aForL g b ds A S G1
theorem ds_for {tr : Bool} {tg iter : Expr} {body : List Stmt} {c : SS → M (List D)} {js : List Nat} {g : D → SS → Option SS} {b : TSa} (hp : PassesOwn (model X.prog X.w) X.A X.env X.xe) (hc : X.calm = true) (hi : PI X tg iter (iF X.K Φ tr c)) (hg : PG X tg (tG X.K Φ tr js g))
    (hb : PSs X body (tS X.K Φ b)) (hs : ∀ x, foldedSetIterable iter X.env x = pure x := by intro _; rfl) : PS X (.For tg iter body [] pos) (tS X.K Φ (aFor c g b)) :=
  ps_imp (ps_for hp hc hi hg hb hs) fun D σ H ⟨F, S, G, A, st, h, en⟩ => ev_run c st h en fun F1 H1 G1 ds J st1 s1 wk q => by
    have en1 := en.up s1.up
    refine ⟨fun i m σ H => m = ds.length - i ∧ i ≤ ds.length ∧ ∃ F2 S G, St X.K Φ F2 H σ S G ∧ Sub F1 F2 ∧ aForL g b (ds.drop i) A S G, ⟨_, rfl, Nat.zero_le _, F1, S, G1, st1, .refl F1, by rw [List.drop_zero]; exact q⟩, ?_⟩
    rintro i m σ2 H2 ⟨rfl, hi, F2, S2, G2, st2, s2, a2⟩
    obtain ⟨w1, w2, w3⟩ := wk F2 H2 σ2 S2 G2 st2 s2
    by_cases hlt : i < ds.length
    · refine .inr ⟨w1 i hlt, fun σ H => ∃ F2 S G, St X.K Φ F2 H σ S G ∧ Sub F1 F2 ∧ aForL g b (ds.drop (i + 1)) A S G, fun σ' H' hN => ⟨ds.length - (i + 1), by omega, rfl, hlt, hN⟩, fun x H3 y => ?_⟩
      obtain ⟨F3, d, ed, s3, w, r⟩ := w3 i x H3 hlt y
      have eg : ds.drop i = d :: ds.drop (i + 1) := by
        obtain ⟨h1, h2⟩ := List.getElem?_eq_some_iff.mp ed
        rw [List.drop_eq_getElem_cons h1, h2]
      rw [eg] at a2
      have a3 : (match g d S2 with | some S1 => b { A with nx := aForL g b (ds.drop (i + 1)) A, ct := aForL g b (ds.drop (i + 1)) A, bk := A.nx } S1 G2 | none => False) := a2
      cases hg : g d S2 with
      | none =>
        rw [hg] at a3
        exact a3.elim
      | some S3 =>
        rw [hg] at a3
        refine ⟨F3, S2, G2, d, S3, st2.step s3 w, r, hg, fun σ4 st4 _ _ => ⟨F3, S3, G2, _, st4, a3, ?_⟩⟩
        have s5 : Sub F1 F3 := s2.trans s3.up
        have en3 := en1.up s5
        exact ⟨fun F4 H4 σ4 S4 G4 u st h => ⟨F4, S4, G4, st, s5.trans u, h⟩, en.rt, en.er, fun F4 H4 σ4 S4 G4 u st h => en3.nx F4 H4 σ4 S4 G4 u st h, fun F4 H4 σ4 S4 G4 u st h => ⟨F4, S4, G4, st, s5.trans u, h⟩⟩
    · have ei : i = ds.length := by omega
      subst ei
      rw [List.drop_length] at a2
      exact .inl ⟨w2, en1.nx F2 H2 σ2 S2 G2 s2 st2 a2⟩
end
end DL

namespace DL
open PySem PySem.Spec PyProof.Rows L2

/-! ### comprehensions -/
/-- the same frame, where no error may leave -/
def Fx.nox (Φ : Fx) : Fx := { Φ with E := fun _ _ _ => False }
section
variable {K : PySem.W.Frag} {Φ : Fx} {F H F' H' : Hp} {σ : L2.St} {S : SS} {G : DG}
theorem VR.nox {v : V} : ∀ {x : DV}, VR K Φ F H v x → VR K Φ.nox F H v x
  | .d _, h => h
  | .vl _, ⟨a, vs, e, o, r⟩ => ⟨a, vs, e, ⟨o.at_, o.nf, o.ne, o.n0⟩, r⟩
  | .dr, h => h
  | .sc _, h => h
  | .fn _, h => h
  | .ex _, h => h
theorem VR.unnox {v : V} : ∀ {x : DV}, VR K Φ.nox F H v x → VR K Φ F H v x
  | .d _, h => h
  | .vl _, ⟨a, vs, e, o, r⟩ => ⟨a, vs, e, ⟨o.at_, o.nf, o.ne, o.n0⟩, r⟩
  | .dr, h => h
  | .sc _, h => h
  | .fn _, h => h
  | .ex _, h => h
theorem St.nox (h : St K Φ F H σ S G) : St K Φ.nox F H σ S G := ⟨h.ok, h.sub, h.noex, h.f0, h.new, h.pres, h.nt, h.w, h.len, fun i x e => let ⟨v, e1, r⟩ := h.at_ i x e; ⟨v, e1, r.nox⟩, h.dist⟩
theorem St.unnox (h : St K Φ.nox F H σ S G) : St K Φ F H σ S G := ⟨h.ok, h.sub, h.noex, h.f0, h.new, h.pres, h.nt, h.w, h.len, fun i x e => let ⟨v, e1, r⟩ := h.at_ i x e; ⟨v, e1, r.unnox⟩, h.dist⟩
theorem Step.nox (h : Step Φ F H F' H') : Step Φ.nox F H F' H' := ⟨h.up, h.sub, h.noex, h.new, h.pres, h.nt⟩
theorem Step.unnox (h : Step Φ.nox F H F' H') : Step Φ F H F' H' := ⟨h.up, h.sub, h.noex, h.new, h.pres, h.nt⟩
def wipeS (S : SS) : List Nat → SS
  | [] => S
  | v :: vs => (wipeS S vs).set v none
theorem wipe_get : ∀ {vs : List Nat} {l : List (Option V)} {j : Nat}, (wipe l vs)[j]? = if j ∈ vs ∧ j < l.length then some none else l[j]?
  | [], l, j => by simp [wipe]
  | v :: vs, l, j => by
    unfold wipe
    by_cases hv : v = j
    · subst hv
      by_cases hl : v < l.length
      · rw [List.getElem?_set_self (by rw [wipe_length]; exact hl), if_pos ⟨by simp, hl⟩]
      · rw [List.getElem?_eq_none (by rw [List.length_set, wipe_length]; omega), if_neg (fun z => hl z.2), List.getElem?_eq_none (by omega)]
    · rw [List.getElem?_set_ne hv, wipe_get]
      have e : (j ∈ v :: vs) ↔ j ∈ vs := by simp [Ne.symm hv]
      by_cases h2 : j ∈ vs ∧ j < l.length
      · rw [if_pos h2, if_pos ⟨e.mpr h2.1, h2.2⟩]
      · rw [if_neg h2, if_neg fun z => h2 ⟨e.mp z.1, z.2⟩]
theorem wipeS_get : ∀ {vs : List Nat} {l : SS} {j : Nat}, (wipeS l vs)[j]? = if j ∈ vs ∧ j < l.length then some none else l[j]?
  | [], l, j => by simp [wipeS]
  | v :: vs, l, j => by
    have hlen : ∀ (l : SS) (ws : List Nat), (wipeS l ws).length = l.length := fun l ws => by
      induction ws with
      | nil => rfl
      | cons w ws ih =>
        unfold wipeS
        rw [List.length_set, ih]
    unfold wipeS
    by_cases hv : v = j
    · subst hv
      by_cases hl : v < l.length
      · rw [List.getElem?_set_self (by rw [hlen]; exact hl), if_pos ⟨by simp, hl⟩]
      · rw [List.getElem?_eq_none (by rw [List.length_set, hlen]; omega), if_neg (fun z => hl z.2), List.getElem?_eq_none (by omega)]
    · rw [List.getElem?_set_ne hv, wipeS_get]
      have e : (j ∈ v :: vs) ↔ j ∈ vs := by simp [Ne.symm hv]
      by_cases h2 : j ∈ vs ∧ j < l.length
      · rw [if_pos h2, if_pos ⟨e.mpr h2.1, h2.2⟩]
      · rw [if_neg h2, if_neg fun z => h2 ⟨e.mp z.1, z.2⟩]
theorem wipeS_length (l : SS) : ∀ ws : List Nat, (wipeS l ws).length = l.length
  | [] => rfl
  | w :: ws => by
    unfold wipeS
    rw [List.length_set, wipeS_length l ws]
theorem wipeS_some {vs : List Nat} {j : Nat} {x : DV} (h : (wipeS S vs)[j]? = some (some x)) : S[j]? = some (some x) ∧ j ∉ vs := by
  rw [wipeS_get] at h
  by_cases h2 : j ∈ vs ∧ j < S.length
  · rw [if_pos h2] at h
    cases h
  · rw [if_neg h2] at h
    refine ⟨h, fun z => h2 ⟨z, ?_⟩⟩
    exact (List.getElem?_eq_some_iff.mp h).1
theorem St.wipe (h : St K Φ F H σ S G) (vs : List Nat) : St K Φ F H (wipe σ vs) (wipeS S vs) G where
  ok := h.ok
  sub := h.sub
  noex := h.noex
  f0 := h.f0
  new := h.new
  pres := h.pres
  nt := h.nt
  w := h.w
  len := by rw [wipe_length, wipeS_length, h.len]
  at_ := fun j x e => by
    obtain ⟨e1, hj⟩ := wipeS_some e
    obtain ⟨v, e2, r⟩ := h.at_ j x e1
    exact ⟨v, by rw [wipe_get, if_neg fun z => hj z.1]; exact e2, r⟩
  dist := fun i j a xs ys hij e1 e2 e3 e4 => by
    obtain ⟨e1, h1⟩ := wipeS_some e1
    obtain ⟨e2, h2⟩ := wipeS_some e2
    rw [wipe_get, if_neg fun z => h1 z.1] at e3
    rw [wipe_get, if_neg fun z => h2 z.1] at e4
    exact h.dist i j a xs ys hij e1 e2 e3 e4
theorem wipe_same {vs : List Nat} {l l' : List (Option V)} (hl : l'.length = l.length) (h : ∀ j, j ∉ vs → l'[j]? = (L2.wipe l vs)[j]?) : L2.wipe l' vs = L2.wipe l vs := by
  apply List.ext_getElem?
  intro j
  by_cases hj : j ∈ vs
  · rw [wipe_get, wipe_get, hl]
    by_cases h2 : j < l.length
    · rw [if_pos ⟨hj, h2⟩, if_pos ⟨hj, h2⟩]
    · rw [if_neg fun z => h2 z.2, if_neg fun z => h2 z.2, List.getElem?_eq_none (by omega), List.getElem?_eq_none (by omega)]
  · rw [wipe_get, if_neg fun z => hj z.1]
    exact h j hj
/-- an own list that no slot holds is changed -/
theorem St.updOwn (st : St K Φ F H σ S G) {p : Addr} {vs : List V} (vs' : List V) (o : Own Φ F H p vs) (hD : ∀ (j : Nat) xs a, S[j]? = some (some (.vl xs)) → σ[j]? = some (some (.ref a)) → a ≠ p) :
    St K Φ F (upd H p (.lst vs')) σ S G ∧ Own Φ F (upd H p (.lst vs')) p vs' := by
  refine ⟨⟨st.ok, fun b u e => ?_, st.noex, st.f0, st.new, fun b u e m hb => ?_, st.nt, st.ok.wu H G p _ _ st.w o.ne o.at_ rfl, st.len, fun i x e => ?_, st.dist⟩, ⟨upd_same, o.nf, o.ne, o.n0⟩⟩
  · rw [upd_ne (ne_of_none e o.nf)]
    exact st.sub b u e
  · rw [upd_ne (fun z => nm_no o.n0 (by rw [← z]; exact e) m)]
    exact st.pres b u e m hb
  · obtain ⟨v, e1, r⟩ := st.at_ i x e
    refine ⟨v, e1, ?_⟩
    cases x with
    | vl xs =>
      obtain ⟨a, ws, rfl, oa, ra⟩ := r
      exact ⟨a, ws, rfl, ⟨by rw [upd_ne (hD i xs a e e1)]; exact oa.at_, oa.nf, oa.ne, oa.n0⟩, ra⟩
    | d => exact r
    | dr => exact r
    | sc => exact r
    | fn => exact r
    | ex => exact r
end
def nx {α : Type} (m : M α) : M α := fun G => match m G with
  | some (.ok x, G1) => some (.ok x, G1)
  | _ => none
theorem nx_of {α β : Type} {m : M α} {k : α → M β} {G G' : DG} {r : Rs β} (e : mb (nx m) k G = some (r, G')) : ∃ x G1, m G = some (.ok x, G1) ∧ k x G1 = some (r, G') := by
  have ok : ∀ {y : Rs α} {G1 : DG}, nx m G = some (y, G1) → ∃ x, y = .ok x ∧ m G = some (.ok x, G1) := fun {y G1} h => by
    unfold nx at h
    cases hm : m G with
    | none =>
      rw [hm] at h
      cases h
    | some p =>
      obtain ⟨q, G2⟩ := p
      rw [hm] at h
      cases q with
      | ok x =>
        cases h
        exact ⟨x, rfl, rfl⟩
      | er x => cases h
  rcases mb_cases e with ⟨x, h, _⟩ | ⟨x, G1, h, q⟩
  · obtain ⟨_, z, _⟩ := ok h
    cases z
  · obtain ⟨y, z, h2⟩ := ok h
    cases z
    exact ⟨x, G1, h2, q⟩
theorem nx_ok {α : Type} {m : M α} {G G1 : DG} {x : α} (h : m G = some (.ok x, G1)) : nx m G = some (.ok x, G1) := by
  unfold nx
  rw [h]
def lcL (g : D → SS → Option SS) (ct : SS → M Bool) (ce : SS → M DV) (W : SS) : List D → List D → M (List D)
  | [], acc => mp acc
  | d :: r, acc => mb (mo (g d W)) fun S1 => mb (nx (ct S1)) fun k => if k = true then mb (nx (ce S1)) fun y => onD y fun z => lcL g ct ce W r (acc ++ [z]) else lcL g ct ce W r acc
def cLc (ci : SS → M (List D)) (g : D → SS → Option SS) (ct : SS → M Bool) (ce : SS → M DV) (vs : List Nat) (S : SS) : M DV := mb (ci S) fun ds => gd (ds.length ≤ 100000) (mb (lcL g ct ce (wipeS S vs) ds []) fun acc => mp (.vl acc))
def tYesC (_ : SS) : M Bool := mp true
section
variable {X : Cx} {Φ : Fx}
theorem dts_nil : PTs X [] (tDT X.K Φ tYesC) := ⟨fun pins s σ H Q I h => by
  obtain ⟨F, S, G, r, G', st, e, po⟩ := h
  cases e
  exact pts_nil.run pins s σ H Q I (po.now st rfl)⟩
theorem dts_one {c : Expr} {t : SS → M Bool} (h : PT X c (tDT X.K Φ t)) : PTs X [c] (tDT X.K Φ t) := pts_one h
theorem lc_read {tr : Bool} {K : PySem.W.Frag} {ci : SS → M (List D)} {js vs : List Nat} {g : D → SS → Option SS} {ct : SS → M Bool} {ce : SS → M DV} {σ : L2.St} {H : Hp} {Q : VK} (hjs : ∀ j ∈ js, j ∈ vs) (h : tV K Φ (cLc ci g ct ce vs) σ H Q) :
    tLc (iH K Φ tr ci) (tG K Φ.nox tr js g) (tDT K Φ.nox ct) (tD K Φ.nox ce) vs σ H Q := by
  obtain ⟨F, S, G, r, G', st, e, po⟩ := h
  refine tX_run ci st e po fun F1 H1 G1 ds J st1 s1 wk e1 po1 => ?_
  obtain ⟨hlen, e2⟩ := gd_of e1
  intro p hp
  have hD : ∀ (j : Nat) xs a, S[j]? = some (some (.vl xs)) → σ[j]? = some (some (.ref a)) → a ≠ p := fun j xs a q1 q2 z => by
    obtain ⟨v, e3, b, ws, rfl, o, _⟩ := st1.at_ j _ q1
    rw [e3] at q2
    cases q2
    have q := o.at_
    rw [z, hp] at q
    cases q
  obtain ⟨sN, wN, oN⟩ := st1.newOwn hp []
  have hs0 : Nm H p := nm_by fun u q m => by
    rw [s1.pres p u q m oN.ne] at hp
    cases hp
  refine ⟨fun i m H2 => m = ds.length - i ∧ i ≤ ds.length ∧ ∃ F2 G2 av ad, St K Φ F2 H2 σ S G2 ∧ Step Φ F1 H1 F2 H2 ∧ Own Φ F2 H2 p av ∧ RpAll K F2 av ad ∧ ad.length ≤ i ∧ mb (lcL g ct ce (wipeS S vs) (ds.drop i) ad) (fun acc => mp (.vl acc)) G2 = some (r, G'),
    ⟨_, rfl, Nat.zero_le _, F1, G1, [], [], st1.step sN wN, sN, oN, .nil, Nat.zero_le _, by rw [List.drop_zero]; exact e2⟩, ?_⟩
  rintro i m H2 ⟨rfl, hi, F2, G2, av, ad, st2, c2, o2, r2, l2, e3⟩
  obtain ⟨w1, w2, w3⟩ := wk F2 H2 σ S G2 st2 ⟨c2.up, c2.pres⟩
  by_cases hlt : i < ds.length
  · refine .inr ⟨w1 i hlt, fun H3 => ∃ F2 G2 av ad, St K Φ F2 H3 σ S G2 ∧ Step Φ F1 H1 F2 H3 ∧ Own Φ F2 H3 p av ∧ RpAll K F2 av ad ∧ ad.length ≤ i + 1 ∧ mb (lcL g ct ce (wipeS S vs) (ds.drop (i + 1)) ad) (fun acc => mp (.vl acc)) G2 = some (r, G'), fun H' hN => ⟨ds.length - (i + 1), by omega, rfl, hlt, hN⟩, fun x H3 y => ?_⟩
    obtain ⟨F3, d, ed, s3, w, rd⟩ := w3 i x H3 hlt y
    have eg : ds.drop i = d :: ds.drop (i + 1) := by
      obtain ⟨h1, h2⟩ := List.getElem?_eq_some_iff.mp ed
      rw [List.drop_eq_getElem_cons h1, h2]
    rw [eg] at e3
    have e4 : mb (mb (mo (g d (wipeS S vs))) fun S1 => mb (nx (ct S1)) fun k => if k = true then mb (nx (ce S1)) fun y => onD y fun z => lcL g ct ce (wipeS S vs) (ds.drop (i + 1)) (ad ++ [z]) else lcL g ct ce (wipeS S vs) (ds.drop (i + 1)) ad) (fun acc => mp (.vl acc)) G2 = some (r, G') := e3
    rw [mb_assoc] at e4
    cases hg : g d (wipeS S vs) with
    | none =>
      rw [hg] at e4
      cases e4
    | some S1 =>
      rw [hg, mo_some, mb_mp, mb_assoc] at e4
      obtain ⟨k, G3, et, e5⟩ := nx_of e4
      have st3 := st2.step s3 w
      refine ⟨F3, wipeS S vs, G2, d, S1, (st3.wipe vs).nox, rd, hg, fun σ4 st4 l4 k4 => ⟨wipe_same (by rw [l4, wipe_length]) fun j hj => k4 j fun z => hj (hjs j z), ?_⟩⟩
      refine ⟨F3, S1, G2, .ok k, G3, st4, et, fun F5 H5 s5 w5 v5 q5 => ?_⟩
      obtain rfl : v5 = k := q5
      have st5 := st3.step s5.unnox w5
      have s35 := s3.trans s5.unnox
      cases v5 with
      | false =>
        rw [if_neg Bool.false_ne_true] at e5
        exact iteF ⟨F5, G3, av, ad, st5, c2.trans s35, o2.step s35, r2.mono s35.up, by omega, e5⟩
      | true =>
        rw [if_pos rfl, mb_assoc] at e5
        obtain ⟨y, G4, ee, e6⟩ := nx_of e5
        refine iteT ⟨F5, S1, G3, .ok y, G4, st4.step s5 w5, ee, fun F6 H6 s6 w6 v6 q6 => ?_⟩
        have s36 := s35.trans s6.unnox
        have st6 := st5.step s6.unnox w6
        have e6 : onD y (fun z => lcL g ct ce (wipeS S vs) (ds.drop (i + 1)) (ad ++ [z])) G4 = (onD y fun z => lcL g ct ce (wipeS S vs) (ds.drop (i + 1)) (ad ++ [z])) G4 ∧ mb (onD y fun z => lcL g ct ce (wipeS S vs) (ds.drop (i + 1)) (ad ++ [z])) (fun acc => mp (.vl acc)) G4 = some (r, G') := ⟨rfl, e6⟩
        have o6 := o2.step s36
        cases y with
        | d z =>
          have q6 : Rp K F6 v6 z := q6
          have ra := r2.mono s36.up
          obtain ⟨st7, o7⟩ := st6.updOwn (av ++ [v6]) o6 hD
          have hne : ∀ b o, H1 b = some o → b ≠ p := fun b o e => ne_of_none e hp
          have c6 := c2.trans s36
          refine ⟨av, o6.at_, by rw [ra.length]; exact Nat.lt_of_le_of_lt l2 (Nat.lt_of_lt_of_le hlt (RpAll.len_line hlen)), F6, G4, av ++ [v6], ad ++ [z], st7, ⟨c6.up, st7.sub, st7.noex, c6.new, fun b o e m hb => ?_, c6.nt⟩, o7, ra.append (.cons q6 .nil), by rw [List.length_append]; exact Nat.succ_le_succ l2, e6.2⟩
          rw [upd_ne (hne b o e)]
          exact c6.pres b o e m hb
        | vl => cases e6.2
        | dr => cases e6.2
        | sc => cases e6.2
        | fn => cases e6.2
        | ex => cases e6.2
  · have ei : i = ds.length := by omega
    subst ei
    rw [List.drop_length] at e3
    cases e3
    exact .inl ⟨w2, (po1.later c2).now st2 ⟨⟨p, av, rfl, o2, r2⟩, fun _ => ⟨p, rfl, hs0⟩⟩⟩
theorem dv_lc {tr : Bool} {elt tg iter : Expr} {ifs : List Expr} {scope : Scope} {own : List (Str × Nat)} {pos : Pos} {ci : SS → M (List D)} {js : List Nat} {g : D → SS → Option SS} {ct : SS → M Bool} {ce : SS → M DV} (hc : X.calm = true) (hN : X.N.Nodup) (hi : PI X tg iter (iH X.K Φ tr ci)) (ok : BlkOk X.N X.env.scope scope own) (hjs : ∀ j ∈ js, j ∈ own.map (·.2))
    (hg : ∀ (s : Shared) (H : Hp) (C : Addr) (cl : List (Str × Addr)) (fp : List Addr), PG (X.blk s H scope (compEnvC scope cl C X.env) fp) tg (tG X.K Φ.nox tr js g)) (ht : ∀ (s : Shared) (H : Hp) (C : Addr) (cl : List (Str × Addr)) (fp : List Addr), PTs (X.blk s H scope (compEnvC scope cl C X.env) fp) ifs (tDT X.K Φ.nox ct))
    (he : ∀ (s : Shared) (H : Hp) (C : Addr) (cl : List (Str × Addr)) (fp : List Addr), PE (X.blk s H scope (compEnvC scope cl C X.env) fp) elt (tD X.K Φ.nox ce)) (hs : ∀ x, foldedSetIterable iter X.env x = pure x := by intro _; rfl) :
    PE X (.ListComp elt [⟨tg, iter, ifs, 0⟩] scope pos) (tV X.K Φ (cLc ci g ct ce (own.map (·.2)))) :=
  pe_imp (pe_lc hc hN hi ok hg ht he hs) fun _ _ _ h => lc_read hjs h
theorem ds_setLc {tr : Bool} {i : Nat} {y : Str} {py : Pos} {elt tg iter : Expr} {ifs : List Expr} {scope : Scope} {own : List (Str × Nat)} {pos spos : Pos} {ci : SS → M (List D)} {js : List Nat} {g : D → SS → Option SS} {ct : SS → M Bool} {ce : SS → M DV} (hc : X.calm = true) (hN : X.N.Nodup)
    (hsw : swapsWith (.ListComp elt [⟨tg, iter, ifs, 0⟩] scope pos) (some (.Name y py)) spos.line X.env = pure true) (hi : PI X tg iter (iH X.K Φ tr ci)) (ok : BlkOk X.N X.env.scope scope own) (hjs : ∀ j ∈ js, j ∈ own.map (·.2))
    (hg : ∀ (s : Shared) (H : Hp) (C : Addr) (cl : List (Str × Addr)) (fp : List Addr), PG (X.blk s H scope (compEnvC scope cl C X.env) fp) tg (tG X.K Φ.nox tr js g)) (ht : ∀ (s : Shared) (H : Hp) (C : Addr) (cl : List (Str × Addr)) (fp : List Addr), PTs (X.blk s H scope (compEnvC scope cl C X.env) fp) ifs (tDT X.K Φ.nox ct))
    (he : ∀ (s : Shared) (H : Hp) (C : Addr) (cl : List (Str × Addr)) (fp : List Addr), PE (X.blk s H scope (compEnvC scope cl C X.env) fp) elt (tD X.K Φ.nox ce)) (hy : X.N[i]? = some y := by rfl) (hyl : X.env.scope.names.lookup y = some .local := by rfl) (hs : ∀ x, foldedSetIterable iter X.env x = pure x := by intro _; rfl) :
    PS X (.Assign [.Name y py] (.ListComp elt [⟨tg, iter, ifs, 0⟩] scope pos) spos) (tS X.K Φ (aSet i (cLc ci g ct ce (own.map (·.2))))) :=
  ps_imp (ps_setLc hc hN hy hyl hsw hi ok hg ht he hs) fun D σ H ⟨F, S, G, A, st, h, en⟩ => lc_read hjs (ev_run (R := VN X.K Φ H) _ st h en fun F' H' G1 x v st1 s1 vx q => en.nx F' H' _ _ G1 s1.up (st1.setN st i vx) q)
/-- a list made on the way, frozen as soon as it is made -/
def cFz (c : SS → M DV) (S : SS) : M DV := mb (c S) fun x => mp (frz x)
theorem de_fz {e : Expr} {c : SS → M DV} (h : PE X e (tV X.K Φ c)) : PE X e (tD X.K Φ (cFz c)) := by
  refine pe_imp h fun σ H Q q => ?_
  obtain ⟨F, S, G, r, G', st, e, po⟩ := q
  refine tX_run c st e po fun F1 H1 G1 x v st1 s1 vx e1 po1 => ?_
  cases e1
  cases x with
  | vl xs =>
    obtain ⟨⟨a, vs, rfl, o, ra⟩, nw⟩ := vx
    obtain ⟨b, eb, hb⟩ := nw rfl
    cases eb
    obtain ⟨fin, up⟩ := o.freeze st1
    refine po (upd F1 a (.lst vs)) H1 ⟨s1.up.trans up, fin.sub, fin.noex, fun c u e => ?_, s1.pres, fun n c ps e => ?_⟩ st1.w _ (Rp.lst upd_same (ra.mono up))
    by_cases hc : c = a
    · subst hc
      exact .inr hb
    · rw [upd_ne hc] at e
      exact s1.new c u e
    · by_cases hc : c = a
      · subst hc
        rw [upd_same] at e
        cases e
      · rw [upd_ne hc] at e
        exact s1.nt n c ps e
  | d x => exact po1.now st1 vx.1
  | dr => exact po1.now st1 vx.1
  | sc => exact po1.now st1 vx.1
  | fn => exact po1.now st1 vx.1
  | ex => exact po1.now st1 vx.1
end
end DL

namespace DL
open PySem PySem.Spec PyProof.Rows L2

/-! ### own lists changed -/
def onOwn (S : SS) (i : Nat) (k : List D → Prop) : Prop := match S[i]? with
  | some (some (.vl xs)) => k xs
  | _ => False
theorem onOwn_of {S : SS} {i : Nat} {k : List D → Prop} (h : onOwn S i k) : ∃ xs, S[i]? = some (some (.vl xs)) ∧ k xs := by
  unfold onOwn at h
  split at h
  · rename_i xs e
    exact ⟨xs, e, h⟩
  · exact h.elim
section
variable {K : PySem.W.Frag} {Φ : Fx} {F H : Hp} {σ : L2.St} {S : SS} {G : DG}
theorem set_back {α : Type} {l : List α} {i : Nat} {x : α} (h : l[i]? = some x) : l.set i x = l := by
  apply List.ext_getElem?
  intro j
  by_cases e : i = j
  · subst e
    rw [List.getElem?_set_self (List.getElem?_eq_some_iff.mp h).1, h]
  · rw [List.getElem?_set_ne e]
theorem St.own (st : St K Φ F H σ S G) {i : Nat} {xs : List D} (e : S[i]? = some (some (.vl xs))) : ∃ a vs, σ[i]? = some (some (.ref a)) ∧ Own Φ F H a vs ∧ RpAll K F vs xs := by
  obtain ⟨v, e1, a, vs, rfl, o, r⟩ := st.at_ i _ e
  exact ⟨a, vs, e1, o, r⟩
/-- the own list at slot i is changed -/
theorem St.mut (st : St K Φ F H σ S G) {i : Nat} {xs xs' : List D} {a : Addr} {vs vs' : List V} (e : S[i]? = some (some (.vl xs))) (e1 : σ[i]? = some (some (.ref a))) (o : Own Φ F H a vs) (r : RpAll K F vs' xs') :
    St K Φ F (upd H a (.lst vs')) σ (S.set i (some (.vl xs'))) G where
  ok := st.ok
  sub := fun b u q => by
    rw [upd_ne (ne_of_none q o.nf)]
    exact st.sub b u q
  noex := st.noex
  f0 := st.f0
  new := st.new
  pres := fun b u q m hb => by
    rw [upd_ne (fun z => nm_no o.n0 (by rw [← z]; exact q) m)]
    exact st.pres b u q m hb
  nt := st.nt
  w := st.ok.wu H G a _ _ st.w o.ne o.at_ rfl
  len := by rw [List.length_set, st.len]
  at_ := fun j y q => by
    rcases getset q with ⟨rfl, q2⟩ | ⟨hj, q2⟩
    · cases q2
      exact ⟨_, e1, a, vs', rfl, ⟨upd_same, o.nf, o.ne, o.n0⟩, r⟩
    · obtain ⟨v, e3, rv⟩ := st.at_ j y q2
      refine ⟨v, e3, ?_⟩
      cases y with
      | vl ys =>
        obtain ⟨b, ws, rfl, ob, rb⟩ := rv
        have hab : b ≠ a := fun z => st.dist j i a ys xs hj q2 e (by rw [← z]; exact e3) e1
        exact ⟨b, ws, rfl, ⟨by rw [upd_ne hab]; exact ob.at_, ob.nf, ob.ne, ob.n0⟩, rb⟩
      | d => exact rv
      | dr => exact rv
      | sc => exact rv
      | fn => exact rv
      | ex => exact rv
  dist := fun j l b ys zs hjl q1 q2 q3 q4 => by
    rcases getset q1 with ⟨rfl, p1⟩ | ⟨h1, p1⟩
    · rcases getset q2 with ⟨rfl, p2⟩ | ⟨h2, p2⟩
      · exact hjl rfl
      · exact st.dist j l b xs zs hjl e p2 q3 q4
    · rcases getset q2 with ⟨rfl, p2⟩ | ⟨h2, p2⟩
      · exact st.dist j l b ys xs hjl p1 e q3 q4
      · exact st.dist j l b ys zs hjl p1 p2 q3 q4
theorem tyL {a : Addr} {vs : List V} (h : H a = some (.lst vs)) : tyV K "list" (.ref a) H := Or.inl ⟨rfl, vs, SqL.of h⟩
end
def aAppend (i : Nat) (c : SS → M DV) : TSa := fun A S G => onOwn S i fun xs => aEv (c S) A G fun y G1 => ∃ d, y = .d d ∧ xs.length < 100000 ∧ A.nx (S.set i (some (.vl (xs ++ [d])))) G1
def aExtend (i : Nat) (c : SS → M DV) : TSa := fun A S G => onOwn S i fun xs => aEv (c S) A G fun y G1 => ∃ ds, y = .vl ds ∧ xs.length + ds.length ≤ 100000 ∧ A.nx (S.set i (some (.vl (xs ++ ds)))) G1
def aAppPop (i j : Nat) (c : SS → M DV) : TSa := fun A S G => onOwn S i fun xs => onOwn S j fun ys => aEv (c S) A G fun y G1 => ∃ (n : Nat) (d : D), y = .d (.int n) ∧ ys[n]? = some d ∧ xs.length < 100000 ∧ ys.length ≤ 100000 ∧
  A.nx ((S.set j (some (.vl (ys.eraseIdx n)))).set i (some (.vl (xs ++ [d])))) G1
def aPopTo (i : Nat) (g : D → SS → Option SS) : TSa := fun A S G => onOwn S i fun xs => ∃ d S', xs[xs.length - 1]? = some d ∧ g d (S.set i (some (.vl xs.dropLast))) = some S' ∧ A.nx S' G
def aPopAt (i : Nat) (c : SS → M DV) : TSa := fun A S G => onOwn S i fun ys => aEv (c S) A G fun y G1 => ∃ (n : Nat), y = .d (.int n) ∧ n < ys.length ∧ ys.length ≤ 100000 ∧ A.nx (S.set i (some (.vl (ys.eraseIdx n)))) G1
def aSetAt (i : Nat) (c e : SS → M DV) : TSa := fun A S G => aEv (c S) A G fun y G1 => onOwn S i fun xs => aEv (e S) A G1 fun z G2 => ∃ (n : Nat) (d : D), y = .d d ∧ z = .d (.int n) ∧ n < xs.length ∧ A.nx (S.set i (some (.vl (xs.set n d)))) G2
section
variable {X : Cx} {Φ : Fx} {x : Str} {e : Expr} {c : SS → M DV} {p1 p2 p3 p4 : Pos}
theorem nat63 {n m : Nat} (h : n < m) (h2 : m ≤ 100000) : -(2 ^ 63) ≤ (n : Int) ∧ (n : Int) < 2 ^ 63 := by omega
theorem ixN_nat {n m : Nat} (h : n < m) : ixN m (n : Int) = some n := by
  unfold ixN
  rw [if_pos (by omega), if_pos (by omega)]
  rfl
theorem ds_append (i : Nat) (he : PE X e (tD X.K Φ c)) (hN : X.N[i]? = some x := by rfl) (hv : Vis X.env.scope x := by first | exact Or.inl rfl | exact Or.inr (Or.inl rfl) | exact Or.inr (Or.inr rfl)) (hd : (x == ("__debug__" : Str)) = false := by decide) (hcd : (x == ("__classdict__" : Str)) = false := by decide)
    (hm : PE X (.Call (.Attribute (.Name x p1) "append" p2) [e] [] p3) (tBM X.K "list" rAppend (tVar i) (tCons (tD X.K Φ c) tNil))) (hs : swapsWith (.Call (.Attribute (.Name x p1) "append" p2) [e] [] p3) none p4.line X.env = pure false := by rfl) :
    PS X (.Expr (.Call (.Attribute (.Name x p1) "append" p2) [e] [] p3) p4) (tS X.K Φ (aAppend i c)) :=
  ps_imp (ps_expr hm hs) fun D σ H ⟨F, S, G, A, st, h, en⟩ => by
    obtain ⟨xs, es, q⟩ := onOwn_of h
    obtain ⟨a, vs, eσ, o, r⟩ := st.own es
    refine ⟨.ref a, eσ, tyL o.at_, ?_⟩
    refine ev_run c st q en fun F1 H1 G1 y v st1 s1 vy q1 => ?_
    obtain ⟨d, rfl, hl, q2⟩ := q1
    have o1 := o.step s1
    have r1 := r.mono s1.up
    refine ⟨a, vs, v, rfl, rfl, o1.at_, by rw [r1.length]; exact Nat.lt_of_lt_of_le hl (by decide), ?_⟩
    exact en.nx F1 _ σ _ G1 s1.up (st1.mut es eσ o1 (r1.append (.cons vy .nil))) q2
theorem ds_extend (i : Nat) (he : PE X e (tV X.K Φ c)) 
    (hm : PE X (.Call (.Attribute (.Name x p1) "extend" p2) [e] [] p3) (tBM X.K "list" rExtend (tVar i) (tCons (tV X.K Φ c) tNil))) (hs : swapsWith (.Call (.Attribute (.Name x p1) "extend" p2) [e] [] p3) none p4.line X.env = pure false := by rfl) :
    PS X (.Expr (.Call (.Attribute (.Name x p1) "extend" p2) [e] [] p3) p4) (tS X.K Φ (aExtend i c)) :=
  ps_imp (ps_expr hm hs) fun D σ H ⟨F, S, G, A, st, h, en⟩ => by
    obtain ⟨xs, es, q⟩ := onOwn_of h
    obtain ⟨a, vs, eσ, o, r⟩ := st.own es
    refine ⟨.ref a, eσ, tyL o.at_, ?_⟩
    refine ev_run c st q en fun F1 H1 G1 y v st1 s1 vy q1 => ?_
    obtain ⟨ds, rfl, hl, q2⟩ := q1
    obtain ⟨⟨b, ws, rfl, ob, rb⟩, _⟩ := vy
    have o1 := o.step s1
    have r1 := r.mono s1.up
    refine ⟨a, b, vs, ws, rfl, rfl, o1.at_, ob.at_, by rw [r1.length, rb.length]; exact RpAll.len_line hl, ?_⟩
    exact en.nx F1 _ σ _ G1 s1.up (st1.mut es eσ o1 (r1.append rb)) q2
theorem ds_apppop (i j : Nat) {y : Str} {q1 q2 q3 : Pos} (hij : i ≠ j)
    (hm : PE X (.Call (.Attribute (.Name x p1) "append" p2) [.Call (.Attribute (.Name y q1) "pop" q2) [e] [] q3] [] p3) (tBM X.K "list" rAppend (tVar i) (tCons (tBM X.K "list" rPopAt (tVar j) (tCons (tD X.K Φ c) tNil)) tNil)))
    (hs : swapsWith (.Call (.Attribute (.Name x p1) "append" p2) [.Call (.Attribute (.Name y q1) "pop" q2) [e] [] q3] [] p3) none p4.line X.env = pure false := by rfl) :
    PS X (.Expr (.Call (.Attribute (.Name x p1) "append" p2) [.Call (.Attribute (.Name y q1) "pop" q2) [e] [] q3] [] p3) p4) (tS X.K Φ (aAppPop i j c)) :=
  ps_imp (ps_expr hm hs) fun D σ H ⟨F, S, G, A, st, h, en⟩ => by
    obtain ⟨xs, es, q⟩ := onOwn_of h
    obtain ⟨ys, es2, q⟩ := onOwn_of q
    obtain ⟨a, vs, eσ, o, r⟩ := st.own es
    obtain ⟨b, ws, eσ2, o2, r2⟩ := st.own es2
    refine ⟨.ref a, eσ, tyL o.at_, .ref b, eσ2, tyL o2.at_, ?_⟩
    refine ev_run c st q en fun F1 H1 G1 y v st1 s1 vy q1 => ?_
    obtain ⟨n, d, rfl, hd, hl, hl2, q2⟩ := q1
    cases vy
    have o1 := o.step s1
    have r1 := r.mono s1.up
    have o3 := o2.step s1
    have r3 := r2.mono s1.up
    have hn : n < ys.length := (List.getElem?_eq_some_iff.mp hd).1
    obtain ⟨u, hu, ru⟩ := r3.getD hd
    have st2 := st1.mut es2 eσ2 o3 (r3.eraseIdx n)
    have hab : a ≠ b := fun z => st.dist i j a xs ys hij es es2 eσ (by rw [z]; exact eσ2)
    have es' : (S.set j (some (.vl (ys.eraseIdx n))))[i]? = some (some (.vl xs)) := by
      rw [List.getElem?_set_ne (Ne.symm hij)]
      exact es
    have o4 : Own Φ F1 (upd H1 b (.lst (ws.eraseIdx n))) a vs := ⟨by rw [upd_ne hab]; exact o1.at_, o1.nf, o1.ne, o1.n0⟩
    refine ⟨b, ws, n, n, u, rfl, rfl, o3.at_, (nat63 hn hl2).1, (nat63 hn hl2).2, (ixN_seq (ixN_nat (by rw [r3.length]; exact hn))).1, hu, ?_⟩
    refine ⟨a, vs, u, rfl, rfl, o4.at_, by rw [r1.length]; exact Nat.lt_of_lt_of_le hl (by decide), ?_⟩
    exact en.nx F1 _ σ _ G1 s1.up (st2.mut es' eσ o4 (r1.append (.cons ru .nil))) q2
theorem ds_popto (i : Nat) {tg : Expr} {js : List Nat} {g : D → SS → Option SS} (hm : PE X (.Call (.Attribute (.Name x p1) "pop" p2) [] [] p3) (tBM0 X.K "list" rPop (tVar i))) (hg : PG X tg (tG X.K Φ false js g))
    (hs : swapsWithSole [tg] (.Call (.Attribute (.Name x p1) "pop" p2) [] [] p3) p4.line X.env = pure false := by rfl) (hw : swappedStores [tg] (.Call (.Attribute (.Name x p1) "pop" p2) [] [] p3) X.env = pure none := by rfl) (h1 : (assignEach [tg] X.env).map (·.2) = [assign tg X.env] := by rfl) :
    PS X (.Assign [tg] (.Call (.Attribute (.Name x p1) "pop" p2) [] [] p3) p4) (tS X.K Φ (aPopTo i g)) :=
  ps_imp (ps_asg hm hg hs hw h1) fun D σ H ⟨F, S, G, A, st, h, en⟩ => by
    obtain ⟨xs, es, q⟩ := onOwn_of h
    obtain ⟨d, S', hd, hg, q⟩ := q
    obtain ⟨a, vs, eσ, o, r⟩ := st.own es
    obtain ⟨u, hu, ru⟩ := r.getD hd
    have rl := r.length
    refine ⟨.ref a, eσ, tyL o.at_, a, vs, u, rfl, rfl, o.at_, by rw [rl]; exact hu, ?_⟩
    have rd : RpAll X.K F vs.dropLast xs.dropLast := by
      rw [List.dropLast_eq_take, List.dropLast_eq_take, rl]
      exact r.take _
    exact ⟨F, _, G, d, S', st.mut es eσ o rd, ru, hg, fun σ' st' _ _ => en.nx F _ σ' S' G (.refl F) st' q⟩
theorem ds_popat (i : Nat) (hm : PE X (.Call (.Attribute (.Name x p1) "pop" p2) [e] [] p3) (tBM X.K "list" rPopAt (tVar i) (tCons (tD X.K Φ c) tNil))) (hs : swapsWith (.Call (.Attribute (.Name x p1) "pop" p2) [e] [] p3) none p4.line X.env = pure false := by rfl) :
    PS X (.Expr (.Call (.Attribute (.Name x p1) "pop" p2) [e] [] p3) p4) (tS X.K Φ (aPopAt i c)) :=
  ps_imp (ps_expr hm hs) fun D σ H ⟨F, S, G, A, st, h, en⟩ => by
    obtain ⟨ys, es2, q⟩ := onOwn_of h
    obtain ⟨b, ws, eσ2, o2, r2⟩ := st.own es2
    refine ⟨.ref b, eσ2, tyL o2.at_, ?_⟩
    refine ev_run c st q en fun F1 H1 G1 y v st1 s1 vy q1 => ?_
    obtain ⟨n, rfl, hn, hl2, q2⟩ := q1
    cases vy
    have o3 := o2.step s1
    have r3 := r2.mono s1.up
    obtain ⟨u, hu, ru⟩ := r3.getD (List.getElem?_eq_getElem hn)
    refine ⟨b, ws, n, n, u, rfl, rfl, o3.at_, (nat63 hn hl2).1, (nat63 hn hl2).2, (ixN_seq (ixN_nat (by rw [r3.length]; exact hn))).1, hu, ?_⟩
    exact en.nx F1 _ σ _ G1 s1.up (st1.mut es2 eσ2 o3 (r3.eraseIdx n)) q2
theorem ds_setat (i : Nat) {ix : Expr} {ci : SS → M DV} (he : PE X e (tD X.K Φ c)) (hx : PG X (.Subscript (.Name x p1) ix p2) (gSub (tVar i) (tD X.K Φ ci) rSetL))
    (hs : swapsWithSole [.Subscript (.Name x p1) ix p2] e p4.line X.env = pure false := by rfl) (hw : swappedStores [.Subscript (.Name x p1) ix p2] e X.env = pure none := by rfl) :
    PS X (.Assign [.Subscript (.Name x p1) ix p2] e p4) (tS X.K Φ (aSetAt i c ci)) :=
  ps_imp (ps_asg he hx hs hw) fun D σ H ⟨F, S, G, A, st, h, en⟩ => by
    refine ev_run c st h en fun F1 H1 G1 y v st1 s1 vy q1 => ?_
    obtain ⟨xs, es, q⟩ := onOwn_of q1
    obtain ⟨a, vs, eσ, o, r⟩ := st1.own es
    refine ⟨.ref a, eσ, ?_⟩
    refine ev_run ci st1 q (en.up s1.up) fun F2 H2 G2 z u st2 s2 vz q2 => ?_
    obtain ⟨n, d, rfl, rfl, hn, q3⟩ := q2
    cases vz
    have o2 := o.step s2
    have r2 := r.mono s2.up
    refine ⟨a, vs, n, n, rfl, rfl, o2.at_, ixN_nat (by rw [r2.length]; exact hn), ?_⟩
    exact en.nx F2 _ σ _ G2 (s1.up.trans s2.up) (st2.mut es eσ o2 (r2.set n (vy.step s2))) q3
end

/-! ### defs: promises and calls -/
def AEof (r : Rs DV) (G' : DG) : AE where
  nx := fun _ G => r = .ok (.d .none) ∧ G = G'
  rt := fun x G => r = .ok x ∧ G = G'
  er := fun e G => r = .er e ∧ G = G'
  bk := fun _ _ => False
  ct := fun _ _ => False
def VRz (K : PySem.W.Frag) (Φ : Fx) (F H : Hp) (v : V) (x : DV) : Prop := VR K Φ F H v x ∧ isVl x = false
def spF (K : PySem.W.Frag) (gb : Gb) (m : Fam) (f : List DV → M DV) : Sp := fun vs H Q E => ∃ F xs G r G', Sub F H ∧ NT F ∧ (∀ b ∈ m.ex, F b = none) ∧ m.W H G ∧ VRs K ⟨gb, m, F, H, E⟩ F H vs xs ∧ f xs G = some (r, G') ∧ Post (VRz K ⟨gb, m, F, H, E⟩) ⟨gb, m, F, H, E⟩ F H r G' Q
theorem vl_no {K : PySem.W.Frag} {gb : Gb} {m : Fam} {F H : Hp} {E : XK} {v : V} {xs : List D} (h : VR K ⟨gb, m, F, H, E⟩ F H v (.vl xs)) : False := by
  obtain ⟨a, vs, _, o, _⟩ := h
  exact nm_no (show Nm H a from o.n0) o.at_ rfl
theorem paired_get {α β : Type} {R : α → β → Prop} : ∀ {xs : List α} {ys : List β} {i : Nat} {y : β}, Paired R xs ys → ys[i]? = some y → ∃ x, xs[i]? = some x ∧ R x y
  | _, _, 0, _, .cons a _, e => by
    cases e
    exact ⟨_, rfl, a⟩
  | _, _, i + 1, _, .cons _ b, e => paired_get (i := i) b e
theorem fn_ok {P : Program} {w : World} {K : PySem.W.Frag} {mg : Str → Option Value} {base : Heap} {x qual : Str} {st : Stmt} {f : Addr} {fd : FuncData} {N ps : List Str} {k : Nat} {gb : Gb} {m : Fam} {fm : List DV → M DV} {a : TSa} (F : Fun K x qual st f fd) (S : FnScope N ps (defScope st)) (mok : FamOk m)
    (len : ∀ xs G r, fm xs G = some r → xs.length = ps.length)
    (body : ∀ (cdv : Value) (A : Around) (outer : List Env) (s : Shared) (H F0 : Hp) (E : XK), Room k (A.deeper (envOfC qual (defScope st) s.heap.objs.size f cdv)) → PSs (cxOf (L2.CX P w) P w K mg base N qual (defScope st) f cdv A outer s H E) (defBody st) (tS K ⟨gb, m, F0, H, E⟩ a))
    (spec : ∀ xs G r G', fm xs G = some (r, G') → a (AEof r G') (xs.map some ++ List.replicate (N.length - xs.length) none) G) : FnOk P w K mg base (L2.CX P w) (k + 1) f fd ps (spF K gb m fm) := by
  refine F.okX S (fun vs H Q E h => ?_) (fun cdv A outer s H vs Q E hr h => ?_)
  · obtain ⟨F0, xs, G, r, G', _, _, _, _, rv, e, _⟩ := h
    rw [Paired.length rv]
    exact len xs G _ e
  · obtain ⟨F0, xs, G, r, G', sb, nt0, ne, w0, rv, e, po⟩ := h
    refine ⟨_, body cdv A outer s H F0 E hr, F0, _, G, AEof r G', ?_, spec xs G r G' e, ?_⟩
    · refine ⟨mok, sb, ne, .refl F0, fun _ _ q => .inl q, fun _ _ q _ _ => q, nt0, w0, ?_, fun i y q => ?_, fun i j b ys zs hij q1 => ?_⟩
      · rw [L2.start, List.length_append, List.length_append, List.length_map, List.length_map, List.length_replicate, List.length_replicate, Paired.length rv]
      · have hi : xs[i]? = some y := by
          by_cases hl : i < xs.length
          · rw [List.getElem?_append_left (by rw [List.length_map]; exact hl), List.getElem?_map] at q
            cases h1 : xs[i]? with
            | none =>
              rw [h1] at q
              cases q
            | some z =>
              rw [h1] at q
              cases q
              rfl
          · rw [List.getElem?_append_right (by rw [List.length_map]; omega)] at q
            have z := List.mem_of_getElem? q
            rw [List.mem_replicate] at z
            cases z.2
        obtain ⟨v, hv, rr⟩ := paired_get rv hi
        refine ⟨v, ?_, rr⟩
        rw [L2.start, List.getElem?_append_left (by rw [List.length_map]; exact (List.getElem?_eq_some_iff.mp hv).1), List.getElem?_map, hv]
        rfl
      · have hi : xs[i]? = some (.vl ys) := by
          by_cases hl : i < xs.length
          · rw [List.getElem?_append_left (by rw [List.length_map]; exact hl), List.getElem?_map] at q1
            cases h1 : xs[i]? with
            | none =>
              rw [h1] at q1
              cases q1
            | some z =>
              rw [h1] at q1
              cases q1
              rfl
          · rw [List.getElem?_append_right (by rw [List.length_map]; omega)] at q1
            have z := List.mem_of_getElem? q1
            rw [List.mem_replicate] at z
            cases z.2
        obtain ⟨v, hv, rr⟩ := paired_get rv hi
        exact (vl_no rr).elim
    · refine ⟨fun F' H' σ S2 G2 u st2 q => ?_, fun F' H' v x G2 s2 w2 vx hz q => ?_, fun F' H' e G2 s2 w2 q => ?_, fun _ _ _ _ _ _ _ q => q.elim, fun _ _ _ _ _ _ _ q => q.elim⟩
      · obtain ⟨rfl, rfl⟩ := q
        exact po F' H' st2.fin st2.w .non ⟨.non, rfl⟩
      · obtain ⟨rfl, rfl⟩ := q
        exact po F' H' s2 w2 v ⟨vx, hz⟩
      · obtain ⟨rfl, rfl⟩ := q
        exact po F' H' s2 w2

/-- a callee's family in a caller's -/
structure FamLe (m' m : Fam) : Prop where
  ex : ∀ b ∈ m'.ex, b ∈ m.ex
  w : ∀ H G, m.W H G → m'.W H G
  back : ∀ H H' G G', m.W H G → (∀ b o, H b = some o → isMu o = true → b ∉ m'.ex → H' b = some o) → m'.gr G G' → m'.W H' G' → m.W H' G'
def cCall (f : List DV → M DV) (c : SS → M (List DV)) (S : SS) : M DV := mb (c S) fun xs => gd (xs.all (fun x => !isVl x) = true) (f xs)
/-- a step of the callee is one of the caller -/
theorem Step.lift {K : PySem.W.Frag} {Φ : Fx} {F H F' H' : Hp} {σ : L2.St} {S : SS} {G : DG} {m' : Fam} {E : XK} (st : St K Φ F H σ S G) (le : FamLe m' Φ.m) (s : Step ⟨Φ.gb, m', F, H, E⟩ F H F' H') : Step Φ F H F' H' := by
  refine ⟨s.up, s.sub, fun b hb => ?_, s.new, fun b o e m hb => s.pres b o e m fun z => hb (le.ex b z), s.nt⟩
  cases q : F' b with
  | none => rfl
  | some u =>
    rcases s.new b u q with z | z
    · rw [st.noex b hb] at z
      cases z
    · obtain ⟨o, q1, q2⟩ := st.ok.wex H G st.w b hb
      exact (nm_no z q1 q2).elim
theorem VR.re {K : PySem.W.Frag} {Φ Φ' : Fx} (hg : Φ.gb = Φ'.gb) {F H : Hp} {v : V} : ∀ {x : DV}, isVl x = false → VR K Φ F H v x → VR K Φ' F H v x
  | .d _, _, h => h
  | .vl _, q, _ => by cases q
  | .dr, _, h => by
    show v = V.ref Φ'.gb.dr
    rw [← hg]
    exact h
  | .sc _, _, h => h
  | .fn _, _, h => h
  | .ex e, _, ⟨a, h, r⟩ => ⟨a, h, by
    show F a = some (Φ'.gb.eo e a)
    rw [← hg]
    exact r⟩
theorem VRs.re {K : PySem.W.Frag} {Φ Φ' : Fx} (hg : Φ.gb = Φ'.gb) {F H : Hp} : ∀ {vs : List V} {xs : List DV}, xs.all (fun x => !isVl x) = true → VRs K Φ F H vs xs → VRs K Φ' F H vs xs
  | _, [], _, .nil => .nil
  | _, x :: r, q, .cons a b => by
    rw [List.all_cons, Bool.and_eq_true] at q
    refine .cons (VR.re hg ?_ a) (VRs.re hg q.2 b)
    cases h : isVl x with
    | false => rfl
    | true =>
      rw [h] at q
      cases q.1
theorem call_read {K : PySem.W.Frag} {Φ : Fx} {F1 H1 : Hp} {σ : L2.St} {S : SS} {G1 : DG} {m' : Fam} {fm : List DV → M DV} {xs : List DV} {vs : List V} {r : Rs DV} {G' : DG} {Q : VK} (le : FamLe m' Φ.m) (hgr : ∀ xs G r G', fm xs G = some (r, G') → m'.gr G G') (st1 : St K Φ F1 H1 σ S G1) (vx : VRs K Φ F1 H1 vs xs)
    (hv : xs.all (fun x => !isVl x) = true) (e2 : fm xs G1 = some (r, G')) (po1 : Post (VR K Φ) Φ F1 H1 r G' Q) : spF K Φ.gb m' fm vs H1 Q Φ.E := by
  refine ⟨F1, xs, G1, r, G', st1.sub, st1.nt, fun b hb => st1.noex b (le.ex b hb), le.w H1 G1 st1.w, VRs.re (Φ := Φ) (Φ' := ⟨Φ.gb, m', F1, H1, Φ.E⟩) rfl hv vx, e2, fun F' H' s w => ?_⟩
  have s' := Step.lift st1 le s
  have p := po1 F' H' s' (le.back H1 H' G1 G' st1.w s.pres (hgr xs G1 r G' e2) w)
  cases r with
  | ok x => exact fun v q => p v (VR.re (Φ := ⟨Φ.gb, m', F1, H1, Φ.E⟩) (Φ' := Φ) rfl q.2 q.1)
  | er x => exact p
section
variable {X : Cx} {Φ : Fx} {k : Nat} {f : Addr} {fd : FuncData} {ps : List Str} {m' : Fam} {fm : List DV → M DV} {x : Str} {p pos : Pos} {e : Expr} {es : List Expr} {c : SS → M (List DV)}
theorem de_call (Fn : FnOk X.prog X.w X.K X.mg X.base (L2.CX X.prog X.w) k f fd ps (spF X.K Φ.gb m' fm)) (hr : Room k X.A) (hm : X.mg x = some (.ref f)) (hk : PySem.W.keepIn X.K (.ref f) = true) (hb : Binds X.K fd ps []) (px : Passes (L2.CX X.prog X.w) X Φ.E) (le : FamLe m' Φ.m)
    (hgr : ∀ xs G r G', fm xs G = some (r, G') → m'.gr G G') (ha : PA X (e :: es) (tDA X.K Φ c)) (hg : Gl X x := by rfl) (hdb : (x == ("__debug__" : Str)) = false := by decide) (he : starEach (e :: es) X.env = (false, eval e X.env) :: starEach es X.env := by rfl) (hpl : (backTo pos (starEach es X.env)).any (·.1) = false := by rfl) :
    PE X (.Call (.Name x p) (e :: es) [] pos) (tD X.K Φ (cCall fm c)) := by
  refine pe_imp (pe_call Fn hr hg hm hk hb .nil px ha hdb he hpl) fun σ H Q h => ?_
  obtain ⟨F, S, G, r, G', st, e1, po⟩ := h
  refine tX_run c st e1 po fun F1 H1 G1 xs vs st1 s1 vx e2 po1 => ?_
  obtain ⟨hv, e3⟩ := gd_of e2
  rw [List.append_nil]
  exact call_read le hgr st1 vx hv e3 po1
/-- raise X('m') -/
def aRaise (e : Er) : TSa := fun A _ G => A.er e G
theorem ds_raise {C : Addr} {bmB : List Value} {B newId initId : String} {msg : Str} {j : Nat} {p2 p3 : Pos} (hc : X.calm = true) (tk : Takes X fun cls d _ H => Φ.E cls d H) (Fb : ExcBaseFacts B newId initId bmB) (q : PySem.W.excIn X.K C bmB newId = true) (gC : X.mg x = some (.ref C)) (kC : PySem.W.keepIn X.K (.ref C) = true) (r : Raises X (.ref C)) (hca : Φ.gb.ca x = C)
    (hg : Gl X x := by rfl) (hdb : (x == ("__debug__" : Str)) = false := by decide) : PS X (.Raise (some (.Call (.Name x p) [.Constant (.str msg) j p2] [] pos)) none p3) (tS X.K Φ (aRaise ⟨x, []⟩)) :=
  ps_imp (ps_raise hc tk (pmk_own Fb q gC kC r hg hdb)) fun D σ H ⟨F, S, G, A, st, h, en⟩ => by
    have z := en.er F H ⟨x, []⟩ G st.fin st.w h
    have z2 := z.2
    rw [← hca]
    exact z2
end
end DL

namespace DL
open PySem PySem.Spec PyProof.Rows L2

/-! ### operations -/
theorem strOk_app {a b : Str} (ha : PyData.strOk a = true) (hb : PyData.strOk b = true) : PyData.strOk (a ++ b) = true := by
  have h1 : a.cps.all (· < 0x110000) = true := ha
  have h2 : b.cps.all (· < 0x110000) = true := hb
  show (a.cps ++ b.cps).all (· < 0x110000) = true
  rw [Array.all_append, h1, h2]
  rfl
def addD : D → D → Option D
  | .int i, .int j => some (.int (i + j))
  | .str a, .str b => if a.length + b.length ≤ 100000 then some (.str (a ++ b)) else none
  | .tuple xs, .tuple ys => if xs.length + ys.length ≤ 100000 then some (.tuple (xs ++ ys)) else none
  | .list xs, .list ys => if xs.length + ys.length ≤ 100000 then some (.list (xs ++ ys)) else none
  | _, _ => none
def fAdd (x y : DV) : M DV := onD x fun a => onD y fun b => mo ((addD a b).map .d)
def rAddX (K : PySem.W.Frag) : R2 := fun x y H Q => (rI0 fun i j => .int (i + j)) x y H Q ∨ (∃ i j, x = .str i ∧ y = .str j ∧ i.length + j.length ≤ sizeLine ∧ Q (.str (i ++ j)) H) ∨ rCatF K x y H Q ∨ rCat x y H Q
theorem mo_of {β : Type} {o : Option β} {G G' : DG} {r : Rs β} (e : mo o G = some (r, G')) : ∃ x, o = some x ∧ r = .ok x ∧ G' = G := by
  cases o with
  | none => cases e
  | some x =>
    cases e
    exact ⟨x, rfl, rfl, rfl⟩
section
variable {X : Cx} {Φ : Fx}
theorem ox_add : OpR X (binaryOp .Add) (rAddX X.K) := op_add.or (op_add_str.or (op_catF.or op_cat))
theorem of_add {K : PySem.W.Frag} : Op2 K Φ (rAddX K) fAdd := by
  intro F H σ S G x y v u r' G' Q st vx vy e po
  obtain ⟨a, rfl, ra, e⟩ := onD_of vx e
  obtain ⟨b, rfl, rb, e⟩ := onD_of vy e
  obtain ⟨z, ez, rfl, rfl⟩ := mo_of e
  cases ra with
  | int i =>
    cases rb with
    | int j =>
      cases ez
      exact .inl ⟨i, j, rfl, rfl, po.now st (Rp.int _)⟩
    | _ => cases ez
  | str a ha =>
    cases rb with
    | str b hb =>
      have ez : (if a.length + b.length ≤ 100000 then some (PyData.str (a ++ b)) else none).map DV.d = some z := ez
      by_cases h : a.length + b.length ≤ 100000
      · rw [if_pos h] at ez
        cases ez
        exact .inr (.inl ⟨a, b, rfl, rfl, RpAll.len_line h, po.now st (Rp.str _ (strOk_app ha hb))⟩)
      · rw [if_neg h] at ez
        cases ez
    | _ => cases ez
  | @tup p vs ds ha hd =>
    cases rb with
    | @tup p2 ws es hb hd2 =>
      have ez : (if ds.length + es.length ≤ 100000 then some (PyData.tuple (ds ++ es)) else none).map DV.d = some z := ez
      by_cases h : ds.length + es.length ≤ 100000
      · rw [if_pos h] at ez
        cases ez
        refine .inr (.inr (.inl ⟨p, p2, vs, ws, rfl, rfl, st.sub.stp ha.sq, st.sub.stp hb.sq, by rw [hd.length, hd2.length]; exact RpAll.len_line h, fun z => ?_, fun z1 z2 => ?_, fun _ _ => po.newT st (hd.append hd2)⟩))
        · subst z
          cases hd
          exact po.now st (Rp.tup hb hd2)
        · subst z2
          cases hd2
          rw [List.append_nil] at po
          exact po.now st (Rp.tup ha hd)
      · rw [if_neg h] at ez
        cases ez
    | _ => cases ez
  | @lst p vs ds ha hd =>
    cases rb with
    | @lst p2 ws es hb hd2 =>
      have ez : (if ds.length + es.length ≤ 100000 then some (PyData.list (ds ++ es)) else none).map DV.d = some z := ez
      by_cases h : ds.length + es.length ≤ 100000
      · rw [if_pos h] at ez
        cases ez
        exact .inr (.inr (.inr ⟨p, p2, vs, ws, rfl, rfl, st.sub _ _ ha, st.sub _ _ hb, by rw [hd.length, hd2.length]; exact RpAll.len_line h, po.newL st (hd.append hd2)⟩))
      · rw [if_neg h] at ez
        cases ez
    | _ => cases ez
  | non => cases ez
  | bl => cases ez
  | dct => cases ez
/-- two ints -/
def f2I (g : Int → Int → Option D) (x y : DV) : M DV := onI x fun i => onI y fun j => mo ((g i j).map .d)
theorem of_2I {K : PySem.W.Frag} {r : R2} {g : Int → Int → Option D} (h : ∀ i j z H (Q : VK), g i j = some z → (∀ v, (∀ F, Rp K F v z) → Q v H) → r (.int i) (.int j) H Q) : Op2 K Φ r (f2I g) := by
  intro F H σ S G x y v u r' G' Q st vx vy e po
  obtain ⟨i, rfl, rfl, e⟩ := onI_of vx e
  obtain ⟨j, rfl, rfl, e⟩ := onI_of vy e
  obtain ⟨z, ez, rfl, rfl⟩ := mo_of e
  cases hg : g i j with
  | none =>
    rw [hg] at ez
    cases ez
  | some d =>
    rw [hg] at ez
    cases ez
    exact h i j d H Q hg fun v rv => po.now st (rv F)
def fSub := f2I fun i j => some (.int (i - j))
def fMulI := f2I fun i j => if (-(2 ^ 64) < i ∧ i < 2 ^ 64) ∨ (-(2 ^ 64) < j ∧ j < 2 ^ 64) then some (.int (i * j)) else none
def fDiv := f2I fun i j => if j ≠ 0 ∧ j.natAbs < 1073741824 then some (.int (i.fdiv j)) else none
def fMod := f2I fun i j => if j ≠ 0 then some (.int (i.fmod j)) else none
def fLtI := f2I fun i j => some (.bool (decide (i < j)))
def fLe := f2I fun i j => some (.bool (decide (i ≤ j)))
def fGt := f2I fun i j => some (.bool (decide (j < i)))
def fGe := f2I fun i j => some (.bool (decide (j ≤ i)))
theorem of_sub {K : PySem.W.Frag} : Op2 K Φ (rI0 fun i j => .int (i - j)) fSub := of_2I fun i j z H Q e q => by
  cases e
  exact ⟨i, j, rfl, rfl, q _ fun _ => .int _⟩
theorem of_mulI {K : PySem.W.Frag} : Op2 K Φ (rI CMul fun i j => .int (i * j)) fMulI := of_2I fun i j z H Q e q => by
  by_cases h : (-(2 ^ 64) < i ∧ i < 2 ^ 64) ∨ (-(2 ^ 64) < j ∧ j < 2 ^ 64)
  · rw [if_pos h] at e
    cases e
    exact ⟨i, j, rfl, rfl, h, q _ fun _ => .int _⟩
  · rw [if_neg h] at e
    cases e
theorem of_div {K : PySem.W.Frag} : Op2 K Φ (rI CDivN fun i j => .int (i.fdiv j)) fDiv := of_2I fun i j z H Q e q => by
  by_cases h : j ≠ 0 ∧ j.natAbs < 1073741824
  · rw [if_pos h] at e
    cases e
    exact ⟨i, j, rfl, rfl, h, q _ fun _ => .int _⟩
  · rw [if_neg h] at e
    cases e
theorem of_mod {K : PySem.W.Frag} : Op2 K Φ (rI (fun _ j => j ≠ 0) fun i j => .int (i.fmod j)) fMod := of_2I fun i j z H Q e q => by
  by_cases h : j ≠ 0
  · rw [if_pos h] at e
    cases e
    exact ⟨i, j, rfl, rfl, h, q _ fun _ => .int _⟩
  · rw [if_neg h] at e
    cases e
theorem of_le {K : PySem.W.Frag} : Op2 K Φ (rI0 fun i j => .bl (decide (i ≤ j))) fLe := of_2I fun i j z H Q e q => by
  cases e
  exact ⟨i, j, rfl, rfl, q _ fun _ => .bl _⟩
theorem of_gt {K : PySem.W.Frag} : Op2 K Φ (rI0 fun i j => .bl (decide (j < i))) fGt := of_2I fun i j z H Q e q => by
  cases e
  exact ⟨i, j, rfl, rfl, q _ fun _ => .bl _⟩
theorem of_ge {K : PySem.W.Frag} : Op2 K Φ (rI0 fun i j => .bl (decide (j ≤ i))) fGe := of_2I fun i j z H Q e q => by
  cases e
  exact ⟨i, j, rfl, rfl, q _ fun _ => .bl _⟩
/-- a < b: ints, texts -/
def ltD : D → D → Option Bool
  | .int i, .int j => some (decide (i < j))
  | .str a, .str b => some (decide (a.cps.toList < b.cps.toList))
  | _, _ => none
def fLt (x y : DV) : M DV := onD x fun a => onD y fun b => mo ((ltD a b).map fun k => .d (.bool k))
def rLtX : R2 := fun x y H Q => (rI0 fun i j => .bl (decide (i < j))) x y H Q ∨ ∃ i j, x = .str i ∧ y = .str j ∧ Q (.bl (decide (i.cps.toList < j.cps.toList))) H
theorem ox_lt : OpR X (compareOp .Lt) rLtX := op_lt.or op_lt_str
theorem of_lt {K : PySem.W.Frag} : Op2 K Φ rLtX fLt := by
  intro F H σ S G x y v u r' G' Q st vx vy e po
  obtain ⟨a, rfl, ra, e⟩ := onD_of vx e
  obtain ⟨b, rfl, rb, e⟩ := onD_of vy e
  obtain ⟨z, ez, rfl, rfl⟩ := mo_of e
  cases ra with
  | int i =>
    cases rb with
    | int j =>
      cases ez
      exact .inl ⟨i, j, rfl, rfl, po.now st (Rp.bl _)⟩
    | _ => cases ez
  | str a ha =>
    cases rb with
    | str b hb =>
      cases ez
      exact .inr ⟨a, b, rfl, rfl, po.now st (Rp.bl _)⟩
    | _ => cases ez
  | _ => cases ez
/-- as data, frozen or not -/
def toD : DV → Option D
  | .d x => some x
  | .vl xs => some (.list xs)
  | _ => none
theorem toD_dp {K : PySem.W.Frag} {F H : Hp} {v : V} {x : DV} {d : D} (sb : Sub F H) (h : VR K Φ F H v x) (e : toD x = some d) (p : eqOk d = true) : Dp K H v d ∧ SeqAt.shaped d = true := by
  have q := Bool.and_eq_true_iff.mp p
  cases x with
  | d x =>
    cases e
    exact ⟨Rp.dp sb h q.1, Rp.shaped h p⟩
  | vl xs =>
    cases e
    obtain ⟨a, vs, rfl, o, r⟩ := h
    exact ⟨.lst (SqL.of o.at_) (RpAll.dp sb r q.1), Bool.and_eq_true_iff.mpr ⟨r.lay q.1, q.2⟩⟩
  | sc => cases e
  | dr => cases e
  | fn => cases e
  | ex => cases e
def fEqG (neg : Bool) (x y : DV) : M DV := mb (mo (toD x)) fun a => mb (mo (toD y)) fun b => gd (eqOk a = true ∧ eqOk b = true) (mp (.d (.bool (if neg = true then !PyData.eqv a b else PyData.eqv a b))))
def fEq := fEqG false
def fNe := fEqG true
theorem of_eqG {K : PySem.W.Frag} {neg : Bool} {r : R2} (h : ∀ x y d e H (Q : VK), Dp K H x d → Dp K H y e → SeqAt.shaped d = true → SeqAt.shaped e = true → Q (.bl (if neg = true then !PyData.eqv d e else PyData.eqv d e)) H → r x y H Q) : Op2 K Φ r (fEqG neg) := by
  intro F H σ S G x y v u r' G' Q st vx vy e po
  cases hx : toD x with
  | none =>
    unfold fEqG at e
    rw [hx] at e
    cases e
  | some a =>
    cases hy : toD y with
    | none =>
      unfold fEqG at e
      rw [hx, mo_some, mb_mp, hy] at e
      cases e
    | some b =>
      unfold fEqG at e
      rw [hx, mo_some, mb_mp, hy, mo_some, mb_mp] at e
      obtain ⟨hp, e⟩ := gd_of e
      cases e
      obtain ⟨h1, h2⟩ := toD_dp st.sub vx hx hp.1
      obtain ⟨h3, h4⟩ := toD_dp st.sub vy hy hp.2
      exact h v u a b H Q h1 h3 h2 h4 (po.now st (Rp.bl _))
theorem of_eq {K : PySem.W.Frag} : Op2 K Φ (rEqD K) fEq := of_eqG fun x y d e H Q h1 h2 h3 h4 q => ⟨d, e, h1, h2, h3, h4, q⟩
theorem of_ne {K : PySem.W.Frag} : Op2 K Φ (rNeD K) fNe := of_eqG fun x y d e H Q h1 h2 h3 h4 q => ⟨d, e, h1, h2, h3, h4, q⟩
/-- is None, is True .. -/
def nonOf : DV → Bool
  | .d .none => true
  | _ => false
def isOf (neg : Bool) (x : DV) : D → M DV
  | .none => mp (.d (.bool (if neg = true then !nonOf x else nonOf x)))
  | .bool k => onB x fun j => mp (.d (.bool (if neg = true then !decide (j = k) else decide (j = k))))
  | _ => mz
def fIsG (neg : Bool) (x y : DV) : M DV := onD y (isOf neg x)
def fIs := fIsG false
def fIsnt := fIsG true
theorem nonOf_eq {K : PySem.W.Frag} {F H : Hp} {v : V} {x : DV} (h : VR K Φ F H v x) : decide (v = .non) = nonOf x := by
  cases x with
  | d x =>
    cases h with
    | non => rfl
    | bl => exact decide_eq_false (fun z => nomatch z)
    | int => exact decide_eq_false (fun z => nomatch z)
    | str => exact decide_eq_false (fun z => nomatch z)
    | lst => exact decide_eq_false (fun z => nomatch z)
    | tup => exact decide_eq_false (fun z => nomatch z)
    | dct => exact decide_eq_false (fun z => nomatch z)
  | vl =>
    obtain ⟨a, vs, rfl, _⟩ := h
    exact decide_eq_false (fun z => nomatch z)
  | sc =>
    obtain ⟨a, rfl, _⟩ := h
    exact decide_eq_false (fun z => nomatch z)
  | dr =>
    cases (show v = V.ref Φ.dr from h)
    exact decide_eq_false (fun z => nomatch z)
  | fn a =>
    cases (show v = V.ref a from h)
    exact decide_eq_false (fun z => nomatch z)
  | ex =>
    obtain ⟨a, rfl, _⟩ := h
    exact decide_eq_false (fun z => nomatch z)
def rIsX : R2 := fun x y H Q => (y = .non ∧ Q (.bl (decide (x = .non))) H) ∨ ∃ a b : Bool, x = .bl a ∧ y = .bl b ∧ Q (.bl (decide (a = b))) H
def rIsntX : R2 := fun x y H Q => (y = .non ∧ Q (.bl (!decide (x = .non))) H) ∨ ∃ a b : Bool, x = .bl a ∧ y = .bl b ∧ Q (.bl (!decide (a = b))) H
theorem of_isG {K : PySem.W.Frag} {neg : Bool} {r : R2} (h : ∀ x y H (Q : VK), ((y = .non ∧ Q (.bl (if neg = true then !decide (x = .non) else decide (x = .non))) H) ∨ ∃ a b : Bool, x = .bl a ∧ y = .bl b ∧ Q (.bl (if neg = true then !decide (a = b) else decide (a = b))) H) → r x y H Q) : Op2 K Φ r (fIsG neg) := by
  intro F H σ S G x y v u r' G' Q st vx vy e po
  obtain ⟨b, rfl, rb, e⟩ := onD_of vy e
  refine h v u H Q ?_
  cases rb with
  | non =>
    cases e
    refine .inl ⟨rfl, ?_⟩
    rw [nonOf_eq vx]
    exact po.now st (Rp.bl _)
  | bl k =>
    have e : onB x (fun j => mp (DV.d (.bool (if neg = true then !decide (j = k) else decide (j = k))))) G = some (r', G') := e
    obtain ⟨j, rfl, rfl, e2⟩ := onB_of vx e
    cases e2
    exact .inr ⟨j, k, rfl, rfl, po.now st (Rp.bl _)⟩
  | int => cases e
  | str => cases e
  | lst => cases e
  | tup => cases e
  | dct => cases e
theorem of_is {K : PySem.W.Frag} : Op2 K Φ rIsX fIs := of_isG fun _ _ _ _ q => q
theorem of_isnt {K : PySem.W.Frag} : Op2 K Φ rIsntX fIsnt := of_isG fun _ _ _ _ q => q
theorem ox_is : OpR X (compareOp .Is) rIsX := op_isN.or op_is_bl
theorem ox_isnt : OpR X (compareOp .IsNot) rIsntX := op_notN.or op_isnot_bl
end
end DL

/-! sorted of a list or a tuple of data that can be ordered -/
namespace DL
open PySem PySem.Spec PySem.W PyProof.Rows L2
section
variable {prog : Program} {w : World} {A : Around} {E : Value → Shared → Prop} {s : Shared}
/-- the heap behind a collect -/
abbrev coH (h : Heap) (vs : List Value) : Heap := (h.push (seqObj "list" #[] 0)).update h.objs.size (Obj.mapSeq (· ++ vs.toArray))
theorem collect_seq {T : String} {l : Addr} {vs : List Value} {o : Obj} {n : Nat} {Q : List Value → Shared → Prop} (ho : s.heap.get? l = some o) (hc : o.cls = .type T) (hd : o.data = .seq vs.toArray n) (hT : T = "list" ∨ T = "tuple")
    (h : Q vs { s with heap := coH s.heap vs }) (hsz : vs.length ≤ sizeLine) : wpAny (model prog w) A (collect (.ref l)) Q E s := by
  unfold collect
  refine wpAny_bind (wpAny_runValue (codeAny_builtin entry_proto_collect' ?_))
  show wpAny _ _ (do again (.builtin "list.__iadd__" ⟨[← newList [], .ref l], []⟩)) _ _ s
  refine wpAny_bind (wpAny_newList (wpAny_pure ⟨Code.quiet_builtin _ (by decide +kernel), codeAny_builtin entry_list_iadd' ?_⟩))
  show wpAny _ _ (Builtin.List.listExtendWith (.ref s.heap.objs.size) (.ref l) (.ref s.heap.objs.size)) _ _ { s with heap := s.heap.push (seqObj "list" #[] 0) }
  unfold Builtin.List.listExtendWith
  have hl : (s.heap.push (seqObj "list" #[] 0)).get? l = some o := Heap.get?_push_of_some _ ho
  refine wpAny_bind (wpAny_typeOf (T := T) ⟨o, hl, hc⟩ ?_)
  have hif : (Builtin.List.listSameRef (.ref s.heap.objs.size) (.ref l) || Value.type T == Value.type "list" || Value.type T == Value.type "tuple") = true := by
    rcases hT with rfl | rfl
    · rw [show (Value.type "list" == Value.type "list") = true from rfl, Bool.or_true, Bool.true_or]
    · rw [show (Value.type "tuple" == Value.type "tuple") = true from rfl, Bool.or_true]
  rw [if_pos hif]
  refine wpAny_bind (listItems_at hl hd ?_)
  refine wpAny_bind (listItems_at (xs := #[]) (n := 0) (Heap.get?_push_size _ rfl) rfl ?_)
  rw [if_neg (by simp)]
  refine wpAny_bind (listUpdate_at (xs := #[]) (n := 0) (Heap.get?_push_size _ rfl) rfl ?_ (Nat.zero_le _) (by show (#[] ++ vs.toArray).size ≤ sizeLine + 1; simp only [Array.size_append, List.size_toArray, List.length_nil]; omega))
  refine wpAny_pure ?_
  show wpAny (model prog w) A (load s.heap.objs.size >>= fun o => match o.data with
    | .seq xs _ => pure xs.toList
    | _ => unsupported "internal:collect") Q E { s with heap := coH s.heap vs }
  refine wpAny_bind (wpAny_load (get?_update_seq (Heap.get?_push_size _ rfl) _) ?_)
  show wpAny _ _ (pure ((#[] : Array Value) ++ vs.toArray).toList) Q E _
  rw [show ((#[] : Array Value) ++ vs.toArray).toList = vs by simp]
  exact wpAny_pure h
/-- sorted(list or tuple) of data -/
theorem sorted_seq {T : String} {l : Addr} {vs : List Value} {o : Obj} {n : Nat} {Q : Value → Shared → Prop} {R : Value → PyData → Prop} {ds : List PyData} (ho : s.heap.get? l = some o) (hc : o.cls = .type T) (hd : o.data = .seq vs.toArray n) (hT : T = "list" ∨ T = "tuple")
    (e : EachIs R vs ds) (er : EachIs (fun v d => ∃ as, Reads s.heap v d as) vs ds) (hal : AllAlike ds) (hk : Sortable ds) (hL : ds.length ≤ sizeLine) (hu : ∀ d, d ∈ ds → A.units + 2 + d.depth < cLine)
    (h : ∀ (out : List Value) (h' : Heap) (p : Addr), (∀ b o, s.heap.get? b = some o → h'.get? b = some o) → s.heap.objs.size ≤ p → out.length = ds.length → EachIs R out (ds.mergeSort (dataLe false fun d => d)) → (∃ ep, h'.get? p = some (seqObj "list" out.toArray ep)) → Q (.ref p) { s with heap := h' }) :
    wpAny (model prog w) A (call (.builtin "sorted") [.ref l]) Q E s := by
  have hlen : vs.length = ds.length := e.length
  have hL2 : vs.length ≤ sizeLine := by rw [hlen]; exact hL
  have idm : ds.map (fun d => d) = ds := List.map_id' ds
  have er2 : EachIs (fun v d => ∃ as, Reads (sortingHeap (copyHeap s.heap vs) (s.heap.objs.size + 1) vs) v d as) vs ds := er.mono fun v d ⟨as, r⟩ => ⟨as, PyProof.Rows.Reads.keeps (fun _ _ => sorting_copy_old) r⟩
  have body : ∀ E' : Value → Shared → Prop, wpAny (model prog w) A.in1.in1 (Builtin.«list.sort» ⟨[.ref (s.heap.objs.size + 1)], []⟩) (fun f s' => f = .done (.ret .none) ∧ Q (.ref (s.heap.objs.size + 1)) s') E' { s with heap := copyHeap s.heap vs } := fun E' => by
    have srt := SortsAt.data (prog := prog) (w := w) (A := A.in1.in1) (s := { s with heap := sortingHeap (copyHeap s.heap vs) (s.heap.objs.size + 1) vs }) (vs := vs) (ds := ds) er2 hal hk (fun d hd => hu d hd)
    refine list_sort_vals (s := { s with heap := copyHeap s.heap vs }) (copyHeap_at s.heap vs) srt hL2 ⟨rfl, ?_⟩
    have er3 : EachIs (fun v b => ∃ as, Reads (sortingHeap (copyHeap s.heap vs) (s.heap.objs.size + 1) vs) v b as) vs ds := er2
    have fin := sortVals_data (R := R) (enc := fun d : PyData => d) false e er3 (by rw [idm]; exact hal)
    rw [idm] at fin
    refine h _ (sortedAll s.heap vs _) _ (fun b o eb => sortedAll_old eb) (Nat.le_succ _) ?_ fin (sortedAll_at s.heap vs _)
    rw [sortVals_length false rfl]
    exact hlen
  refine Calls.call_function_entry kind_sorted plain_sorted entry_sorted (args_sorted1 _) ?_
  unfold Builtin.«sorted»
  refine wpAny_bind (m := checkCount "sorted" 1 1 _) (wpAny_pure ?_)
  refine wpAny_bind (collect_seq ho hc hd hT ?_ hL2)
  refine wpAny_bind (wpAny_newList ?_ hL2)
  have hsz : (coH s.heap vs).objs.size = s.heap.objs.size + 1 := by rw [Heap.size_update, size_push']
  show wpAny _ _ _ _ _ { s with heap := copyHeap s.heap vs }
  rw [hsz]
  refine wpAny_bind (wpAny_holding (wpAny_call_entry slot_list_sort ⟨_, copyHeap_at s.heap vs, rfl⟩ entry_list_sort ?body (args_list_sort _)))
  case body =>
    show wpAny (model prog w) A.in1.in1 (Builtin.«list.sort» ⟨[.ref (s.heap.objs.size + 1)], []⟩) _ _ _
    refine wpAny_mono (body _) (fun f s' hf => ?_) fun _ _ e => e
    obtain ⟨rfl, hq⟩ := hf
    exact ⟨_, rfl, wpAny_pure ⟨_, rfl, hq⟩⟩
end
/-- data that sorted takes -/
def alikeB (ds : List D) : Bool := ds.all fun d => ds.all fun e => alike d e
def sortB (ds : List D) : Bool := (ds.all fun d => match d with
    | .tuple (_ :: _) => true
    | _ => false) || ds.all fun d => match d with
    | .none => false
    | .tuple _ => false
    | _ => true
def sortOk (ds : List D) : Bool := alikeB ds && sortB ds && plainAll ds && ds.all (fun d => decide (d.depth ≤ 50)) && decide (ds.length ≤ 100000)
theorem alikeB_ok {ds : List D} (h : alikeB ds = true) : AllAlike ds := fun d hd e he => List.all_eq_true.mp (List.all_eq_true.mp h d hd) e he
theorem sortB_ok {ds : List D} (h : sortB ds = true) : Sortable ds := by
  rcases Bool.or_eq_true_iff.mp h with q | q
  · refine .inl fun d hd => ?_
    have z := List.all_eq_true.mp q d hd
    cases d with
    | tuple xs =>
      cases xs with
      | nil => cases z
      | cons x r => exact ⟨x, r, rfl⟩
    | _ => cases z
  · refine .inr fun d hd => ?_
    have z := List.all_eq_true.mp q d hd
    cases d with
    | none => cases z
    | tuple xs => cases z
    | bool => exact ⟨fun e => (nomatch e), fun _ e => (nomatch e)⟩
    | int => exact ⟨fun e => (nomatch e), fun _ e => (nomatch e)⟩
    | str => exact ⟨fun e => (nomatch e), fun _ e => (nomatch e)⟩
    | list => exact ⟨fun e => (nomatch e), fun _ e => (nomatch e)⟩
    | dict => exact ⟨fun e => (nomatch e), fun _ e => (nomatch e)⟩
def srt (ds : List D) : List D := ds.mergeSort (dataLe false fun d => d)
/-- a list or a tuple -/
def onQ {β : Type} (x : DV) (k : List D → M β) : M β := match x with
  | .d (.list ds) => k ds
  | .d (.tuple ds) => k ds
  | .vl ds => k ds
  | _ => mz
theorem onQ_of {β : Type} {K : PySem.W.Frag} {Φ : Fx} {F H : Hp} {v : V} {x : DV} {G : DG} {r : Rs β × DG} {k : List D → M β} (h : VR K Φ F H v x) (sb : Sub F H) (e : onQ x k G = some r) : ∃ ds a vs, v = .ref a ∧ (SqL K H a vs ∨ SqT K H a vs) ∧ RpAll K F vs ds ∧ k ds G = some r := by
  cases x with
  | d d =>
    cases d with
    | list z =>
      cases h with
      | lst h1 h2 => exact ⟨z, _, _, rfl, .inl (SqL.of (sb _ _ h1)), h2, e⟩
    | tuple z =>
      cases h with
      | tup h1 h2 => exact ⟨z, _, _, rfl, .inr (sb.stp h1.sq), h2, e⟩
    | none => cases e
    | bool => cases e
    | int => cases e
    | str => cases e
    | dict => cases e
  | vl ds =>
    obtain ⟨a, vs, rfl, o, ra⟩ := h
    exact ⟨ds, a, vs, rfl, .inl (SqL.of o.at_), ra, e⟩
  | sc => cases e
  | dr => cases e
  | fn => cases e
  | ex => cases e
def fSorted (xs : List DV) : M DV := on1 xs fun x => onQ x fun ds => gd (sortOk ds = true) (mp (.d (.list (srt ds))))
def rSortX (K : PySem.W.Frag) : List V → Hp → VK → Prop := fun xs H Q => ∃ a vs ds, xs = [.ref a] ∧ (SqL K H a vs ∨ SqT K H a vs) ∧ (∃ F, Sub F H ∧ RpAll K F vs ds ∧ ∀ ws p, RpAll K F ws (srt ds) → H p = none → Q (.ref p) (upd H p (.lst ws))) ∧ sortOk ds = true
theorem each_of {K : PySem.W.Frag} {F : Hp} : ∀ {vs : List V} {us : List Value} {ds : List D}, RpAll K F vs ds → Vals vs us → EachIs (fun u d => ∃ v, RelV v u ∧ Rp K F v d) us ds
  | _, _, _, .nil, .nil => .nil
  | _, _, _, .cons a b, .cons r t => .cons ⟨_, r, a⟩ (each_of b t)
theorem of_each {K : PySem.W.Frag} {F : Hp} : ∀ {us : List Value} {ds : List D}, EachIs (fun u d => ∃ v, RelV v u ∧ Rp K F v d) us ds → ∃ vs, Vals vs us ∧ RpAll K F vs ds
  | _, _, .nil => ⟨[], .nil, .nil⟩
  | _, _, .cons ⟨v, r, a⟩ b => by
    obtain ⟨vs, h1, h2⟩ := of_each b
    exact ⟨v :: vs, .cons r h1, .cons a h2⟩
theorem each_reads {X : Cx} {pins : List (Addr × Obj)} {σ : L2.St} {H F : Hp} {s : Shared} (I : L2.Inv X pins σ H s) (sb : Sub F H) : ∀ {vs : List V} {us : List Value} {ds : List D}, RpAll X.K F vs ds → Vals vs us → plainAll ds = true → EachIs (fun v d => ∃ as, Reads s.heap v d as) us ds
  | _, _, _, .nil, .nil, _ => .nil
  | _, _, _, .cons a b, .cons r t, p => by
    have q := Bool.and_eq_true_iff.mp p
    exact .cons (Dp.reads I _ _ _ (a.dp sb q.1) r) (each_reads I sb b t q.2)
theorem ox_sorted {X : Cx} (hu : X.A.units + 64 < cLine) : CallR X (.builtin "sorted") (rSortX X.K) := by
  intro pins s σ H xs us Q I r h
  obtain ⟨a, vs, ds, rfl, hs, ⟨F, sb, ra, q⟩, ok⟩ := h
  obtain ⟨u, rfl, rx⟩ := vals1 r
  cases rx
  simp only [sortOk, Bool.and_eq_true, decide_eq_true_eq] at ok
  obtain ⟨⟨⟨⟨h1, h2⟩, h3⟩, h4⟩, h5⟩ := ok
  have key : ∀ {T : String} {its : List Value} {o : Obj} {n : Nat}, s.heap.get? a = some o → o.cls = .type T → o.data = .seq its.toArray n → (T = "list" ∨ T = "tuple") → Vals vs its → wpAny (model X.prog X.w) X.A (call (.builtin "sorted") [.ref a]) (EP X pins σ Q) X.xe s := fun {T its o n} ho hc hd hT rv => by
    refine sorted_seq ho hc hd hT (each_of ra rv) (each_reads I sb ra rv h3) (alikeB_ok h1) (sortB_ok h2) (RpAll.len_line h5) (fun d hd => ?_) fun out h' p kp hp hl eo hat => ?_
    · have z := of_decide_eq_true (List.all_eq_true.mp h4 d hd)
      omega
    · obtain ⟨ws, rw_, rr⟩ := of_each eo
      obtain ⟨ep, hat⟩ := hat
      have hn : H p = none := I.hok.fresh hp
      have wl : ws.length ≤ sizeLine := by
        rw [rw_.length, hl]
        exact RpAll.len_line h5
      exact ⟨.ref p, upd H p (.lst ws), I.laid (t' := s.toks) kp hp ⟨wl, out, ep, rw_, hat⟩, rfl, q ws p rr hn⟩
  rcases hs with hs | hs
  · obtain ⟨its, rv, ⟨o, n, ho, hc, _, hd⟩, _⟩ := I.list hs
    exact key ho hc hd (.inl rfl) rv
  · obtain ⟨its, rv, ⟨o, ho, hc, n, hd⟩, _⟩ := I.tuple hs
    exact key ho hc hd (.inr rfl) rv
theorem of_sorted {K : PySem.W.Frag} {Φ : Fx} : OpA K Φ (rSortX K) fSorted := by
  intro F H σ S G xs vs r' G' Q st vx e po
  obtain ⟨x, v, rfl, rfl, hv, e2⟩ := on1_of vx e
  obtain ⟨ds, a, ws, rfl, hs, ra, e3⟩ := onQ_of hv st.sub e2
  obtain ⟨ok, e4⟩ := gd_of e3
  cases e4
  exact ⟨a, ws, ds, rfl, hs, ⟨F, st.sub, ra, fun ws' p rr hp => po.newL st rr p hp⟩, ok⟩
end DL

namespace DL
open PySem PySem.Spec PyProof.Rows L2
section
variable {X : Cx} {Φ : Fx}
/-! ### in -/
/-- a text of one sign -/
def sign1 (z : Str) : Option Nat := match z.cps.toList with
  | [c] => some c
  | _ => none
theorem sign1_eq {z : Str} {c : Nat} (h : sign1 z = some c) : z = ⟨#[c]⟩ := by
  unfold sign1 at h
  split at h
  · rename_i e
    cases h
    obtain ⟨z⟩ := z
    have q : z = #[c] := Array.toList_inj.mp e
    rw [q]
  · cases h
def inS (x : DV) (z : Str) : Option Bool := match x with
  | .d (.str w) => (sign1 w).map fun c => decide (c ∈ z.cps.toList)
  | _ => none
def inD (x : DV) (neg : Bool) (y : DV) : M DV := match y with
  | .d (.str z) => mo ((inS x z).map fun k => .d (.bool (if neg = true then !k else k)))
  | y => onQ y fun ds => mb (mo (toD x)) fun d => gd (eqOk d = true ∧ eqOk (.list ds) = true) (mp (.d (.bool (if neg = true then !ds.any fun z => PyData.eqv z d else ds.any fun z => PyData.eqv z d))))
def fInG (neg : Bool) (x y : DV) : M DV := inD x neg y
def fIn := fInG false
def fNotIn := fInG true
def rInTD (K : PySem.W.Frag) (neg : Bool) : R2 := fun x y H Q => ∃ d ds, Dp K H x d ∧ (Dp K H y (.list ds) ∨ Dp K H y (.tuple ds)) ∧ SeqAt.shaped d = true ∧ SeqAt.shaped (.list ds) = true ∧ Q (.bl (if neg = true then !ds.any fun z => PyData.eqv z d else ds.any fun z => PyData.eqv z d)) H
def rSgn (neg : Bool) : R2 := fun x y H Q => ∃ (c : Nat) (z : Str), x = .str ⟨#[c]⟩ ∧ y = .str z ∧ Q (.bl (if neg = true then !decide (c ∈ z.cps.toList) else decide (c ∈ z.cps.toList))) H
def rInX (K : PySem.W.Frag) (neg : Bool) : R2 := fun x y H Q => rSgn neg x y H Q ∨ rInTD K neg x y H Q
theorem ox_in (hu : X.A.units + 65 < cLine) : OpR X (compareOp .In) (rInX X.K false) := OpR.or op_in_sign (by
  intro pins s σ H x y v u Q I rx ry h
  obtain ⟨d, ds, hd, he, sd, se, q⟩ := h
  obtain ⟨as, r1⟩ := Dp.reads I d x v hd rx
  have room := room_in_shaped (A := X.A) (xs := ds) sd hu
  rcases he with he | he
  · obtain ⟨bs, r2⟩ := Dp.reads I (.list ds) y u he ry
    exact SeqAt.in_list_reads r2 r1 (SeqAt.canLay_of_shaped se) (SeqAt.canLay_of_shaped sd) room ⟨.bl _, H, I, rfl, q⟩
  · obtain ⟨bs, r2⟩ := Dp.reads I (.tuple ds) y u he ry
    exact SeqAt.in_tuple_reads r2 r1 (SeqAt.canLay_of_shaped se) (SeqAt.canLay_of_shaped sd) room ⟨.bl _, H, I, rfl, q⟩)
theorem ox_notin (hu : X.A.units + 65 < cLine) : OpR X (compareOp .NotIn) (rInX X.K true) := OpR.or op_notIn_sign (by
  intro pins s σ H x y v u Q I rx ry h
  obtain ⟨d, ds, hd, he, sd, se, q⟩ := h
  obtain ⟨as, r1⟩ := Dp.reads I d x v hd rx
  have room := room_in_shaped (A := X.A) (xs := ds) sd hu
  rcases he with he | he
  · obtain ⟨bs, r2⟩ := Dp.reads I (.list ds) y u he ry
    exact SeqAt.notIn_list_reads r2 r1 (SeqAt.canLay_of_shaped se) (SeqAt.canLay_of_shaped sd) room ⟨.bl _, H, I, rfl, q⟩
  · obtain ⟨bs, r2⟩ := Dp.reads I (.tuple ds) y u he ry
    exact SeqAt.notIn_tuple_reads r2 r1 (SeqAt.canLay_of_shaped se) (SeqAt.canLay_of_shaped sd) room ⟨.bl _, H, I, rfl, q⟩)
/-- a list or a tuple as data -/
theorem onQ_dp {β : Type} {K : PySem.W.Frag} {F H : Hp} {v : V} {x : DV} {G : DG} {r : Rs β × DG} {k : List D → M β} (h : VR K Φ F H v x) (sb : Sub F H) (e : onQ x k G = some r) : ∃ ds, (plainAll ds = true → (Dp K H v (.list ds) ∨ Dp K H v (.tuple ds)) ∧ PyData.canLayAll0 ds = true) ∧ k ds G = some r := by
  obtain ⟨ds, a, vs, rfl, hs, ra, e2⟩ := onQ_of h sb e
  refine ⟨ds, fun p => ⟨?_, ra.lay p⟩, e2⟩
  rcases hs with hs | hs
  · exact .inl (.lst hs (ra.dp sb p))
  · exact .inr (.tup hs (ra.dp sb p))
theorem of_inG {K : PySem.W.Frag} {neg : Bool} : Op2 K Φ (rInX K neg) (fInG neg) := by
  intro F H σ S G x y v u r' G' Q st vx vy e po
  have key : ∀ {ds : List D} {d : D}, toD x = some d → eqOk d = true ∧ eqOk (.list ds) = true → (plainAll ds = true → (Dp K H u (.list ds) ∨ Dp K H u (.tuple ds)) ∧ PyData.canLayAll0 ds = true) →
      (mp (DV.d (.bool (if neg = true then !ds.any fun z => PyData.eqv z d else ds.any fun z => PyData.eqv z d)))) G = some (r', G') → rInX K neg v u H Q := fun {ds d} hx hp hd e => by
    cases e
    obtain ⟨h1, h2⟩ := toD_dp st.sub vx hx hp.1
    have q := Bool.and_eq_true_iff.mp hp.2
    obtain ⟨h3, h4⟩ := hd q.1
    exact .inr ⟨d, ds, h1, h3, h2, Bool.and_eq_true_iff.mpr ⟨h4, q.2⟩, po.now st (Rp.bl _)⟩
  have gen : onQ y (fun ds => mb (mo (toD x)) fun d => gd (eqOk d = true ∧ eqOk (.list ds) = true) (mp (.d (.bool (if neg = true then !ds.any fun z => PyData.eqv z d else ds.any fun z => PyData.eqv z d))))) G = some (r', G') → rInX K neg v u H Q := fun e => by
    obtain ⟨ds, hd, e⟩ := onQ_dp vy st.sub e
    cases hx : toD x with
    | none =>
      rw [hx] at e
      cases e
    | some d =>
      rw [hx, mo_some, mb_mp] at e
      obtain ⟨hp, e⟩ := gd_of e
      exact key hx hp hd e
  cases y with
  | d y =>
    cases y with
    | str z =>
      have e : mo ((inS x z).map fun k => DV.d (.bool (if neg = true then !k else k))) G = some (r', G') := e
      cases vy
      cases x with
      | d x =>
        cases x with
        | str w =>
          cases vx
          have e : mo (((sign1 w).map fun c => decide (c ∈ z.cps.toList)).map fun k => DV.d (.bool (if neg = true then !k else k))) G = some (r', G') := e
          cases hs : sign1 w with
          | none =>
            rw [hs] at e
            cases e
          | some c =>
            rw [hs] at e
            cases e
            rw [sign1_eq hs]
            exact .inl ⟨c, z, rfl, rfl, po.now st (Rp.bl _)⟩
        | none => cases e
        | bool => cases e
        | int => cases e
        | list => cases e
        | tuple => cases e
        | dict => cases e
      | vl => cases e
      | sc => cases e
      | dr => cases e
      | fn => cases e
      | ex => cases e
    | list => exact gen e
    | tuple => exact gen e
    | none => cases e
    | bool => cases e
    | int => cases e
    | dict => cases e
  | vl => exact gen e
  | sc => cases e
  | dr => cases e
  | fn => cases e
  | ex => cases e
theorem of_in {K : PySem.W.Frag} : Op2 K Φ (rInX K false) fIn := of_inG
theorem of_notin {K : PySem.W.Frag} : Op2 K Φ (rInX K true) fNotIn := of_inG
theorem de_in {a b : Expr} {pos : Pos} {ca cb : SS → M DV} (hu : X.A.units + 65 < cLine) (ha : PE X a (tD X.K Φ ca)) (hb : PE X b (tD X.K Φ cb)) (hm : behindInMarks .In b = false := by rfl) : PE X (.Compare a [.In] [b] pos) (tD X.K Φ (cBin fIn ca cb)) := de_cmp (ox_in hu) of_in ha hb hm
theorem de_notin {a b : Expr} {pos : Pos} {ca cb : SS → M DV} (hu : X.A.units + 65 < cLine) (ha : PE X a (tD X.K Φ ca)) (hb : PE X b (tD X.K Φ cb)) (hm : behindInMarks .NotIn b = false := by rfl) : PE X (.Compare a [.NotIn] [b] pos) (tD X.K Φ (cBin fNotIn ca cb)) := de_cmp (ox_notin hu) of_notin ha hb hm

/-! ### len -/
def lenOf : DV → Option Nat
  | .d (.str z) => if z.length ≤ 100000 then some z.length else none
  | .d (.list ds) => some ds.length
  | .d (.tuple ds) => some ds.length
  | .vl ds => some ds.length
  | .sc ns => some ns.length
  | _ => none
def fLen (xs : List DV) : M DV := on1 xs fun x => mo ((lenOf x).map fun n => .d (.int (n : Int)))
theorem of_len {K : PySem.W.Frag} : OpA K Φ (fun xs H Q => ∃ x n, xs = [x] ∧ LenV K x H n ∧ Q (.int n) H) fLen := by
  intro F H σ S G xs vs r' G' Q st vx e po
  obtain ⟨x, v, rfl, rfl, hv, e2⟩ := on1_of vx e
  obtain ⟨z, ez, rfl, rfl⟩ := mo_of e2
  cases hl : lenOf x with
  | none =>
    rw [hl] at ez
    cases ez
  | some n =>
    rw [hl] at ez
    cases ez
    refine ⟨v, n, rfl, ?_, po.now st (Rp.int _)⟩
    cases x with
    | d d =>
      cases d with
      | str z =>
        cases hv
        have hl : (if z.length ≤ 100000 then some z.length else none) = some n := hl
        by_cases h : z.length ≤ 100000
        · rw [if_pos h] at hl
          cases hl
          exact ⟨RpAll.len_line h, rfl⟩
        · rw [if_neg h] at hl
          cases hl
      | list ds =>
        cases hl
        cases hv with
        | lst h1 h2 => exact .inl ⟨_, SqL.of (st.sub _ _ h1), h2.length.symm⟩
      | tuple ds =>
        cases hl
        cases hv with
        | tup h1 h2 => exact .inr ⟨_, st.sub.stp h1.sq, h2.length.symm⟩
      | none => cases hl
      | bool => cases hl
      | int => cases hl
      | dict => cases hl
    | vl ds =>
      cases hl
      obtain ⟨a, ws, rfl, o, ra⟩ := hv
      exact .inl ⟨_, SqL.of o.at_, ra.length.symm⟩
    | sc ns =>
      cases hl
      obtain ⟨a, rfl, q⟩ := hv
      exact .inl ⟨_, st.sub.sl q, by rw [List.length_map]⟩
    | dr => cases hl
    | fn => cases hl
    | ex => cases hl

/-! ### isinstance -/
def tyD : D → String
  | .none => "NoneType"
  | .bool _ => "bool"
  | .int _ => "int"
  | .str _ => "str"
  | .list _ => "list"
  | .tuple _ => "tuple"
  | .dict _ => "dict"
def isiD (T : String) (d : D) : Bool := tyD d == T || (tyD d == "bool" && T == "int")
def isiOf (T : String) (x : DV) : M DV := onD x fun d => mp (.d (.bool (isiD T d)))
theorem ty_of {K : PySem.W.Frag} {F H : Hp} {v : V} {d : D} (sb : Sub F H) (h : Rp K F v d) : TyX K H v (.type (tyD d)) := by
  cases h with
  | non => exact .base .non
  | bl b => exact .base (.bl b)
  | int i => exact .base (.int i)
  | str z _ => exact .base (.str z)
  | lst h _ => exact .base (.lst (sb _ _ h))
  | tup h _ =>
    obtain ⟨o, h, _⟩ := h
    exact .fTuple (sb _ _ h)
  | dct h => exact .base (.dK (sb _ _ h))
/-- the built-in types that are asked for -/
def isiT (T : String) : Bool := (["NoneType", "bool", "int", "str", "list", "tuple", "dict"] : List String).all fun t => decide (kitB t T = some (t == T || (t == "bool" && T == "int")))
theorem isi_kit {T : String} (h : isiT T = true) (d : D) {K : PySem.W.Frag} : PySem.W.kitOne K (.type (tyD d)) (.type T) = some (isiD T d) := by
  have q := fun t ht => of_decide_eq_true (List.all_eq_true.mp h t ht)
  refine kit_ty (q (tyD d) ?_)
  cases d <;> simp [tyD]
theorem de_isi {T : String} {e : Expr} {c : SS → M DV} {n : Str} {p p2 pos : Pos} (hT : isiT T = true) (he : PE X e (tD X.K Φ c)) (hm : X.mg "isinstance" = none) (hm2 : X.mg n = none) (hv2 : bootBuiltins n = some (.type T) := by decide +kernel) (hg : Gl X "isinstance" := by rfl) (hg2 : Gl X n := by rfl) (hn2 : n ≠ "__name__" := by decide) (hd2 : (n == ("__debug__" : Str)) = false := by decide)
    (hs1 : starEach [e, .Name n p2] X.env = (false, eval e X.env) :: starEach [.Name n p2] X.env := by rfl) (hs2 : starEach [.Name n p2] X.env = (false, eval (.Name n p2) X.env) :: starEach [] X.env := by rfl) (hpl : (backTo pos (starEach [.Name n p2] X.env)).any (·.1) = false := by rfl) :
    PE X (.Call (.Name "isinstance" p) [e, .Name n p2] [] pos) (tD X.K Φ (cUn (isiOf T) c)) := by
  refine pe_imp (pe_callB call_isi hg hm (by decide +kernel) (pa_cons he (pa_cons (pe_bltn (v := .ty T) hg2 hm2 hv2 rfl hn2 hd2) pa_nil hs2) hs1) (by decide) (by decide) hs1 hpl) fun σ H Q h => ?_
  obtain ⟨F, S, G, r, G', st, e, po⟩ := h
  refine tX_run c st e po fun F1 H1 G1 x v st1 s1 vx e1 po1 => ?_
  obtain ⟨d, rfl, rd, e2⟩ := onD_of vx e1
  cases e2
  exact ⟨v, .ty T, _, .type T, _, rfl, .ty T, ty_of st1.sub rd, isi_kit hT d, po1.now st1 (Rp.bl _)⟩
/-- isinstance(x, (T1, T2)) -/
def isiOf2 (T U : String) (x : DV) : M DV := onD x fun d => mp (.d (.bool (isiD T d || isiD U d)))
theorem de_isi2 {T U : String} {e : Expr} {c : SS → M DV} {n m : Str} {k : Nat} {p p2 p3 p4 pos : Pos} (hT : isiT T = true) (hU : isiT U = true) (he : PE X e (tD X.K Φ c)) (hm : X.mg "isinstance" = none) (hm2 : X.mg n = none) (hm3 : X.mg m = none) (hv2 : bootBuiltins n = some (.type T) := by decide +kernel) (hv3 : bootBuiltins m = some (.type U) := by decide +kernel)
    (hg : Gl X "isinstance" := by rfl) (hg2 : Gl X n := by rfl) (hg3 : Gl X m := by rfl) (hn2 : n ≠ "__name__" := by decide) (hd2 : (n == ("__debug__" : Str)) = false := by decide) (hn3 : m ≠ "__name__" := by decide) (hd3 : (m == ("__debug__" : Str)) = false := by decide)
    (hs1 : starEach [e, .Tuple [.Name n p2, .Name m p3] k p4] X.env = (false, eval e X.env) :: starEach [.Tuple [.Name n p2, .Name m p3] k p4] X.env := by rfl) (hs2 : starEach [.Tuple [.Name n p2, .Name m p3] k p4] X.env = (false, eval (.Tuple [.Name n p2, .Name m p3] k p4) X.env) :: starEach [] X.env := by rfl)
    (hs3 : starEach [.Name n p2, .Name m p3] X.env = (false, eval (.Name n p2) X.env) :: starEach [.Name m p3] X.env := by rfl) (hs4 : starEach [.Name m p3] X.env = (false, eval (.Name m p3) X.env) :: starEach [] X.env := by rfl)
    (hpl : (backTo pos (starEach [.Tuple [.Name n p2, .Name m p3] k p4] X.env)).any (·.1) = false := by rfl) :
    PE X (.Call (.Name "isinstance" p) [e, .Tuple [.Name n p2, .Name m p3] k p4] [] pos) (tD X.K Φ (cUn (isiOf2 T U) c)) := by
  refine pe_imp (pe_callB call_isiT hg hm (by decide +kernel) (pa_cons he (pa_cons (pe_tup (pa_cons (pe_bltn (v := .ty T) hg2 hm2 hv2 rfl hn2 hd2) (pa_cons (pe_bltn (v := .ty U) hg3 hm3 hv3 rfl hn3 hd3) pa_nil hs4) hs3)) pa_nil hs2) hs1) (by decide) (by decide) hs1 hpl) fun σ H Q h => ?_
  obtain ⟨F, S, G, r, G', st, e, po⟩ := h
  refine tX_run c st e po fun F1 H1 G1 x v st1 s1 vx e1 po1 => ?_
  obtain ⟨d, rfl, rd, e2⟩ := onD_of vx e1
  cases e2
  refine ⟨(by decide : (2:Nat) ≤ sizeLine), fun tp htp => ?_⟩
  have sb : Sub H1 (upd H1 tp (.tup [.ty T, .ty U])) := sub_upd htp
  have sT : Step Φ F1 H1 F1 (upd H1 tp (.tup [.ty T, .ty U])) := ⟨.refl F1, st1.sub.trans sb, st1.noex, fun _ _ e => .inl e, fun b o e _ _ => sb b o e, id⟩
  refine ⟨v, tp, _, _, [.type T, .type U], _, rfl, upd_same, .cons (.ty T) (.cons (.ty U) .nil), ty_of (st1.sub.trans sb) rd, ?_, po1 F1 _ sT (st1.ok.wm _ _ _ _ htp (fun _ z => nomatch z) st1.w) _ (Rp.bl _)⟩
  refine kitAny_cons (isi_kit hT d) (fun q => ?_) fun q => by rw [q, Bool.true_or]
  rw [q, Bool.false_or]
  refine kitAny_cons (isi_kit hU d) (fun q => ?_) fun q => q
  rw [q]
  exact kitAny_nil
end
end DL

namespace DL
open PySem PySem.Spec PyProof.Rows L2
section
variable {K : PySem.W.Frag} {F H : Hp}
/-! ### x[i] -/
theorem RpAll.atI {vs : List V} {ds : List D} {i : Int} {d : D} (h : RpAll K F vs ds) (e : atI ds i = some d) : ∃ v, L2.atI vs i = some v ∧ Rp K F v d := by
  unfold L2.atI at e ⊢
  rw [h.length]
  cases q : ixN ds.length i with
  | none =>
    rw [q] at e
    cases e
  | some j =>
    rw [q] at e
    exact h.getD e
end
def ixOf (x : DV) (i : Int) : Option DV := match x with
  | .d (.list ds) => (atI ds i).map .d
  | .d (.tuple ds) => (atI ds i).map .d
  | .vl ds => (atI ds i).map .d
  | .d (.str z) => if z.length ≤ 100000 then (atI z.cps.toList i).map fun c => .d (.str ⟨#[c]⟩) else none
  | .sc ns => (atI ns i).map fun n => .d (.int n)
  | _ => none
def fIx (x y : DV) : M DV := onI y fun i => mo (ixOf x i)
theorem atI_mem {α : Type} {xs : List α} {i : Int} {x : α} (h : atI xs i = some x) : x ∈ xs := by
  obtain ⟨j, _, e, _⟩ := atI_get h
  exact List.mem_of_getElem? e
theorem strOk_mem {z : Str} {c : Nat} (h : PyData.strOk z = true) (m : c ∈ z.cps.toList) : PyData.strOk ⟨#[c]⟩ = true := by
  obtain ⟨i, e⟩ := List.mem_iff_getElem?.mp m
  rw [Array.getElem?_toList] at e
  exact strOk_at h e
theorem atI_map {α β : Type} (f : α → β) (xs : List α) (i : Int) : atI (xs.map f) i = (atI xs i).map f := by
  unfold L2.atI
  rw [List.length_map]
  cases ixN xs.length i with
  | none => rfl
  | some j => exact List.getElem?_map
section
variable {X : Cx} {Φ : Fx}
theorem of_ix {K : PySem.W.Frag} : Op2 K Φ (rIx K) fIx := by
  intro F H σ S G x y v u r' G' Q st vx vy e po
  obtain ⟨i, rfl, rfl, e⟩ := onI_of vy e
  obtain ⟨z, ez, rfl, rfl⟩ := mo_of e
  cases x with
  | d x =>
    cases x with
    | list ds =>
      cases vx with
      | lst h1 h2 =>
        obtain ⟨d, ed, rfl⟩ := Option.map_eq_some_iff.mp ez
        obtain ⟨w, ew, rw_⟩ := h2.atI ed
        exact .inl ⟨_, _, i, w, rfl, rfl, SqL.of (st.sub _ _ h1), ew, po.now st rw_⟩
    | tuple ds =>
      cases vx with
      | tup h1 h2 =>
        obtain ⟨d, ed, rfl⟩ := Option.map_eq_some_iff.mp ez
        obtain ⟨w, ew, rw_⟩ := h2.atI ed
        exact .inr (.inl ⟨_, _, i, w, rfl, rfl, st.sub.stp h1.sq, ew, po.now st rw_⟩)
    | str s =>
      have ez : (if s.length ≤ 100000 then (atI s.cps.toList i).map fun c => DV.d (.str ⟨#[c]⟩) else none) = some z := ez
      obtain ⟨hs⟩ : ∃ h : PyData.strOk s = true, True := by cases vx with | str _ h => exact ⟨h, trivial⟩
      cases vx
      by_cases hl : s.length ≤ 100000
      · rw [if_pos hl] at ez
        obtain ⟨c, ec, rfl⟩ := Option.map_eq_some_iff.mp ez
        exact .inr (.inr ⟨s, i, c, rfl, rfl, RpAll.len_line hl, ec, po.now st (Rp.str _ (strOk_mem hs (atI_mem ec)))⟩)
      · rw [if_neg hl] at ez
        cases ez
    | none => cases ez
    | bool => cases ez
    | int => cases ez
    | dict => cases ez
  | vl ds =>
    obtain ⟨a, vs, rfl, o, ra⟩ := vx
    obtain ⟨d, ed, rfl⟩ := Option.map_eq_some_iff.mp ez
    obtain ⟨w, ew, rw_⟩ := ra.atI ed
    exact .inl ⟨_, _, i, w, rfl, rfl, SqL.of o.at_, ew, po.now st rw_⟩
  | sc ns =>
    obtain ⟨a, rfl, q⟩ := vx
    obtain ⟨n, en, rfl⟩ := Option.map_eq_some_iff.mp ez
    exact .inl ⟨a, _, i, .int n, rfl, rfl, st.sub.sl q, by rw [atI_map, en]; rfl, po.now st (Rp.int _)⟩
  | dr => cases ez
  | fn => cases ez
  | ex => cases ez
theorem de_at {a b : Expr} {pos : Pos} {ca cb : SS → M DV} (ha : PE X a (tD X.K Φ ca)) (hb : PE X b (tD X.K Φ cb)) (hs : PlainIx b := by exact fun _ _ => rfl) : PE X (.Subscript a b pos) (tD X.K Φ (cBin fIx ca cb)) := de_ix ix_seq of_ix ha hb hs

/-! ### x[a:b] -/
def cut {α : Type} (xs : List α) (lo hi : Option Int) : List α := (xs.drop (HT.sIx xs.length 0 lo)).take (HT.sIx xs.length xs.length hi - HT.sIx xs.length 0 lo)
theorem RpAll.cut {K : PySem.W.Frag} {F : Hp} {vs : List V} {ds : List D} (h : RpAll K F vs ds) (lo hi : Option Int) : RpAll K F (cutV vs lo hi) (DL.cut ds lo hi) := by
  unfold cutV DL.cut
  rw [h.length]
  exact (h.drop _).take _
def slOf (x : DV) (lo hi : Option Int) : Option DV := match x with
  | .d (.list ds) => some (.d (.list (cut ds lo hi)))
  | .vl ds => some (.d (.list (cut ds lo hi)))
  | .d (.tuple ds) => some (.d (.tuple (cut ds lo hi)))
  | .d (.str z) => if z.length ≤ 100000 then some (.d (.str ⟨(cut z.cps.toList lo hi).toArray⟩)) else none
  | _ => none
def cSl (c : SS → M DV) (l h : SS → M (Option Int)) (S : SS) : M DV := mb (c S) fun x => mb (l S) fun lo => mb (h S) fun hi => mo (slOf x lo hi)
def cNoP (_ : SS) : M (Option Int) := mp none
def cPart (c : SS → M DV) (S : SS) : M (Option Int) := mb (c S) fun x => onI x fun i => mp (some i)
theorem do_none : PO X none (tDO X.K Φ cNoP) := po_imp po_none fun σ H Q ⟨F, S, G, r, G', st, e, po⟩ => by
  cases e
  exact po.now st (v := none) rfl
theorem do_some {e : Expr} {c : SS → M DV} (h : PE X e (tD X.K Φ c)) : PO X (some e) (tDO X.K Φ (cPart c)) := po_imp (po_some h) fun σ H Q ⟨F, S, G, r, G', st, e, po⟩ => by
  refine tX_run c st e po fun F1 H1 G1 x v st1 s1 vx e1 po1 => ?_
  obtain ⟨i, rfl, rfl, e2⟩ := onI_of vx e1
  cases e2
  exact ⟨i, rfl, po1.now st1 (v := some i) rfl⟩
theorem cut_sub {α : Type} {xs : List α} {lo hi : Option Int} {x : α} (h : x ∈ cut xs lo hi) : x ∈ xs := List.mem_of_mem_drop (List.mem_of_mem_take h)
theorem strOk_sub {z : Str} {cs : List Nat} (h : PyData.strOk z = true) (hs : ∀ c ∈ cs, c ∈ z.cps.toList) : PyData.strOk ⟨cs.toArray⟩ = true := by
  have q : z.cps.all (· < 0x110000) = true := h
  rw [Array.all_eq_true_iff_forall_mem] at q
  show (cs.toArray : Array Nat).all (· < 0x110000) = true
  rw [Array.all_eq_true_iff_forall_mem]
  intro c hc
  exact q c (by simpa using hs c (by simpa using hc))
theorem cutS_cut (z : Str) (lo hi : Option Int) : cutS z lo hi = ⟨(cut z.cps.toList lo hi).toArray⟩ := by
  unfold cutS cut
  rw [Array.length_toList] <;> rfl
theorem de_slice {e : Expr} {lo hi : Option Expr} {p2 pos : Pos} {c : SS → M DV} {l h : SS → M (Option Int)} (he : PE X e (tD X.K Φ c)) (hl : PO X lo (tDO X.K Φ l)) (hh : PO X hi (tDO X.K Φ h)) : PE X (.Subscript e (.Slice lo hi none p2) pos) (tD X.K Φ (cSl c l h)) :=
  pe_imp (pe_slice (sl_list.or (sl_tupF.or sl_str)) he hl hh) fun σ H Q ⟨F, S, G, r, G', st, e, po⟩ => by
    refine tX_run c st e po fun F1 H1 G1 x v st1 s1 vx e1 po1 => ?_
    refine tX_run l st1 e1 po1 fun F2 H2 G2 lo v2 st2 s2 q2 e2 po2 => ?_
    refine tX_run h st2 e2 po2 fun F3 H3 G3 hi v3 st3 s3 q3 e3 po3 => ?_
    obtain rfl : v2 = lo := q2
    obtain rfl : v3 = hi := q3
    have vx := (vx.step s2).step s3
    obtain ⟨z, ez, rfl, rfl⟩ := mo_of e3
    cases x with
    | d x =>
      cases x with
      | list ds =>
        cases ez
        cases vx with
        | lst h1 h2 => exact .inl ⟨_, _, rfl, SqL.of (st3.sub _ _ h1), po3.newL st3 (h2.cut v2 v3)⟩
      | tuple ds =>
        cases ez
        cases vx with
        | @tup a vs _ h1 h2 =>
          refine .inr (.inl ⟨_, _, rfl, st3.sub.stp h1.sq, fun hw => ?_, fun _ => po3.newT st3 (h2.cut v2 v3)⟩)
          have ew : cut ds v2 v3 = ds := by
            unfold cut
            rw [← h2.length, hw.1, hw.2, List.drop_zero, h2.length, Nat.sub_zero, List.take_length]
          rw [ew] at po3
          exact po3.now st3 (Rp.tup h1 h2)
      | str s =>
        have ez : (if s.length ≤ 100000 then some (DV.d (.str ⟨(cut s.cps.toList v2 v3).toArray⟩)) else none) = some z := ez
        obtain ⟨hs⟩ : ∃ h : PyData.strOk s = true, True := by cases vx with | str _ h => exact ⟨h, trivial⟩
        cases vx
        by_cases hl : s.length ≤ 100000
        · rw [if_pos hl] at ez
          cases ez
          exact .inr (.inr ⟨s, rfl, RpAll.len_line hl, by rw [cutS_cut]; exact po3.now st3 (Rp.str _ (strOk_sub hs fun c hc => cut_sub hc))⟩)
        · rw [if_neg hl] at ez
          cases ez
      | none => cases ez
      | bool => cases ez
      | int => cases ez
      | dict => cases ez
    | vl ds =>
      cases ez
      obtain ⟨a, vs, rfl, o, ra⟩ := vx
      exact .inl ⟨_, _, rfl, SqL.of o.at_, po3.newL st3 (ra.cut v2 v3)⟩
    | sc => cases ez
    | dr => cases ez
    | fn => cases ez
    | ex => cases ez

/-! ### list(x), tuple(x) -/
def lenGd (x : DV) : Option (List D) := match x with
  | .d (.list ds) => some ds
  | .d (.tuple ds) => some ds
  | .vl ds => some ds
  | .d (.str z) => if z.cps.size ≤ 100000 then some (signs z) else none
  | _ => none
def fListOf (xs : List DV) : M DV := on1 xs fun x => mo ((lenGd x).map fun ds => .d (.list ds))
def rListStr : List V → Hp → VK → Prop := fun xs H Q => ∃ z : Str, xs = [.str z] ∧ z.cps.size ≤ 100000 ∧ ∀ l, H l = none → Q (.ref l) (upd H l (.lst (z.cps.toList.map fun c => V.str ⟨#[c]⟩)))
theorem signs_vals {z : Str} {acc : Array Value} (h : ItemsOf (SignAt z) acc z.cps.size) : Vals (z.cps.toList.map fun c => V.str ⟨#[c]⟩) acc.toList := by
  refine vals_of_at (by rw [List.length_map, Array.length_toList, Array.length_toList, h.1]) fun j x u ex eu => ?_
  rw [Array.getElem?_toList] at eu
  obtain ⟨c, k, hc, rfl⟩ := h.2 j u eu
  rw [List.getElem?_map, Array.getElem?_toList, hc] at ex
  cases ex
  exact ⟨k, rfl⟩
theorem call_listS (hc : X.calm = true) : CallR X (.type "list") rListStr := by
  intro pins s σ H xs us Q I r h
  obtain ⟨z, rfl, hz, q⟩ := h
  obtain ⟨u, rfl, t, rfl⟩ := vals1 r
  refine call_list_str (I.ok.hd hc) z t (fun h' tk acc c kp e it => ?_) (RpAll.len_line hz)
  refine ⟨.ref s.heap.objs.size, _, I.laid (t' := tk) kp (Nat.le_refl _) ?_, rfl, q _ (I.hok.fresh (Nat.le_refl _))⟩
  show ObjOk X.prog X.w _ h' _ (.lst (z.cps.toList.map fun c => V.str ⟨#[c]⟩))
  refine ⟨?_, acc.toList, c, signs_vals it, e⟩
  rw [List.length_map]
  exact RpAll.len_line hz
def rListX (K : PySem.W.Frag) : List V → Hp → VK → Prop := fun xs H Q => rListStr xs H Q ∨ ∃ p ys, xs = [.ref p] ∧ (SqL K H p ys ∨ SqT K H p ys) ∧ ∀ l, H l = none → Q (.ref l) (upd H l (.lst ys))
theorem rp_signs {K : PySem.W.Frag} {F : Hp} {z : Str} (h : PyData.strOk z = true) : ∀ (cs : List Nat), (∀ c ∈ cs, c ∈ z.cps.toList) → RpAll K F (cs.map fun c => V.str ⟨#[c]⟩) (cs.map fun c => PyData.str ⟨#[c]⟩)
  | [], _ => .nil
  | c :: r, q => .cons (.str _ (strOk_mem h (q c (List.mem_cons_self ..)))) (rp_signs h r fun d hd => q d (List.mem_cons_of_mem _ hd))
theorem of_list {K : PySem.W.Frag} : OpA K Φ (rListX K) fListOf := by
  intro F H σ S G xs vs r' G' Q st vx e po
  obtain ⟨x, v, rfl, rfl, hv, e2⟩ := on1_of vx e
  obtain ⟨z, ez, rfl, rfl⟩ := mo_of e2
  obtain ⟨ds, el, rfl⟩ := Option.map_eq_some_iff.mp ez
  cases x with
  | d x =>
    cases x with
    | list xs =>
      cases el
      cases hv with
      | lst h1 h2 => exact .inr ⟨_, _, rfl, .inl (SqL.of (st.sub _ _ h1)), po.newL st h2⟩
    | tuple xs =>
      cases el
      cases hv with
      | tup h1 h2 => exact .inr ⟨_, _, rfl, .inr (st.sub.stp h1.sq), po.newL st h2⟩
    | str z =>
      have el : (if z.cps.size ≤ 100000 then some (signs z) else none) = some ds := el
      obtain ⟨hz⟩ : ∃ h : PyData.strOk z = true, True := by cases hv with | str _ h => exact ⟨h, trivial⟩
      cases hv
      by_cases hl : z.cps.size ≤ 100000
      · rw [if_pos hl] at el
        cases el
        exact .inl ⟨z, rfl, hl, po.newL st (rp_signs hz _ fun _ q => q)⟩
      · rw [if_neg hl] at el
        cases el
    | none => cases el
    | bool => cases el
    | int => cases el
    | dict => cases el
  | vl xs =>
    cases el
    obtain ⟨a, ws, rfl, o, ra⟩ := hv
    exact .inr ⟨_, _, rfl, .inl (SqL.of o.at_), po.newL st ra⟩
  | sc => cases el
  | dr => cases el
  | fn => cases el
  | ex => cases el
def fTupOf (xs : List DV) : M DV := on1 xs fun x => onQ x fun ds => mp (.d (.tuple ds))
theorem of_tuple {K : PySem.W.Frag} : OpA K Φ (rTupF K) fTupOf := by
  intro F H σ S G xs vs r' G' Q st vx e po
  obtain ⟨x, v, rfl, rfl, hv, e2⟩ := on1_of vx e
  cases x with
  | d x =>
    cases x with
    | list xs =>
      cases e2
      cases hv with
      | lst h1 h2 => exact ⟨_, _, rfl, .inl ⟨SqL.of (st.sub _ _ h1), po.newT st h2⟩⟩
    | tuple xs =>
      cases e2
      cases hv with
      | tup h1 h2 => exact ⟨_, _, rfl, .inr ⟨st.sub.stp h1.sq, po.now st (Rp.tup h1 h2)⟩⟩
    | str => cases e2
    | none => cases e2
    | bool => cases e2
    | int => cases e2
    | dict => cases e2
  | vl xs =>
    cases e2
    obtain ⟨a, ws, rfl, o, ra⟩ := hv
    exact ⟨_, _, rfl, .inl ⟨SqL.of o.at_, po.newT st ra⟩⟩
  | sc => cases e2
  | dr => cases e2
  | fn => cases e2
  | ex => cases e2

/-! ### all, any, sum, abs, int, min, max -/
def toBs : List D → Option (List Bool)
  | [] => some []
  | .bool b :: r => (toBs r).map (b :: ·)
  | _ :: _ => none
def toIs : List D → Option (List Int)
  | [] => some []
  | .int b :: r => (toIs r).map (b :: ·)
  | _ :: _ => none
def toSs : List D → Option (List Str)
  | [] => some []
  | .str b :: r => (toSs r).map (b :: ·)
  | _ :: _ => none
theorem toBs_eq : ∀ {ds : List D} {bs : List Bool}, toBs ds = some bs → ds = bs.map .bool
  | [], _, e => by
    cases e
    rfl
  | .bool b :: r, bs, e => by
    obtain ⟨q, e1, rfl⟩ := Option.map_eq_some_iff.mp (show (toBs r).map (b :: ·) = some bs from e)
    rw [List.map_cons, ← toBs_eq e1]
  | .none :: _, _, e => by cases e
  | .int _ :: _, _, e => by cases e
  | .str _ :: _, _, e => by cases e
  | .list _ :: _, _, e => by cases e
  | .tuple _ :: _, _, e => by cases e
  | .dict _ :: _, _, e => by cases e
theorem toIs_eq : ∀ {ds : List D} {bs : List Int}, toIs ds = some bs → ds = bs.map .int
  | [], _, e => by
    cases e
    rfl
  | .int b :: r, bs, e => by
    obtain ⟨q, e1, rfl⟩ := Option.map_eq_some_iff.mp (show (toIs r).map (b :: ·) = some bs from e)
    rw [List.map_cons, ← toIs_eq e1]
  | .none :: _, _, e => by cases e
  | .bool _ :: _, _, e => by cases e
  | .str _ :: _, _, e => by cases e
  | .list _ :: _, _, e => by cases e
  | .tuple _ :: _, _, e => by cases e
  | .dict _ :: _, _, e => by cases e
theorem toSs_eq : ∀ {ds : List D} {bs : List Str}, toSs ds = some bs → ds = bs.map .str
  | [], _, e => by
    cases e
    rfl
  | .str b :: r, bs, e => by
    obtain ⟨q, e1, rfl⟩ := Option.map_eq_some_iff.mp (show (toSs r).map (b :: ·) = some bs from e)
    rw [List.map_cons, ← toSs_eq e1]
  | .none :: _, _, e => by cases e
  | .bool _ :: _, _, e => by cases e
  | .int _ :: _, _, e => by cases e
  | .list _ :: _, _, e => by cases e
  | .tuple _ :: _, _, e => by cases e
  | .dict _ :: _, _, e => by cases e
theorem toBs_map (bs : List Bool) : toBs (bs.map .bool) = some bs := by
  induction bs with
  | nil => rfl
  | cons b r ih =>
    show (toBs (r.map .bool)).map (b :: ·) = _
    rw [ih]
    rfl
theorem toIs_map (bs : List Int) : toIs (bs.map .int) = some bs := by
  induction bs with
  | nil => rfl
  | cons b r ih =>
    show (toIs (r.map .int)).map (b :: ·) = _
    rw [ih]
    rfl
theorem toSs_map (bs : List Str) : toSs (bs.map .str) = some bs := by
  induction bs with
  | nil => rfl
  | cons b r ih =>
    show (toSs (r.map .str)).map (b :: ·) = _
    rw [ih]
    rfl
theorem rp_bs {K : PySem.W.Frag} {F : Hp} : ∀ {vs : List V} {bs : List Bool}, RpAll K F vs (bs.map .bool) → vs = bs.map .bl
  | _, [], .nil => rfl
  | _, _ :: _, .cons a b => by
    cases a
    rw [rp_bs b] <;> rfl
theorem rp_ss {K : PySem.W.Frag} {F : Hp} : ∀ {vs : List V} {bs : List Str}, RpAll K F vs (bs.map .str) → vs = bs.map .str ∧ ∀ s ∈ bs, PyData.strOk s = true
  | _, [], .nil => ⟨rfl, fun _ q => by cases q⟩
  | _, x :: r, .cons a b => by
    obtain ⟨e, q⟩ := rp_ss b
    cases a with
    | str _ h =>
      refine ⟨by rw [e] <;> rfl, fun s hs => ?_⟩
      rcases List.mem_cons.mp hs with rfl | hs
      · exact h
      · exact q s hs
def fBools (f : List Bool → Bool) (xs : List DV) : M DV := on1 xs fun x => onL x fun ds => mb (mo (toBs ds)) fun bs => mp (.d (.bool (f bs)))
def fAll := fBools fun bs => bs.all id
def fAny := fBools fun bs => bs.any id
def fSum (xs : List DV) : M DV := on1 xs fun x => onL x fun ds => mb (mo (toIs ds)) fun ns => mp (.d (.int ns.sum))
theorem mb_mo_of {α β : Type} {o : Option α} {k : α → M β} {G G' : DG} {r : Rs β} (e : mb (mo o) k G = some (r, G')) : ∃ x, o = some x ∧ k x G = some (r, G') := by
  cases o with
  | none => cases e
  | some x => exact ⟨x, rfl, e⟩
theorem bools_of {K : PySem.W.Frag} {f : List Bool → Bool} {r : List V → Hp → VK → Prop} (h : ∀ a bs H (Q : VK), SqL K H a (bs.map V.bl) → Q (.bl (f bs)) H → r [.ref a] H Q) : OpA K Φ r (fBools f) := by
  intro F H σ S G xs vs r' G' Q st vx e po
  obtain ⟨x, v, rfl, rfl, hv, e2⟩ := on1_of vx e
  obtain ⟨ds, a, ws, rfl, hs, ra, e3⟩ := onL_of hv st.sub e2
  obtain ⟨bs, eb, e4⟩ := mb_mo_of e3
  cases e4
  rw [toBs_eq eb] at ra
  rw [rp_bs ra] at hs
  exact h a bs H Q hs (po.now st (Rp.bl _))
theorem of_all {K : PySem.W.Frag} : OpA K Φ (rAll K) fAll := bools_of fun a bs H Q h q => ⟨a, bs, rfl, h, q⟩
theorem of_any {K : PySem.W.Frag} : OpA K Φ (rAny K) fAny := bools_of fun a bs H Q h q => ⟨a, bs, rfl, h, q⟩
theorem of_sum {K : PySem.W.Frag} : OpA K Φ (rSum K) fSum := by
  intro F H σ S G xs vs r' G' Q st vx e po
  obtain ⟨x, v, rfl, rfl, hv, e2⟩ := on1_of vx e
  obtain ⟨ds, a, ws, rfl, hs, ra, e3⟩ := onL_of hv st.sub e2
  obtain ⟨bs, eb, e4⟩ := mb_mo_of e3
  cases e4
  rw [toIs_eq eb] at ra
  rw [RpAll.ofInts _ ra] at hs
  exact ⟨a, bs, rfl, hs, po.now st (Rp.int _)⟩
def fAbs (xs : List DV) : M DV := on1 xs fun x => onI x fun i => mp (.d (.int (if i < 0 then -i else i)))
theorem of_abs {K : PySem.W.Frag} : OpA K Φ (fun xs H Q => ∃ i, xs = [V.int i] ∧ Q (.int (if i < 0 then -i else i)) H) fAbs := by
  intro F H σ S G xs vs r' G' Q st vx e po
  obtain ⟨x, v, rfl, rfl, hv, e2⟩ := on1_of vx e
  obtain ⟨i, rfl, rfl, e3⟩ := onI_of hv e2
  cases e3
  exact ⟨i, rfl, po.now st (Rp.int _)⟩
def fIntOf (xs : List DV) : M DV := on1 xs fun x => match x with
  | .d (.int i) => mp (.d (.int i))
  | .d (.bool k) => mp (.d (.int (if k then 1 else 0)))
  | _ => mz
theorem of_int {K : PySem.W.Frag} : OpA K Φ (fun xs H Q => (∃ i, xs = [V.int i] ∧ Q (.int i) H) ∨ ∃ k, xs = [V.bl k] ∧ Q (.int (if k then 1 else 0)) H) fIntOf := by
  intro F H σ S G xs vs r' G' Q st vx e po
  obtain ⟨x, v, rfl, rfl, hv, e2⟩ := on1_of vx e
  cases x with
  | d x =>
    cases x with
    | int i =>
      cases e2
      cases hv
      exact .inl ⟨i, rfl, po.now st (Rp.int _)⟩
    | bool k =>
      cases e2
      cases hv
      exact .inr ⟨k, rfl, po.now st (Rp.int _)⟩
    | none => cases e2
    | str => cases e2
    | list => cases e2
    | tuple => cases e2
    | dict => cases e2
  | vl => cases e2
  | sc => cases e2
  | dr => cases e2
  | fn => cases e2
  | ex => cases e2
def f2n (g : Int → Int → Int) (xs : List DV) : M DV := on2 xs fun x y => onI x fun i => onI y fun j => mp (.d (.int (g i j)))
def fMin2 := f2n fun i j => if j < i then j else i
def fMax2 := f2n fun i j => if j > i then j else i
theorem of_2n {K : PySem.W.Frag} {g : Int → Int → Int} : OpA K Φ (fun xs H Q => ∃ i j, xs = [V.int i, V.int j] ∧ Q (.int (g i j)) H) (f2n g) := by
  intro F H σ S G xs vs r' G' Q st vx e po
  obtain ⟨x, y, v, u, rfl, rfl, hv, hu, e2⟩ := on2_of vx e
  obtain ⟨i, rfl, rfl, e3⟩ := onI_of hv e2
  obtain ⟨j, rfl, rfl, e4⟩ := onI_of hu e3
  cases e4
  exact ⟨i, j, rfl, po.now st (Rp.int _)⟩
def fNeg (x : DV) : M DV := onI x fun i => mp (.d (.int (-i)))
theorem of_neg {K : PySem.W.Frag} : Op1 K Φ (rU fun i => .int (-i)) fNeg := by
  intro F H σ S G x v r' G' Q st vx e po
  obtain ⟨i, rfl, rfl, e2⟩ := onI_of vx e
  cases e2
  exact ⟨i, rfl, po.now st (Rp.int _)⟩

/-! ### methods: sep.join(list), tuple.index(text) -/
def cSm (f : Str → DV → M DV) (co c : SS → M DV) (S : SS) : M DV := mb (co S) fun x => onS x fun a => mb (c S) fun y => f a y
def fJoin (a : Str) (y : DV) : M DV := onQ y fun ds => mb (mo (toSs ds)) fun ys => gd (PyData.strOk a = true ∧ (ys.map (·.length)).sum + ys.length * a.length ≤ 16777216) (mp (.d (.str (Txt.join a ys))))
theorem strOk_join {a : Str} (ha : PyData.strOk a = true) : ∀ {ys : List Str}, (∀ y ∈ ys, PyData.strOk y = true) → PyData.strOk (Txt.join a ys) = true := by
  intro ys h
  rw [TL.join_eq]
  induction ys with
  | nil =>
    show (#[] : Array Nat).all (· < 0x110000) = true
    simp
  | cons y r ih =>
    cases r with
    | nil => exact h y (List.mem_cons_self ..)
    | cons z r => exact strOk_app (strOk_app (h y (List.mem_cons_self ..)) ha) (ih fun q hq => h q (List.mem_cons_of_mem _ hq))
theorem de_join {o e : Expr} {apos pos : Pos} {co c : SS → M DV} (ho : PE X o (tD X.K Φ co)) (he : PE X e (tD X.K Φ c)) (hs : starEach [e] X.env = [(false, eval e X.env)] := by rfl) (hbase : attributeBase o "join" X.env (eval o X.env) = eval o X.env := by rfl) (hline : (apos.endLine == pos.line) = true := by rfl) :
    PE X (.Call (.Attribute o "join" apos) [e] [] pos) (tD X.K Φ (cSm fJoin co c)) :=
  pe_imp (pe_join ho he hs hbase hline) fun σ H Q ⟨F, S, G, r, G', st, e, po⟩ => by
    refine tX_run co st e po fun F1 H1 G1 x v st1 s1 vx e1 po1 => ?_
    obtain ⟨a, rfl, rfl, e2⟩ := onS_of vx e1
    refine ⟨⟨a, rfl⟩, ?_⟩
    refine tX_run c st1 e2 po1 fun F2 H2 G2 y u st2 s2 vy e3 po2 => ?_
    obtain ⟨ds, p, ws, rfl, hs, ra, e4⟩ := onQ_of vy st2.sub e3
    obtain ⟨ys, ey, e5⟩ := mb_mo_of e4
    obtain ⟨hl, e6⟩ := gd_of e5
    cases e6
    rw [toSs_eq ey] at ra
    obtain ⟨ew, ok⟩ := rp_ss ra
    rw [ew] at hs
    exact ⟨a, p, ys, rfl, rfl, hs, hl.2, po2.now st2 (Rp.str _ (strOk_join hl.1 ok))⟩
/-- t.index(text): the first place -/
def idxS (ys : List Str) (z : Str) : Option Nat := ys.findIdx? fun y => decide (y = z)
def cTm (f : List D → DV → M DV) (co c : SS → M DV) (S : SS) : M DV := mb (co S) fun x => onT x fun ds => mb (c S) fun y => f ds y
def fTIdx (ds : List D) (y : DV) : M DV := onS y fun z => mb (mo (toSs ds)) fun ys => mb (mo (idxS ys z)) fun j => mp (.d (.int (j : Nat)))
theorem de_tidx {o e : Expr} {apos pos : Pos} {co c : SS → M DV} (ho : PE X o (tD X.K Φ co)) (he : PE X e (tD X.K Φ c)) (hs : starEach [e] X.env = (false, eval e X.env) :: starEach [] X.env := by rfl) (hbase : attributeBase o "index" X.env (eval o X.env) = eval o X.env := by rfl)
    (hfew : ((backTo pos (starEach [e] X.env)).all (fun x => !x.1) && (backToKw pos (keywordEach [] X.env)).all (fun x => x.1.isSome) && decide ([e].length + ([] : List Keyword).length + (if ([] : List Keyword).isEmpty then 0 else 1) < 30)) = true := by rfl)
    (hline : (apos.endLine == pos.line) = true := by rfl) (hplain : (backTo pos (starEach [] X.env)).any (·.1) = false := by rfl) :
    PE X (.Call (.Attribute o "index" apos) [e] [] pos) (tD X.K Φ (cTm fTIdx co c)) :=
  pe_imp (pe_bmT F.slot_tuple_index (by show builtinType _ = _; rw [builtinType_eq_fast]; kernel_rfl) mt_tup_index ho (pa_cons he pa_nil hs) hbase hfew hline hs hplain) fun σ H Q ⟨F, S, G, r, G', st, e, po⟩ => by
    refine tX_run co st e po fun F1 H1 G1 x v st1 s1 vx e1 po1 => ?_
    obtain ⟨ds, p, vs, rfl, rfl, ht, ra, e2⟩ := onT_of vx e1
    obtain ⟨o, ho, hd⟩ := ht
    refine ⟨⟨p, o, vs, rfl, st1.sub _ _ ho, hd⟩, ?_⟩
    refine tX_run c st1 e2 po1 fun F2 H2 G2 y u st2 s2 vy e3 po2 => ?_
    obtain ⟨z, rfl, rfl, e4⟩ := onS_of vy e3
    obtain ⟨ys, ey, e5⟩ := mb_mo_of e4
    obtain ⟨j, ej, e6⟩ := mb_mo_of e5
    cases e6
    rw [toSs_eq ey] at ra
    obtain ⟨ew, _⟩ := rp_ss ra
    obtain ⟨hj, h1, h2⟩ := List.findIdx?_eq_some_iff_getElem.mp ej
    refine ⟨p, ys, z, j, rfl, rfl, ?_, by rw [List.getElem?_eq_getElem hj, of_decide_eq_true h1], fun m hm em => ?_, po2.now st2 (Rp.int _)⟩
    · rw [← ew]
      exact st2.sub.stp (TpAt.sq ⟨o, s2.up _ _ ho, hd⟩)
    · have q := h2 m hm
      rw [List.getElem?_eq_getElem (by omega)] at em
      exact q (decide_eq_true (Option.some.inj em))
end
end DL

/-! zip and enumerate over lists and tuples, in any mix. -/
namespace DL
open PySem PySem.Spec PyProof.Rows L2
open AutoSeq1 (wpAny_loadPart')
/-- an iterator over a list (false) or a tuple (true) -/
def IterAt (T : Bool) (h : Heap) (it l : Addr) (i : Nat) : Prop := match T with
  | true => h.IsTupleIter it l i
  | false => h.IsListIter it l i
def SeqIn (T : Bool) (h : Heap) (l : Addr) (its : Array Value) : Prop := match T with
  | true => h.IsTuple l its
  | false => h.IsList l its
def itTy : Bool → String
  | true => "tuple_iterator"
  | false => "list_iterator"
abbrev itO (T : Bool) (l : Addr) : Obj := { cls := .type (itTy T), data := .fields #[.ref l, .int 0 0] }
theorem IterAt.keep {T : Bool} {h h' : Heap} {it l : Addr} {i : Nat} (x : IterAt T h it l i) (k : ∀ o, h.get? it = some o → h'.get? it = some o) : IterAt T h' it l i := by
  cases T with
  | true => exact Heap.IsTupleIter.at x k
  | false => exact Heap.IsListIter.at x k
theorem IterAt.obj {T : Bool} {h : Heap} {it l : Addr} {i : Nat} (x : IterAt T h it l i) : ∃ o, h.get? it = some o ∧ ∀ v, o.data ≠ .cell v := by
  cases T with
  | true =>
    obtain ⟨o, ho, _, hd⟩ := x
    exact ⟨o, ho, fun v q => by rw [hd] at q; cases q⟩
  | false =>
    obtain ⟨o, ho, _, hd⟩ := x
    exact ⟨o, ho, fun v q => by rw [hd] at q; cases q⟩
theorem SeqIn.keep {T : Bool} {h h' : Heap} {l : Addr} {its : Array Value} (x : SeqIn T h l its) (k : ∀ o, h.get? l = some o → h'.get? l = some o) : SeqIn T h' l its := by
  cases T with
  | true =>
    obtain ⟨o, ho, r⟩ := x
    exact ⟨o, k o ho, r⟩
  | false =>
    obtain ⟨o, ho, r⟩ := x
    exact ⟨o, k o ho, r⟩
theorem SeqIn.lt {T : Bool} {h : Heap} {l : Addr} {its : Array Value} (x : SeqIn T h l its) : l < h.objs.size := by
  cases T with
  | true =>
    obtain ⟨o, ho, r⟩ := x
    exact Heap.lt_size ho
  | false =>
    obtain ⟨o, ho, r⟩ := x
    exact Heap.lt_size ho
section
variable {prog : Program} {w : World} {A : Around} {E : Value → Shared → Prop} {s : Shared}
theorem iter_seq {T : Bool} {l : Addr} {its : Array Value} {Q : Value → Shared → Prop} (h : SeqIn T s.heap l its) (q : Q (.ref s.heap.objs.size) { s with heap := s.heap.push (itO T l) }) : wpAny (model prog w) A (pyIter (.ref l)) Q E s := by
  cases T with
  | true => exact wpAny_pyIter_tuple h q
  | false => exact wpAny_pyIter_list h q
theorem draws_seq (T : Bool) (hh : A.handled = none) (it l : Addr) (hne : l ≠ it) (its : Array Value) : Draws prog w A it [it, l] its.size (fun i v => its[i]? = some v) (fun i h => IterAt T h it l i ∧ SeqIn T h l its) := by
  cases T with
  | false => exact Draws.list hh it l hne its
  | true =>
    refine ⟨fun i h st => ?_, fun i h h' st k => ⟨IterAt.keep (T := true) st.1 fun o e => k it (by simp) o e, SeqIn.keep (T := true) st.2 fun o e => k l (by simp) o e⟩, fun i s Q E hi st hQ => ?_, fun s Q E st hE => ?_⟩
    · obtain ⟨o, ho, _⟩ := IterAt.obj (T := true) st.1
      exact ⟨o, ho⟩
    · refine RZ.nextOf_tuple_item st.1 st.2 (x := its[i]) (by simp [hi]) fun h' hit hs => hQ _ h' s.toks (by simp [hi]) ⟨hit, SeqIn.keep (T := true) st.2 fun o e => hs.extBut _ _ hne e⟩ hs
    · exact RZ.nextOf_tuple_end hh st.1 st.2 (by simp) hE

/-- what a zip's parts are, apart from each other and from the sources -/
structure ZAp (z TI TO i1 i2 : Addr) (f1 f2 : List Addr) : Prop where
  nd : [z, TI, TO, i1, i2].Nodup
  m1 : i1 ∈ f1
  m2 : i2 ∈ f2
  n1 : ∀ b ∈ f1, b ≠ z ∧ b ≠ TO ∧ b ≠ i2
  n2 : ∀ b ∈ f2, b ≠ z ∧ b ≠ TO ∧ b ≠ i1
section
variable {z TI TO i1 i2 : Addr} {f1 f2 : List Addr} {n1 n2 k : Nat} {P1 P2 : Nat → Value → Prop} {S1 S2 : Nat → Heap → Prop} {a b : Value}
theorem zipD_next {Q : Value → Shared → Prop} (D1 : Draws prog w A i1 f1 n1 P1 S1) (D2 : Draws prog w A i2 f2 n2 P2 S2) (ap : ZAp z TI TO i1 i2 f1 f2) (hz : IsZip s.heap z TI TO .none) (hTI : IsPair s.heap TI (.ref i1) (.ref i2)) (hTO : IsPair s.heap TO a b)
    (s1 : S1 k s.heap) (s2 : S2 k s.heap) (l1 : k < n1) (l2 : k < n2)
    (hQ : ∀ x y h' tk, P1 k x → P2 k y → IsZip h' z TI TO (rawInt s.heap.objs.size) → IsPair h' TO x y → S1 (k + 1) h' → S2 (k + 1) h' → IsPair h' s.heap.objs.size x y → (∀ c o, c ∉ [z, TO, i1, i2] → s.heap.get? c = some o → h'.get? c = some o) → Q (.ref s.heap.objs.size) { s with heap := h', toks := tk }) :
    wpAny (model prog w) A (Builtin.«zip.__next__» ⟨[.ref z], []⟩) (fun fin s' => ∃ v, fin = .done (.ret v) ∧ Q v s') E s := by
  have nd := ap.nd
  simp only [List.nodup_cons, List.mem_cons, List.not_mem_nil, or_false, not_or, List.nodup_nil, and_true, not_false_eq_true] at nd
  obtain ⟨⟨zTI, zTO, zi1, zi2⟩, ⟨tTO, ti1, ti2⟩, ⟨oi1, oi2⟩, i12⟩ := nd
  show wpAny _ _ (field (.ref z) 2 >>= fun d => _) _ _ _
  refine wpAny_bind (wpAny_field hz rfl (x := .bool false) rfl ?_)
  show wpAny _ _ (field (.ref z) 3 >>= fun d => _) _ _ _
  refine wpAny_bind (wpAny_field hz rfl (x := .ref TI) rfl (wpAny_bind (wpAny_seqItems hTI rfl ?_)))
  show wpAny _ _ (Builtin.SmallTypes.ownedTupleIsFree (.ref z) >>= fun d => _) _ _ _
  refine wpAny_bind ?_
  unfold Builtin.SmallTypes.ownedTupleIsFree
  refine wpAny_bind (wpAny_field hz rfl (x := .none) rfl (wpAny_pure ?_))
  simp only [if_true]
  refine wpAny_bind (wpAny_rule (wpAny_bind (wpAny_field hz rfl (x := .ref TO) rfl (wpAny_bind (wpAny_setField_rec hz (by simp) fun ha za sa => ?_)))))
  have za : IsZip ha z TI TO .ellipsis := za
  refine wpAny_bind ?_
  simp only [List.zipIdx_cons, List.zipIdx_nil, List.forIn_cons, List.forIn_nil]
  have fa : ∀ c o, c ≠ z → s.heap.get? c = some o → ha.get? c = some o := fun c o hc e => sa.extBut _ _ hc e
  refine wpAny_bind (wpAny_bind (wpAny_onRaise ?_))
  show wpAny _ _ (Builtin.SmallTypes.nextOf (.ref i1) >>= fun d => _) _ _ _
  refine wpAny_bind (D1.item k _ _ _ l1 (D1.frame _ _ _ s1 fun c hc o e => fa c o (ap.n1 c hc).1 e) fun x hb tb px t1 sb => wpAny_pure ?_)
  have fb : ∀ c o, c ≠ i1 → ha.get? c = some o → hb.get? c = some o := fun c o hc e => sb.extBut _ _ hc e
  have ob : IsPair hb TO a b := fb _ _ oi1 (fa _ _ (Ne.symm zTO) hTO)
  refine wpAny_bind (wpAny_seqItems ob rfl (wpAny_bind (wpAny_updateSeq_pair ob fun hc oc sc => ?_)))
  have oc : IsPair hc TO x b := oc
  have fc : ∀ c o, c ≠ TO → hb.get? c = some o → hc.get? c = some o := fun c o hc e => sc.extBut _ _ hc e
  refine wpAny_bind (wpAny_letGo (wpAny_pure ?_))
  refine wpAny_bind (wpAny_bind (wpAny_onRaise ?_))
  show wpAny _ _ (Builtin.SmallTypes.nextOf (.ref i2) >>= fun d => _) _ _ _
  refine wpAny_bind (D2.item k _ _ _ l2 (D2.frame _ _ _ s2 fun c hc o e => fc c o (ap.n2 c hc).2.1 (fb c o (ap.n2 c hc).2.2 (fa c o (ap.n2 c hc).1 e))) fun y hd td py t2 sd => wpAny_pure ?_)
  have fd : ∀ c o, c ≠ i2 → hc.get? c = some o → hd.get? c = some o := fun c o hc e => sd.extBut _ _ hc e
  have od : IsPair hd TO x b := fd _ _ oi2 oc
  refine wpAny_bind (wpAny_seqItems od rfl (wpAny_bind (wpAny_updateSeq_pair od fun he oe se => ?_)))
  have oe : IsPair he TO x y := oe
  have fe : ∀ c o, c ≠ TO → hd.get? c = some o → he.get? c = some o := fun c o hc e => se.extBut _ _ hc e
  refine wpAny_bind (wpAny_letGo (wpAny_pure (wpAny_pure ?_)))
  refine wpAny_bind (wpAny_seqItems oe rfl (wpAny_bind (wpAny_newTuple ?_)))
  have size : he.objs.size = s.heap.objs.size := by rw [se.1, sd.1, sc.1, sb.1, sa.1]
  have ze : IsZip he z TI TO .ellipsis := fe _ _ zTO (fd _ _ zi2 (fc _ _ zTO (fb _ _ zi1 za)))
  have zlt : z < he.objs.size := Heap.lt_size ze
  show wpAny _ _ (Builtin.SmallTypes.ownedTupleHandOut (.ref z) (.ref he.objs.size) >>= fun d => _) _ _ _
  refine wpAny_bind ?_
  unfold Builtin.SmallTypes.ownedTupleHandOut
  have zf : IsZip (he.push { cls := .type "tuple", data := .seq #[x, y] }) z TI TO .ellipsis := Heap.get?_push_of_some _ ze
  refine wpAny_bind (wpAny_setField_rec zf (by simp) fun hg zg sg => wpAny_setField_rec (show IsZip hg z TI TO (rawInt he.objs.size) from zg) (by simp) fun hi zi si => wpAny_pure ⟨_, rfl, ?_⟩)
  have zi : IsZip hi z TI TO (rawInt he.objs.size) := zi
  have fi : ∀ c o, c ≠ z → (he.push { cls := .type "tuple", data := .seq #[x, y] }).get? c = some o → hi.get? c = some o := fun c o hc e => si.extBut _ _ hc (sg.extBut _ _ hc e)
  have new : IsPair hi he.objs.size x y := fi _ _ (Nat.ne_of_gt zlt) (Heap.get?_push_size _ rfl)
  show Q (.ref he.objs.size) _
  rw [size] at zi new ⊢
  have fz : ∀ c o, c ≠ z → he.get? c = some o → hi.get? c = some o := fun c o hc e => fi c o hc (Heap.get?_push_of_some _ e)
  refine hQ x y hi td px py zi (fz _ _ (Ne.symm zTO) oe) ?_ ?_ new fun c o hc e => ?_
  · exact D1.frame _ _ _ t1 fun c hc o e => fz c o (ap.n1 c hc).1 (fe c o (ap.n1 c hc).2.1 (fd c o (ap.n1 c hc).2.2 (fc c o (ap.n1 c hc).2.1 e)))
  · exact D2.frame _ _ _ t2 fun c hc o e => fz c o (ap.n2 c hc).1 (fe c o (ap.n2 c hc).2.1 e)
  · simp only [List.mem_cons, List.not_mem_nil, or_false, not_or] at hc
    obtain ⟨c1, c2, c3, c4⟩ := hc
    exact fz c o c1 (fe c o c2 (fd c o c4 (fc c o c2 (fb c o c3 (fa c o c1 e)))))
theorem zipD_end {Q : Fin → Shared → Prop} (D1 : Draws prog w A i1 f1 n1 P1 S1) (D2 : Draws prog w A i2 f2 n2 P2 S2) (ap : ZAp z TI TO i1 i2 f1 f2) (hz : IsZip s.heap z TI TO .none) (hTI : IsPair s.heap TI (.ref i1) (.ref i2)) (hTO : IsPair s.heap TO a b)
    (s1 : S1 k s.heap) (s2 : S2 k s.heap) (l1 : k ≤ n1) (l2 : k ≤ n2) (le : k = n1 ∨ k = n2)
    (hE : ∀ h' e tk, (∀ c o, c ∉ [z, TO, i1, i2] → s.heap.get? c = some o → h'.get? c = some o) → (∃ o, h'.get? e = some o ∧ o.cls = .type "StopIteration") → E (.ref e) { s with heap := h', toks := tk }) :
    wpAny (model prog w) A (Builtin.«zip.__next__» ⟨[.ref z], []⟩) Q E s := by
  have nd := ap.nd
  simp only [List.nodup_cons, List.mem_cons, List.not_mem_nil, or_false, not_or, List.nodup_nil, and_true, not_false_eq_true] at nd
  obtain ⟨⟨zTI, zTO, zi1, zi2⟩, ⟨tTO, ti1, ti2⟩, ⟨oi1, oi2⟩, i12⟩ := nd
  show wpAny _ _ (field (.ref z) 2 >>= fun d => _) _ _ _
  refine wpAny_bind (wpAny_field hz rfl (x := .bool false) rfl ?_)
  show wpAny _ _ (field (.ref z) 3 >>= fun d => _) _ _ _
  refine wpAny_bind (wpAny_field hz rfl (x := .ref TI) rfl (wpAny_bind (wpAny_seqItems hTI rfl ?_)))
  show wpAny _ _ (Builtin.SmallTypes.ownedTupleIsFree (.ref z) >>= fun d => _) _ _ _
  refine wpAny_bind ?_
  unfold Builtin.SmallTypes.ownedTupleIsFree
  refine wpAny_bind (wpAny_field hz rfl (x := .none) rfl (wpAny_pure ?_))
  simp only [if_true]
  refine wpAny_bind (wpAny_rule (wpAny_bind (wpAny_field hz rfl (x := .ref TO) rfl (wpAny_bind (wpAny_setField_rec hz (by simp) fun ha za sa => ?_)))))
  have za : IsZip ha z TI TO .ellipsis := za
  refine wpAny_bind ?_
  simp only [List.zipIdx_cons, List.zipIdx_nil, List.forIn_cons, List.forIn_nil]
  have fa : ∀ c o, c ≠ z → s.heap.get? c = some o → ha.get? c = some o := fun c o hc e => sa.extBut _ _ hc e
  refine wpAny_bind (wpAny_bind (wpAny_onRaise ?_))
  show wpAny _ _ (Builtin.SmallTypes.nextOf (.ref i1) >>= fun d => _) _ _ _
  by_cases hk : k = n1
  · subst hk
    refine wpAny_bind (D1.done _ _ _ (D1.frame _ _ _ s1 fun c hc o e => fa c o (ap.n1 c hc).1 e) fun hb e eb ee => ?_)
    obtain ⟨oe, hoe, hce⟩ := ee
    have zb : IsZip hb z TI TO .ellipsis := eb _ _ zi1 za
    have ez : e ≠ z := fun q => by
      subst q
      rw [zb] at hoe
      cases hoe
      simp at hce
    refine wpAny_setField_rec zb (by simp) fun hc _ sc => hE hc e s.toks (fun c o hm q => ?_) ⟨oe, sc.extBut _ _ ez hoe, hce⟩
    simp only [List.mem_cons, List.not_mem_nil, or_false, not_or] at hm
    exact sc.extBut _ _ hm.1 (eb _ _ hm.2.2.1 (fa c o hm.1 q))
  · have e2 : k = n2 := le.resolve_left hk
    refine wpAny_bind (D1.item k _ _ _ (by omega) (D1.frame _ _ _ s1 fun c hc o e => fa c o (ap.n1 c hc).1 e) fun x hb tb px t1 sb => wpAny_pure ?_)
    have fb : ∀ c o, c ≠ i1 → ha.get? c = some o → hb.get? c = some o := fun c o hc e => sb.extBut _ _ hc e
    have ob : IsPair hb TO a b := fb _ _ oi1 (fa _ _ (Ne.symm zTO) hTO)
    refine wpAny_bind (wpAny_seqItems ob rfl (wpAny_bind (wpAny_updateSeq_pair ob fun hc oc sc => ?_)))
    have fc : ∀ c o, c ≠ TO → hb.get? c = some o → hc.get? c = some o := fun c o hc e => sc.extBut _ _ hc e
    refine wpAny_bind (wpAny_letGo (wpAny_pure ?_))
    refine wpAny_bind (wpAny_bind (wpAny_onRaise ?_))
    show wpAny _ _ (Builtin.SmallTypes.nextOf (.ref i2) >>= fun d => _) _ _ _
    subst e2
    refine wpAny_bind (D2.done _ _ _ (D2.frame _ _ _ s2 fun c hc o e => fc c o (ap.n2 c hc).2.1 (fb c o (ap.n2 c hc).2.2 (fa c o (ap.n2 c hc).1 e))) fun hd e ed ee => ?_)
    obtain ⟨oe, hoe, hce⟩ := ee
    have zd : IsZip hd z TI TO .ellipsis := ed _ _ zi2 (fc _ _ zTO (fb _ _ zi1 za))
    have ez : e ≠ z := fun q => by
      subst q
      rw [zd] at hoe
      cases hoe
      simp at hce
    refine wpAny_setField_rec zd (by simp) fun hg _ sg => hE hg e _ (fun c o hm q => ?_) ⟨oe, sg.extBut _ _ ez hoe, hce⟩
    simp only [List.mem_cons, List.not_mem_nil, or_false, not_or] at hm
    exact sg.extBut _ _ hm.1 (ed _ _ hm.2.2.2 (fc c o hm.2.1 (fb c o hm.2.2.1 (fa c o hm.1 q))))
theorem pyNext_zipD {Q : Option Value → Shared → Prop} (D1 : Draws prog w A.in1 i1 f1 n1 P1 S1) (D2 : Draws prog w A.in1 i2 f2 n2 P2 S2) (ap : ZAp z TI TO i1 i2 f1 f2) (hz : IsZip s.heap z TI TO .none) (hTI : IsPair s.heap TI (.ref i1) (.ref i2)) (hTO : IsPair s.heap TO a b)
    (s1 : S1 k s.heap) (s2 : S2 k s.heap) (l1 : k < n1) (l2 : k < n2)
    (hQ : ∀ x y h' tk, P1 k x → P2 k y → IsZip h' z TI TO (rawInt s.heap.objs.size) → IsPair h' TO x y → S1 (k + 1) h' → S2 (k + 1) h' → IsPair h' s.heap.objs.size x y → (∀ c o, c ∉ [z, TO, i1, i2] → s.heap.get? c = some o → h'.get? c = some o) → Q (some (.ref s.heap.objs.size)) { s with heap := h', toks := tk }) :
    wpAny (model prog w) A (pyNext (.ref z)) Q E s := by
  have ty : s.TypeIs (.ref z) "zip" := ⟨_, hz, rfl⟩
  unfold pyNext
  refine wpAny_bind (wpAny_attempt (wpAny_callSpecial?_slot (name := Str.ofString "__next__") ty F.slot_zip_next ?_))
  exact wpAny_call_entry F.slot_zip_next ty F.entry_zip_next (zipD_next D1 D2 ap hz hTI hTO s1 s2 l1 l2 fun x y h' tk q1 q2 q3 q4 q5 q6 q7 q8 => wpAny_pure (hQ x y h' tk q1 q2 q3 q4 q5 q6 q7 q8)) (F.args_zip_next_1 _)
theorem pyNext_zipD_end {Q : Option Value → Shared → Prop} (D1 : Draws prog w A.in1 i1 f1 n1 P1 S1) (D2 : Draws prog w A.in1 i2 f2 n2 P2 S2) (ap : ZAp z TI TO i1 i2 f1 f2) (hz : IsZip s.heap z TI TO .none) (hTI : IsPair s.heap TI (.ref i1) (.ref i2)) (hTO : IsPair s.heap TO a b)
    (s1 : S1 k s.heap) (s2 : S2 k s.heap) (l1 : k ≤ n1) (l2 : k ≤ n2) (le : k = n1 ∨ k = n2)
    (hQ : ∀ h' tk, (∀ c o, c ∉ [z, TO, i1, i2] → s.heap.get? c = some o → h'.get? c = some o) → Q none { s with heap := h', toks := tk }) :
    wpAny (model prog w) A (pyNext (.ref z)) Q E s := by
  have ty : s.TypeIs (.ref z) "zip" := ⟨_, hz, rfl⟩
  unfold pyNext
  refine wpAny_bind (wpAny_attempt (wpAny_callSpecial?_slot (name := Str.ofString "__next__") ty F.slot_zip_next ?_))
  refine wpAny_call_entry F.slot_zip_next ty F.entry_zip_next (zipD_end D1 D2 ap hz hTI hTO s1 s2 l1 l2 le fun h' e tk kp ⟨o, ho, hc⟩ => ?_) (F.args_zip_next_1 _)
  exact wpAny_bind (wpAny_isInstance (T := "StopIteration") (b := true) ⟨o, ho, hc⟩ isSubtype_stop (wpAny_pure (hQ h' tk kp)))
end
end
abbrev zq1 (T : Bool) (h : Heap) (l : Addr) : Heap := h.push (itO T l)
abbrev zq2 (T U : Bool) (h : Heap) (l m : Addr) : Heap := (zq1 T h l).push (itO U m)
abbrev zq3 (T U : Bool) (h : Heap) (l m : Addr) : Heap := (zq2 T U h l m).push { cls := .type "tuple", data := .seq #[.ref h.objs.size, .ref (zq1 T h l).objs.size] }
abbrev zq4 (T U : Bool) (h : Heap) (l m : Addr) : Heap := (zq3 T U h l m).push { cls := .type "tuple", data := .seq #[.none, .none] }
abbrev zq5 (T U : Bool) (h : Heap) (l m : Addr) : Heap := (zq4 T U h l m).push { cls := .type "zip", data := .fields #[.none, .bool false, .bool false, .ref (zq2 T U h l m).objs.size, .ref (zq3 T U h l m).objs.size] }
theorem meets_zipQ (T U : Bool) (l m : Addr) (xs ys : Array Value) : Meets (Builtin.«zip.__new__» ⟨[.type "zip", .ref l, .ref m], []⟩) (fun _ R s => SeqIn T s.heap l xs ∧ SeqIn U s.heap m ys ∧ R (.ok (.ret (.ref (zq4 T U s.heap l m).objs.size))) { s with heap := zq5 T U s.heap l m }) :=
  .of_wp fun prog w A R s h => by
    obtain ⟨hp, g, d, tk, os⟩ := s
    obtain ⟨q1, q2, h⟩ := h
    have hsub := sub_zip
    have r1 : SeqIn T (Shared.heap ⟨hp, g, d, tk, os⟩) l xs := q1
    have r2 : SeqIn U (Shared.heap ⟨hp.push (itO T l), g, d, tk, os⟩) m ys := q2.keep fun o e => Heap.get?_push_of_some _ e
    wp_walk using iter_seq r1, iter_seq r2
    exact ⟨_, rfl, h⟩
section
variable {prog : Program} {w : World} {A : Around} {E : Value → Shared → Prop} {s : Shared}
theorem call_zipQ {T U : Bool} {l m : Addr} {xs ys : Array Value} {Q : Value → Shared → Prop} (q1 : SeqIn T s.heap l xs) (q2 : SeqIn U s.heap m ys)
    (h : ∀ h', IsZip h' (s.heap.objs.size + 4) (s.heap.objs.size + 2) (s.heap.objs.size + 3) .none → IsPair h' (s.heap.objs.size + 2) (.ref s.heap.objs.size) (.ref (s.heap.objs.size + 1)) → IsPair h' (s.heap.objs.size + 3) .none .none →
      IterAt T h' s.heap.objs.size l 0 → IterAt U h' (s.heap.objs.size + 1) m 0 → (∀ c o, s.heap.get? c = some o → h'.get? c = some o) → Q (.ref (s.heap.objs.size + 4)) { s with heap := h' }) :
    wpAny (model prog w) A (call (.type "zip") [.ref l, .ref m]) Q E s := by
  refine callType_new F.called_zip (by decide) (F.typeCall_zip_2 _ _) (F.newCall_zip_2 _ _) (fun obj => F.args_object_init_3 obj _ _) F.entry_zip_new (meets_zipQ T U l m xs ys) ⟨q1, q2, ?_⟩
  have e1 : (zq1 T s.heap l).objs.size = s.heap.objs.size + 1 := Heap.size_push ..
  have e2 : (zq2 T U s.heap l m).objs.size = s.heap.objs.size + 2 := by rw [Heap.size_push, e1]
  have e3 : (zq3 T U s.heap l m).objs.size = s.heap.objs.size + 3 := by rw [Heap.size_push, e2]
  have e4 : (zq4 T U s.heap l m).objs.size = s.heap.objs.size + 4 := by rw [Heap.size_push, e3]
  have p5 : (zq5 T U s.heap l m).get? (zq4 T U s.heap l m).objs.size = some _ := Heap.get?_push_size _ rfl
  have p4 : (zq5 T U s.heap l m).get? (zq3 T U s.heap l m).objs.size = some _ := Heap.get?_push_of_some _ (Heap.get?_push_size _ rfl)
  have p3 : (zq5 T U s.heap l m).get? (zq2 T U s.heap l m).objs.size = some _ := Heap.get?_push_of_some _ (Heap.get?_push_of_some _ (Heap.get?_push_size _ rfl))
  have p2 : (zq5 T U s.heap l m).get? (zq1 T s.heap l).objs.size = some (itO U m) := Heap.get?_push_of_some _ (Heap.get?_push_of_some _ (Heap.get?_push_of_some _ (Heap.get?_push_size _ rfl)))
  have p1 : (zq5 T U s.heap l m).get? s.heap.objs.size = some (itO T l) := Heap.get?_push_of_some _ (Heap.get?_push_of_some _ (Heap.get?_push_of_some _ (Heap.get?_push_of_some _ (Heap.get?_push_size _ rfl))))
  show _ ∧ _
  rw [e2, e3, e4] at p5
  rw [e1, e2] at p3
  rw [e3] at p4
  rw [e1] at p2
  rw [e4]
  have at_ : ∀ {V : Bool} {h : Heap} {i j : Addr}, h.get? i = some (itO V j) → IterAt V h i j 0 := fun {V h i j} q => by
    cases V with
    | true => exact ⟨_, q, rfl, rfl⟩
    | false => exact ⟨_, q, rfl, rfl⟩
  refine ⟨⟨_, p5, rfl⟩, h _ p5 p3 p4 (at_ p1) (at_ p2) fun c o q => ?_⟩
  exact Heap.get?_push_of_some _ (Heap.get?_push_of_some _ (Heap.get?_push_of_some _ (Heap.get?_push_of_some _ (Heap.get?_push_of_some _ q))))
end

/-! ### turns -/
def SqA (K : PySem.W.Frag) (T : Bool) (H : Hp) (a : Addr) (xs : List V) : Prop := match T with
  | true => SqT K H a xs
  | false => SqL K H a xs
theorem SqA.here {X : Cx} {pins : List (Addr × Obj)} {σ : L2.St} {H : Hp} {s : Shared} {T : Bool} {a : Addr} {xs : List V} (I : L2.Inv X pins σ H s) (q : SqA X.K T H a xs) : ∃ its : List Value, Vals xs its ∧ SeqIn T s.heap a its.toArray := by
  cases T with
  | true =>
    obtain ⟨its, rv, p, _⟩ := I.tuple q
    exact ⟨its, rv, p⟩
  | false =>
    obtain ⟨its, rv, p, _⟩ := I.list q
    exact ⟨its, rv, p.isList⟩
theorem SqA.inj {X : Cx} {pins : List (Addr × Obj)} {σ : L2.St} {H : Hp} {s : Shared} {T : Bool} {a : Addr} {xs ys : List V} (I : L2.Inv X pins σ H s) (q : SqA X.K T H a xs) (r : SqA X.K T H a ys) : xs = ys := by
  cases T with
  | true => exact I.tuple_inj q r
  | false => exact I.list_inj q r
/-- both sources as they stand at each turn, the items in new pairs -/
def Izq (K : PySem.W.Frag) (T U : Bool) (a b : Addr) : It :=
  ⟨fun i H => ∃ (xs ys : List V) (x y : V), SqA K T H a xs ∧ SqA K U H b ys ∧ xs[i]? = some x ∧ ys[i]? = some y,
    fun i H v H' => ∃ t x y, v = .ref t ∧ H t = none ∧ H' = upd H t (.tup [x, y]) ∧ (∀ xs, SqA K T H a xs → xs[i]? = some x) ∧ ∀ ys, SqA K U H b ys → ys[i]? = some y,
    fun i H => ∃ xs ys : List V, SqA K T H a xs ∧ SqA K U H b ys ∧ i ≤ xs.length ∧ i ≤ ys.length ∧ (i = xs.length ∨ i = ys.length)⟩
theorem turn_zq {P : Program} {w : World} {K : PySem.W.Frag} {elts : List Expr} {kk : Nat} {tpos : Pos} {T U : Bool} {a b z TI TO i1 i2 : Addr} (ap : ZAp z TI TO i1 i2 [i1, a] [i2, b]) (na : a ≠ i1) (nb : b ≠ i2) :
    Turn P w K (.Tuple elts kk tpos) (Izq K T U a b) [z, TI, TO, i1, i2] z (fun i h => IsZip h z TI TO .none ∧ IsPair h TI (.ref i1) (.ref i2) ∧ (∃ x y, IsPair h TO x y) ∧ IterAt T h i1 a i ∧ IterAt U h i2 b i) where
  mem := List.mem_cons_self ..
  obj := fun i h st c hc => by
    obtain ⟨hz, hTI, ⟨x, y, hTO⟩, j1, j2⟩ := st
    simp only [List.mem_cons, List.not_mem_nil, or_false] at hc
    rcases hc with rfl | rfl | rfl | rfl | rfl
    · exact ⟨_, hz, fun v q => nomatch q⟩
    · exact ⟨_, hTI, fun v q => nomatch q⟩
    · exact ⟨_, hTO, fun v q => nomatch q⟩
    · exact j1.obj
    · exact j2.obj
  keep := fun i h h' st k => by
    obtain ⟨hz, hTI, ⟨x, y, hTO⟩, j1, j2⟩ := st
    exact ⟨k z (by simp) _ hz, k TI (by simp) _ hTI, ⟨x, y, k TO (by simp) _ hTO⟩, j1.keep fun o q => k i1 (by simp) o q, j2.keep fun o q => k i2 (by simp) o q⟩
  item := by
    intro X hP hw hK hc i pins s σ H E I hf st hg
    subst hP hw hK
    obtain ⟨hz, hTI, ⟨x0, y0, hTO⟩, j1, j2⟩ := st
    obtain ⟨xs, ys, x, y, qx, qy, hx, hy⟩ := hg
    obtain ⟨its, rv, p⟩ := qx.here I
    obtain ⟨its2, rv2, p2⟩ := qy.here I
    have zl : z < s.heap.objs.size := Heap.lt_size hz
    have hh := I.ok.hd hc
    have l1 : i < its.toArray.size := by
      rw [List.size_toArray, ← rv.length]
      exact (List.getElem?_eq_some_iff.mp hx).1
    have l2 : i < its2.toArray.size := by
      rw [List.size_toArray, ← rv2.length]
      exact (List.getElem?_eq_some_iff.mp hy).1
    refine pyNext_zipD (draws_seq (A := X.A.in1) T hh i1 a na its.toArray) (draws_seq (A := X.A.in1) U hh i2 b nb its2.toArray) ap hz hTI hTO ⟨j1, p⟩ ⟨j2, p2⟩ l1 l2 fun u u2 h' tk hu hu2 z' TO' j1' j2' new kp => ?_
    obtain ⟨v1, hv1, r1⟩ := rv.get hx
    obtain ⟨v2, hv2, r2⟩ := rv2.get hy
    rw [List.getElem?_toArray, hv1] at hu
    rw [List.getElem?_toArray, hv2] at hu2
    cases hu
    cases hu2
    have nd := ap.nd
    simp only [List.nodup_cons, List.mem_cons, List.not_mem_nil, or_false, not_or, List.nodup_nil, and_true, not_false_eq_true] at nd
    obtain ⟨⟨zTI, zTO, zi1, zi2⟩, ⟨tTO, ti1, ti2⟩, ⟨oi1, oi2⟩, i12⟩ := nd
    refine ⟨_, rfl, wpAny_letOwnedTupleGo_zip (s := { s with heap := h', toks := tk }) z' fun h2 z2 sb => ?_⟩
    have fz : ∀ c o, c ≠ z → h'.get? c = some o → h2.get? c = some o := fun c o hc e => sb.extBut _ _ hc e
    have at_ : IsPair h2 s.heap.objs.size u u2 := fz _ _ (Nat.ne_of_gt zl) new
    have lay : ObjOk X.prog X.w (upd H s.heap.objs.size (.tup [x, y])) h2 s.heap.objs.size (.tup [x, y]) := ⟨(by decide : (2 : Nat) ≤ sizeLine), [u, u2], .cons r1 (.cons r2 .nil), ⟨_, at_, rfl, _, rfl⟩⟩
    have J : L2.Inv X pins σ (upd H s.heap.objs.size (.tup [x, y])) { s with heap := h2, toks := tk } := I.turnedNew (ch := [z, TI, TO, i1, i2]) (fun c o hm e => by
      simp only [List.mem_cons, List.not_mem_nil, or_false, not_or] at hm
      exact fz c o hm.1 (kp c o (by simp [hm.1, hm.2.2.1, hm.2.2.2.1, hm.2.2.2.2]) e)) hf (Nat.le_refl _) lay
    refine ⟨.ref s.heap.objs.size, _, J, rfl, ⟨_, x, y, rfl, I.hok.fresh (Nat.le_refl _), rfl, fun l q => by rw [q.inj I qx]; exact hx, fun l q => by rw [q.inj I qy]; exact hy⟩, ⟨z2, ?_, ⟨u, u2, fz _ _ (Ne.symm zTO) TO'⟩, ?_, ?_⟩, fun c hm => ?_⟩
    · exact fz _ _ (Ne.symm zTI) (kp TI _ (by simp [Ne.symm zTI, tTO, ti1, ti2]) hTI)
    · exact j1'.1.keep fun o e => fz _ o (Ne.symm zi1) e
    · exact j2'.1.keep fun o e => fz _ o (Ne.symm zi2) e
    · have lt : c < s.heap.objs.size := by
        simp only [List.mem_cons, List.not_mem_nil, or_false] at hm
        rcases hm with rfl | rfl | rfl | rfl | rfl
        · exact zl
        · exact Heap.lt_size hTI
        · exact Heap.lt_size hTO
        · obtain ⟨_, e, _⟩ := j1.obj
          exact Heap.lt_size e
        · obtain ⟨_, e, _⟩ := j2.obj
          exact Heap.lt_size e
      rw [upd_ne (Nat.ne_of_lt lt)]
      exact (hf c hm).1
  done := by
    intro X hP hw hK hc i pins s σ H E I hf st hg
    subst hP hw hK
    obtain ⟨hz, hTI, ⟨x0, y0, hTO⟩, j1, j2⟩ := st
    obtain ⟨xs, ys, qx, qy, m1, m2, me⟩ := hg
    obtain ⟨its, rv, p⟩ := qx.here I
    obtain ⟨its2, rv2, p2⟩ := qy.here I
    have hh := I.ok.hd hc
    have e1 := rv.length
    have e2 := rv2.length
    refine pyNext_zipD_end (draws_seq (A := X.A.in1) T hh i1 a na its.toArray) (draws_seq (A := X.A.in1) U hh i2 b nb its2.toArray) ap hz hTI hTO ⟨j1, p⟩ ⟨j2, p2⟩ (by rw [List.size_toArray]; omega) (by rw [List.size_toArray]; omega) (by rw [List.size_toArray, List.size_toArray]; omega) fun h' tk kp => ⟨rfl, ?_⟩
    exact I.turnedL (ch := [z, TI, TO, i1, i2]) (fun c o hm e => by
      simp only [List.mem_cons, List.not_mem_nil, or_false, not_or] at hm
      exact kp c o (by simp [hm.1, hm.2.2.1, hm.2.2.2.1, hm.2.2.2.2]) e) hf
  self := fun A i s Q E st h => wpAny_pyIter_zip st.1 h

/-! ### the reading -/
/-- a source: a list or a tuple -/
def srcOf : DV → Option (Bool × List D)
  | .d (.list ds) => some (false, ds)
  | .d (.tuple ds) => some (true, ds)
  | .vl ds => some (false, ds)
  | _ => none
def zipDs (xs ys : List D) : List D := List.zipWith (fun x y => .tuple [x, y]) xs ys
def fZip (xs : List DV) : M (List D) := on2 xs fun x y => mb (mo (srcOf x)) fun p => mb (mo (srcOf y)) fun q => mp (zipDs p.2 q.2)
theorem src_sq {K : PySem.W.Frag} {Φ : Fx} {F H : Hp} {v : V} {x : DV} {T : Bool} {ds : List D} (h : VR K Φ F H v x) (sb : Sub F H) (e : srcOf x = some (T, ds)) : ∃ a vs, v = .ref a ∧ SqA K T H a vs ∧ RpAll K F vs ds ∧
    (∀ F' H', Sub F F' → Sub F' H' → (∀ b o, H b = some o → isMu o = true → b ∉ Φ.ex → H' b = some o) → SqA K T H' a vs) := by
  cases x with
  | d x =>
    cases x with
    | list xs =>
      cases e
      cases h with
      | lst h1 h2 => exact ⟨_, _, rfl, SqL.of (sb _ _ h1), h2, fun F' H' s1 s2 _ => SqL.of (s2 _ _ (s1 _ _ h1))⟩
    | tuple xs =>
      cases e
      cases h with
      | tup h1 h2 => exact ⟨_, _, rfl, sb.stp h1.sq, h2, fun F' H' s1 s2 _ => s2.stp (s1.stp h1.sq)⟩
    | none => cases e
    | bool => cases e
    | int => cases e
    | str => cases e
    | dict => cases e
  | vl xs =>
    cases e
    obtain ⟨a, vs, rfl, o, ra⟩ := h
    exact ⟨_, _, rfl, SqL.of o.at_, ra, fun F' H' _ _ k => SqL.of (k a _ o.at_ rfl o.ne)⟩
  | sc => cases e
  | dr => cases e
  | fn => cases e
  | ex => cases e
theorem apart5 {N a b : Addr} (ha : a < N) (hb : b < N) : ZAp (N + 4) (N + 2) (N + 3) N (N + 1) [N, a] [N + 1, b] := by
  have ha : (a : Nat) < N := ha
  have hb : (b : Nat) < N := hb
  refine ⟨?_, by simp, by simp, fun c hc => ?_, fun c hc => ?_⟩
  · simp
  · simp only [List.mem_cons, List.not_mem_nil, or_false] at hc
    rcases hc with q | q
    · rw [q]
      exact ⟨by simp, by simp, by simp⟩
    · rw [q]
      exact ⟨Nat.ne_of_lt (Nat.lt_of_lt_of_le ha (Nat.le_add_right N 4)), Nat.ne_of_lt (Nat.lt_of_lt_of_le ha (Nat.le_add_right N 3)), Nat.ne_of_lt (Nat.lt_of_lt_of_le ha (Nat.le_add_right N 1))⟩
  · simp only [List.mem_cons, List.not_mem_nil, or_false] at hc
    rcases hc with q | q
    · rw [q]
      exact ⟨by simp, by simp, by simp⟩
    · rw [q]
      exact ⟨Nat.ne_of_lt (Nat.lt_of_lt_of_le hb (Nat.le_add_right N 4)), Nat.ne_of_lt (Nat.lt_of_lt_of_le hb (Nat.le_add_right N 3)), Nat.ne_of_lt hb⟩
section
variable {X : Cx} {Φ : Fx}
def iZq (K : PySem.W.Frag) (ta : TA) : TI := fun σ H R => ta σ H fun vs H1 => ∃ T U a b xs ys, vs = [.ref a, .ref b] ∧ SqA K T H1 a xs ∧ SqA K U H1 b ys ∧ R (Izq K T U a b) H1
theorem pi_zq {e e2 : Expr} {ta : TA} {p pos tpos : Pos} {elts : List Expr} {kk : Nat} (hg : Gl X "zip") (hm : X.mg "zip" = none) (ha : PA X [e, e2] ta)
    (hs : starEach [e, e2] X.env = (false, eval e X.env) :: starEach [e2] X.env := by rfl) (hpl : (backTo pos (starEach [e2] X.env)).any (·.1) = false := by rfl) :
    PI X (.Tuple elts kk tpos) (.Call (.Name "zip" p) [e, e2] [] pos) (iZq X.K ta) := by
  refine ⟨fun pins s σ H R I h => Call_ (ld_blt I hg hm PyProof.Rows.boot_zip (PyProof.Rows.callWith_type1 (thn (ha.run pos pins s σ H _ I h) fun us s1 ⟨vs, H1, I1, r1, q1⟩ => ?_) hs hpl))⟩
  obtain ⟨T, U, a, b, xs, ys, rfl, qx, qy, q⟩ := q1
  obtain ⟨u, u2, rfl, ru, ru2⟩ := vals2 r1
  cases ru
  cases ru2
  obtain ⟨its, rv, p1⟩ := qx.here I1
  obtain ⟨its2, rv2, p2⟩ := qy.here I1
  have la : (a : Nat) < s1.heap.objs.size := p1.lt
  have lb : (b : Nat) < s1.heap.objs.size := p2.lt
  refine call_zipQ p1 p2 fun h' hz hTI hTO j1 j2 kp => wpAny_pyIter_zip hz ?_
  have I2 : L2.Inv X pins σ H1 { s1 with heap := h' } := I1.kept (t' := s1.toks) kp
  refine ⟨_, _, _, _, H1, rfl, I2, turn_zq (apart5 la lb) (Nat.ne_of_lt la) (Nat.ne_of_lt (Nat.lt_of_lt_of_le lb (Nat.le_add_right _ 1))), ⟨hz, hTI, ⟨_, _, hTO⟩, j1, j2⟩, fun c hm => ?_, q⟩
  have le : s1.heap.objs.size ≤ c := by
    simp only [List.mem_cons, List.not_mem_nil, or_false] at hm
    rcases hm with rfl | rfl | rfl | rfl | rfl
    · exact Nat.le_add_right ..
    · exact Nat.le_add_right ..
    · exact Nat.le_add_right ..
    · exact Nat.le_refl _
    · exact Nat.le_add_right ..
  exact I1.fpOk le (I1.hok.fresh le)
theorem zipDs_get {xs ys : List D} {i : Nat} {x y : D} (h1 : xs[i]? = some x) (h2 : ys[i]? = some y) : (zipDs xs ys)[i]? = some (.tuple [x, y]) := by
  unfold zipDs
  rw [List.getElem?_zipWith, h1, h2]
theorem walk_zq {K : PySem.W.Frag} {T U : Bool} {a b : Addr} {ws us : List V} {ds es : List D} {F1 : Hp} {C : Hp → Hp → Prop} (ra : RpAll K F1 ws ds) (rb : RpAll K F1 us es) (hC : ∀ F H, C F H → Sub F1 F) (ka : ∀ F H, Sub F H → C F H → SqA K T H a ws) (kb : ∀ F H, Sub F H → C F H → SqA K U H b us) :
    WalkOn K Φ true C (Izq K T U a b) (zipDs ds es) := by
  intro F2 H2 σ2 S2 G2 st2 c2
  have la := ra.length
  have lb := rb.length
  have hl : (zipDs ds es).length = min ws.length us.length := by
    rw [la, lb]
    exact List.length_zipWith
  have qa2 := ka F2 H2 st2.sub c2
  have qb2 := kb F2 H2 st2.sub c2
  refine ⟨fun i hi => ?_, ?_, fun i x H3 hi y => ?_⟩
  · have h1 : i < ws.length := by
      rw [hl] at hi
      omega
    have h2 : i < us.length := by
      rw [hl] at hi
      omega
    exact ⟨ws, us, _, _, qa2, qb2, List.getElem?_eq_getElem h1, List.getElem?_eq_getElem h2⟩
  · refine ⟨ws, us, qa2, qb2, ?_, ?_, ?_⟩ <;> rw [hl] <;> omega
  · obtain ⟨t, x1, y1, rfl, ht, rfl, f1, f2⟩ := y
    obtain ⟨d1, e1, r1⟩ := ra.get (f1 ws qa2)
    obtain ⟨d2, e2, r2⟩ := rb.get (f2 us qb2)
    have sb := sub_upd (o := HO.tup [x1, y1]) ht
    refine ⟨F2, .tuple [d1, d2], zipDs_get e1 e2, ⟨.refl F2, st2.sub.trans sb, st2.noex, fun _ _ q => .inl q, fun b o e _ _ => sb b o e, id⟩, st2.ok.wm _ _ _ _ ht (fun _ z => nomatch z) st2.w, ?_⟩
    exact ⟨t, [x1, y1], [d1, d2], rfl, rfl, .inl (.inl upd_same), .cons (r1.mono (hC F2 H2 c2)) (.cons (r2.mono (hC F2 H2 c2)) .nil)⟩
theorem di_zip {e e2 : Expr} {p pos tpos : Pos} {elts : List Expr} {kk : Nat} {c : SS → M (List DV)} (hm : X.mg "zip" = none) (ha : PA X [e, e2] (tDA X.K Φ c)) (hg : Gl X "zip" := by rfl)
    (hs : starEach [e, e2] X.env = (false, eval e X.env) :: starEach [e2] X.env := by rfl) (hpl : (backTo pos (starEach [e2] X.env)).any (·.1) = false := by rfl) :
    PI X (.Tuple elts kk tpos) (.Call (.Name "zip" p) [e, e2] [] pos) (iH X.K Φ true (cItr fZip c)) :=
  pi_imp (pi_zq hg hm ha hs hpl) fun σ H Q ⟨F, S, G, r, G', st, e, po⟩ => by
    refine tX_run c st e po fun F1 H1 G1 xs vs st1 s1 vx e1 po1 => ?_
    obtain ⟨x, y, v, u, rfl, rfl, hv, hu, e2⟩ := on2_of vx e1
    obtain ⟨⟨T, ds⟩, ep, e3⟩ := mb_mo_of e2
    obtain ⟨⟨U, es⟩, eq, e4⟩ := mb_mo_of e3
    cases e4
    obtain ⟨a, ws, rfl, qa, ra, ka⟩ := src_sq hv st1.sub ep
    obtain ⟨b, us, rfl, qb, rb, kb⟩ := src_sq hu st1.sub eq
    exact ⟨T, U, a, b, ws, us, rfl, qa, qb, po1.now st1 (walk_zq ra rb (fun F H c => c.1) (fun F H sb c => ka F H c.1 sb c.2) fun F H sb c => kb F H c.1 sb c.2)⟩
/-- a source that is frozen -/
def srcF : DV → Option (Bool × List D)
  | .d (.list ds) => some (false, ds)
  | .d (.tuple ds) => some (true, ds)
  | _ => none
theorem srcF_sq {K : PySem.W.Frag} {F H : Hp} {v : V} {x : DV} {T : Bool} {ds : List D} (h : VR K Φ F H v x) (e : srcF x = some (T, ds)) : ∃ a vs, v = .ref a ∧ RpAll K F vs ds ∧ ∀ F' H', Sub F F' → Sub F' H' → SqA K T H' a vs := by
  cases x with
  | d x =>
    cases x with
    | list xs =>
      cases e
      cases h with
      | lst h1 h2 => exact ⟨_, _, rfl, h2, fun F' H' s1 s2 => SqL.of (s2 _ _ (s1 _ _ h1))⟩
    | tuple xs =>
      cases e
      cases h with
      | tup h1 h2 => exact ⟨_, _, rfl, h2, fun F' H' s1 s2 => s2.stp (s1.stp h1.sq)⟩
    | none => cases e
    | bool => cases e
    | int => cases e
    | str => cases e
    | dict => cases e
  | vl => cases e
  | sc => cases e
  | dr => cases e
  | fn => cases e
  | ex => cases e
def fZipF (xs : List DV) : M (List D) := on2 xs fun x y => mb (mo (srcF x)) fun p => mb (mo (srcF y)) fun q => mp (zipDs p.2 q.2)
theorem di_zipF {e e2 : Expr} {p pos tpos : Pos} {elts : List Expr} {kk : Nat} {c : SS → M (List DV)} (hm : X.mg "zip" = none) (ha : PA X [e, e2] (tDA X.K Φ c)) (hg : Gl X "zip" := by rfl)
    (hs : starEach [e, e2] X.env = (false, eval e X.env) :: starEach [e2] X.env := by rfl) (hpl : (backTo pos (starEach [e2] X.env)).any (·.1) = false := by rfl) :
    PI X (.Tuple elts kk tpos) (.Call (.Name "zip" p) [e, e2] [] pos) (iF X.K Φ true (cItr fZipF c)) :=
  pi_imp (pi_zq hg hm ha hs hpl) fun σ H Q ⟨F, S, G, r, G', st, e, po⟩ => by
    refine tX_run c st e po fun F1 H1 G1 xs vs st1 s1 vx e1 po1 => ?_
    obtain ⟨x, y, v, u, rfl, rfl, hv, hu, e2⟩ := on2_of vx e1
    obtain ⟨⟨T, ds⟩, ep, e3⟩ := mb_mo_of e2
    obtain ⟨⟨U, es⟩, eq, e4⟩ := mb_mo_of e3
    cases e4
    obtain ⟨a, ws, rfl, ra, ka⟩ := srcF_sq hv ep
    obtain ⟨b, us, rfl, rb, kb⟩ := srcF_sq hu eq
    exact ⟨T, U, a, b, ws, us, rfl, ka F1 H1 (.refl F1) st1.sub, kb F1 H1 (.refl F1) st1.sub, po1.now st1 (walk_zq ra rb (fun F H c => c) (fun F H sb c => ka F H c sb) fun F H sb c => kb F H c sb)⟩
end
end DL

/-! enumerate over a list or a tuple. -/
namespace DL
open PySem PySem.Spec PyProof.Rows L2
open AutoSeq1 (wpAny_loadPart')
abbrev enO (it : Addr) : Obj := { cls := .type "enumerate", data := .fields #[.none, .bool false, .ref it, rawInt 0, .none, .none] }
theorem meets_enumQ (T : Bool) (l : Addr) (xs : Array Value) : Meets (Builtin.«enumerate.__new__» ⟨[.type "enumerate", .ref l], []⟩) (fun _ R s => SeqIn T s.heap l xs ∧ R (.ok (.ret (.ref (s.heap.push (itO T l)).objs.size))) { s with heap := (s.heap.push (itO T l)).push (enO s.heap.objs.size) }) :=
  .of_wp fun prog w A R s h => by
    obtain ⟨hp, g, d, tk, os⟩ := s
    obtain ⟨q1, h⟩ := h
    have hsub := sub_enumerate
    have r1 : SeqIn T (Shared.heap ⟨hp, g, d, tk, os⟩) l xs := q1
    cases T with
    | false =>
      obtain ⟨o, hl, r⟩ := id q1
      obtain ⟨cl, dc, dt, sl⟩ := o
      obtain ⟨rfl, n, rfl⟩ : cl = .type "list" ∧ ∃ n, dt = .seq xs n := r
      wp_walk using wpAny_loadPart' hl
      refine wpAny_stack_any fun st => wpAny_pure ?_
      split
      · rename_i c _ _ _ _ _
        cases (c == Value.type "enumerate") <;> (wp_walk using wpAny_loadPart' hl, iter_seq r1; exact ⟨_, rfl, h⟩)
      · wp_walk using wpAny_loadPart' hl, iter_seq r1
        exact ⟨_, rfl, h⟩
    | true =>
      obtain ⟨o, hl, r⟩ := id q1
      obtain ⟨cl, dc, dt, sl⟩ := o
      obtain ⟨rfl, n, rfl⟩ : cl = .type "tuple" ∧ ∃ n, dt = .seq xs n := r
      wp_walk using wpAny_loadPart' hl
      refine wpAny_stack_any fun st => wpAny_pure ?_
      split
      · rename_i c _ _ _ _ _
        cases (c == Value.type "enumerate") <;> (wp_walk using wpAny_loadPart' hl, iter_seq r1; exact ⟨_, rfl, h⟩)
      · wp_walk using wpAny_loadPart' hl, iter_seq r1
        exact ⟨_, rfl, h⟩
section
variable {prog : Program} {w : World} {A : Around} {E : Value → Shared → Prop} {s : Shared}
theorem call_enumQ {T : Bool} {l : Addr} {xs : Array Value} {Q : Value → Shared → Prop} (q1 : SeqIn T s.heap l xs)
    (h : ∀ h', IsEnum h' (s.heap.objs.size + 1) s.heap.objs.size 0 .none → IterAt T h' s.heap.objs.size l 0 → (∀ c o, s.heap.get? c = some o → h'.get? c = some o) → Q (.ref (s.heap.objs.size + 1)) { s with heap := h' }) :
    wpAny (model prog w) A (call (.type "enumerate") [.ref l]) Q E s := by
  refine callType_new F.called_enumerate (by decide) (F.typeCall_enumerate_1 _) (F.newCall_enumerate_1 _) (fun obj => F.args_object_init_2 obj _) F.entry_enumerate_new (meets_enumQ T l xs) ⟨q1, ?_⟩
  have e1 : (s.heap.push (itO T l)).objs.size = s.heap.objs.size + 1 := Heap.size_push ..
  have p2 : ((s.heap.push (itO T l)).push (enO s.heap.objs.size)).get? (s.heap.push (itO T l)).objs.size = some (enO s.heap.objs.size) := Heap.get?_push_size _ rfl
  have p1 : ((s.heap.push (itO T l)).push (enO s.heap.objs.size)).get? s.heap.objs.size = some (itO T l) := Heap.get?_push_of_some _ (Heap.get?_push_size _ rfl)
  show _ ∧ _
  rw [e1] at p2 ⊢
  refine ⟨⟨_, p2, rfl⟩, h _ p2 ?_ fun c o q => Heap.get?_push_of_some _ (Heap.get?_push_of_some _ q)⟩
  cases T with
  | true => exact ⟨_, p1, rfl, rfl⟩
  | false => exact ⟨_, p1, rfl, rfl⟩
end
/-- the source as it stands at each turn, each item in a new pair -/
def Ieq (K : PySem.W.Frag) (T : Bool) (a : Addr) : It :=
  ⟨fun i H => ∃ (xs : List V) (x : V), SqA K T H a xs ∧ xs[i]? = some x, fun i H v H' => ∃ t x, v = .ref t ∧ H t = none ∧ H' = upd H t (.tup [.int (i : Nat), x]) ∧ ∀ xs, SqA K T H a xs → xs[i]? = some x, fun i H => ∃ xs : List V, SqA K T H a xs ∧ xs.length = i⟩
theorem turn_eq {P : Program} {w : World} {K : PySem.W.Frag} {elts : List Expr} {kk : Nat} {tpos : Pos} {T : Bool} {a e it : Addr} (na : a ≠ it) (ne : e ≠ it) (nea : e ≠ a) :
    Turn P w K (.Tuple elts kk tpos) (Ieq K T a) [e, it] e (fun i h => (∃ old, IsEnum h e it ((i : Nat) : Int) old) ∧ IterAt T h it a i) where
  mem := List.mem_cons_self ..
  obj := fun i h st c hc => by
    obtain ⟨⟨old, he⟩, j⟩ := st
    simp only [List.mem_cons, List.not_mem_nil, or_false] at hc
    rcases hc with rfl | rfl
    · exact ⟨_, he, fun v q => nomatch q⟩
    · exact j.obj
  keep := fun i h h' st k => ⟨let ⟨old, he⟩ := st.1; ⟨old, k e (by simp) _ he⟩, st.2.keep fun o q => k it (by simp) o q⟩
  item := by
    intro X hP hw hK hc i pins s σ H E I hf st hg
    subst hP hw hK
    obtain ⟨⟨old, he⟩, j⟩ := st
    obtain ⟨xs, x, qx, hx⟩ := hg
    obtain ⟨its, rv, p⟩ := qx.here I
    have el : e < s.heap.objs.size := Heap.lt_size he
    have hh := I.ok.hd hc
    have l1 : i < its.toArray.size := by
      rw [List.size_toArray, ← rv.length]
      exact (List.getElem?_eq_some_iff.mp hx).1
    obtain ⟨v1, hv1, r1⟩ := rv.get hx
    refine wpAny_pyNext_enum_itemD (draws_seq (A := X.A.in1) T hh it a na its.toArray) he ⟨j, p⟩ l1 ne (by simp [ne, nea]) fun u h' tk hu ho st' hT hsz kp => ?_
    rw [List.getElem?_toArray, hv1] at hu
    cases hu
    refine ⟨_, rfl, wpAny_letOwnedTupleGo_enum (s := { s with heap := h', toks := tk + 1 }) ho fun h2 he2 sb => ?_⟩
    have fz : ∀ c o, c ≠ e → h'.get? c = some o → h2.get? c = some o := fun c o hc q => sb.extBut _ _ hc q
    have at_ := fz _ _ (Nat.ne_of_gt el) hT
    have lay : ObjOk X.prog X.w (upd H s.heap.objs.size (.tup [.int (i : Nat), x])) h2 s.heap.objs.size (.tup [.int (i : Nat), x]) := ⟨(by decide : (2 : Nat) ≤ sizeLine), [.int i tk, v1], .cons ⟨_, rfl⟩ (.cons r1 .nil), ⟨_, at_, rfl, _, rfl⟩⟩
    have J : L2.Inv X pins σ (upd H s.heap.objs.size (.tup [.int (i : Nat), x])) { s with heap := h2, toks := tk + 1 } := I.turnedNew (ch := [e, it]) (fun c o hm q => by
      simp only [List.mem_cons, List.not_mem_nil, or_false, not_or] at hm
      exact fz c o hm.1 (kp c o hm.1 hm.2 q)) hf (Nat.le_refl _) lay
    refine ⟨.ref s.heap.objs.size, _, J, rfl, ⟨_, x, rfl, I.hok.fresh (Nat.le_refl _), rfl, fun l q => by rw [q.inj I qx]; exact hx⟩, ⟨⟨v1, ?_⟩, st'.1.keep fun o q => fz _ o (Ne.symm ne) q⟩, fun c hm => ?_⟩
    · have e1 : ((i + 1 : Nat) : Int) = (i : Int) + 1 := by omega
      rw [e1]
      exact he2
    · have lt : c < s.heap.objs.size := by
        simp only [List.mem_cons, List.not_mem_nil, or_false] at hm
        rcases hm with rfl | rfl
        · exact el
        · obtain ⟨_, q, _⟩ := j.obj
          exact Heap.lt_size q
      rw [upd_ne (Nat.ne_of_lt lt)]
      exact (hf c hm).1
  done := by
    intro X hP hw hK hc i pins s σ H E I hf st hg
    subst hP hw hK
    obtain ⟨⟨old, he⟩, j⟩ := st
    obtain ⟨xs, qx, rfl⟩ := hg
    obtain ⟨its, rv, p⟩ := qx.here I
    have hh := I.ok.hd hc
    have e1 : xs.length = its.toArray.size := by rw [List.size_toArray, rv.length]
    refine wpAny_pyNext_enum_endD (draws_seq (A := X.A.in1) T hh it a na its.toArray) he (by rw [← e1]; exact ⟨j, p⟩) fun h' eb => ⟨rfl, ?_⟩
    exact I.turnedL (t' := s.toks) (ch := [e, it]) (fun c o hm q => by
      simp only [List.mem_cons, List.not_mem_nil, or_false, not_or] at hm
      exact eb c o hm.2 q) hf
  self := fun A i s Q E st h => let ⟨⟨_, he⟩, _⟩ := st; wpAny_pyIter_enum he h
section
variable {X : Cx} {Φ : Fx}
def iEq (K : PySem.W.Frag) (ta : TA) : TI := fun σ H R => ta σ H fun vs H1 => ∃ T a xs, vs = [.ref a] ∧ SqA K T H1 a xs ∧ R (Ieq K T a) H1
theorem pi_eq {e : Expr} {ta : TA} {p pos tpos : Pos} {elts : List Expr} {kk : Nat} (hg : Gl X "enumerate") (hm : X.mg "enumerate" = none) (ha : PA X [e] ta) (hs : starEach [e] X.env = [(false, eval e X.env)] := by rfl) :
    PI X (.Tuple elts kk tpos) (.Call (.Name "enumerate" p) [e] [] pos) (iEq X.K ta) := by
  refine ⟨fun pins s σ H R I h => Call_ (ld_blt I hg hm boot_enumerate (PyProof.Rows.callWith_type1 (thn (ha.run pos pins s σ H _ I h) fun us s1 ⟨vs, H1, I1, r1, q1⟩ => ?_) hs rfl))⟩
  obtain ⟨T, a, xs, rfl, qx, q⟩ := q1
  obtain ⟨u, rfl, ru⟩ := vals1 r1
  cases ru
  obtain ⟨its, rv, p1⟩ := qx.here I1
  have la : (a : Nat) < s1.heap.objs.size := p1.lt
  refine call_enumQ p1 fun h' he j kp => wpAny_pyIter_enum he ?_
  have I2 : L2.Inv X pins σ H1 { s1 with heap := h' } := I1.kept (t' := s1.toks) kp
  refine ⟨_, _, _, _, H1, rfl, I2, turn_eq (Nat.ne_of_lt la) (Nat.succ_ne_self _) (Nat.ne_of_gt (Nat.lt_of_lt_of_le la (Nat.le_add_right _ 1))), ⟨⟨_, he⟩, j⟩, fun c hm => ?_, q⟩
  have le : s1.heap.objs.size ≤ c := by
    simp only [List.mem_cons, List.not_mem_nil, or_false] at hm
    rcases hm with rfl | rfl
    · exact Nat.le_add_right ..
    · exact Nat.le_refl _
  exact I1.fpOk le (I1.hok.fresh le)
def enDs : Nat → List D → List D
  | _, [] => []
  | i, d :: r => .tuple [.int (i : Nat), d] :: enDs (i + 1) r
theorem enDs_len : ∀ (i : Nat) (ds : List D), (enDs i ds).length = ds.length
  | _, [] => rfl
  | i, d :: r => congrArg (· + 1) (enDs_len (i + 1) r)
theorem enDs_get : ∀ {ds : List D} {k i : Nat} {d : D}, ds[i]? = some d → (enDs k ds)[i]? = some (.tuple [.int ((k + i : Nat) : Int), d])
  | [], _, _, _, e => by cases e
  | _ :: _, k, 0, _, e => by
    cases e
    rfl
  | _ :: r, k, i + 1, d, e => by
    have q := enDs_get (ds := r) (k := k + 1) (i := i) e
    rw [show k + 1 + i = k + (i + 1) by omega] at q
    exact q
theorem walk_eq {K : PySem.W.Frag} {T : Bool} {a : Addr} {ws : List V} {ds : List D} {F1 : Hp} {C : Hp → Hp → Prop} (ra : RpAll K F1 ws ds) (hC : ∀ F H, C F H → Sub F1 F) (ka : ∀ F H, Sub F H → C F H → SqA K T H a ws) : WalkOn K Φ true C (Ieq K T a) (enDs 0 ds) := by
  intro F2 H2 σ2 S2 G2 st2 c2
  have la := ra.length
  have qa := ka F2 H2 st2.sub c2
  rw [enDs_len]
  refine ⟨fun i hi => ⟨ws, _, qa, List.getElem?_eq_getElem (by rw [la]; exact hi)⟩, ⟨ws, qa, la⟩, fun i x H3 hi y => ?_⟩
  obtain ⟨t, x1, rfl, ht, rfl, f1⟩ := y
  obtain ⟨d1, e1, r1⟩ := ra.get (f1 ws qa)
  have sb := sub_upd (o := HO.tup [.int (i : Nat), x1]) ht
  refine ⟨F2, .tuple [.int ((0 + i : Nat) : Int), d1], enDs_get e1, ⟨.refl F2, st2.sub.trans sb, st2.noex, fun _ _ q => .inl q, fun b o e _ _ => sb b o e, id⟩, st2.ok.wm _ _ _ _ ht (fun _ z => nomatch z) st2.w, ?_⟩
  rw [Nat.zero_add]
  exact ⟨t, [.int (i : Nat), x1], [.int ((i : Nat) : Int), d1], rfl, rfl, .inl (.inl upd_same), .cons (.int _) (.cons (r1.mono (hC F2 H2 c2)) .nil)⟩
def fEnum (xs : List DV) : M (List D) := on1 xs fun x => mb (mo (srcOf x)) fun p => mp (enDs 0 p.2)
def fEnumF (xs : List DV) : M (List D) := on1 xs fun x => mb (mo (srcF x)) fun p => mp (enDs 0 p.2)
theorem di_enum {e : Expr} {p pos tpos : Pos} {elts : List Expr} {kk : Nat} {c : SS → M (List DV)} (hm : X.mg "enumerate" = none) (ha : PA X [e] (tDA X.K Φ c)) (hg : Gl X "enumerate" := by rfl) (hs : starEach [e] X.env = [(false, eval e X.env)] := by rfl) :
    PI X (.Tuple elts kk tpos) (.Call (.Name "enumerate" p) [e] [] pos) (iH X.K Φ true (cItr fEnum c)) :=
  pi_imp (pi_eq hg hm ha hs) fun σ H Q ⟨F, S, G, r, G', st, e, po⟩ => by
    refine tX_run c st e po fun F1 H1 G1 xs vs st1 s1 vx e1 po1 => ?_
    obtain ⟨x, v, rfl, rfl, hv, e2⟩ := on1_of vx e1
    obtain ⟨⟨T, ds⟩, ep, e3⟩ := mb_mo_of e2
    cases e3
    obtain ⟨a, ws, rfl, qa, ra, ka⟩ := src_sq hv st1.sub ep
    exact ⟨T, a, ws, rfl, qa, po1.now st1 (walk_eq ra (fun F H c => c.1) fun F H sb c => ka F H c.1 sb c.2)⟩
theorem di_enumF {e : Expr} {p pos tpos : Pos} {elts : List Expr} {kk : Nat} {c : SS → M (List DV)} (hm : X.mg "enumerate" = none) (ha : PA X [e] (tDA X.K Φ c)) (hg : Gl X "enumerate" := by rfl) (hs : starEach [e] X.env = [(false, eval e X.env)] := by rfl) :
    PI X (.Tuple elts kk tpos) (.Call (.Name "enumerate" p) [e] [] pos) (iF X.K Φ true (cItr fEnumF c)) :=
  pi_imp (pi_eq hg hm ha hs) fun σ H Q ⟨F, S, G, r, G', st, e, po⟩ => by
    refine tX_run c st e po fun F1 H1 G1 xs vs st1 s1 vx e1 po1 => ?_
    obtain ⟨x, v, rfl, rfl, hv, e2⟩ := on1_of vx e1
    obtain ⟨⟨T, ds⟩, ep, e3⟩ := mb_mo_of e2
    cases e3
    obtain ⟨a, ws, rfl, ra, ka⟩ := srcF_sq hv ep
    exact ⟨T, a, ws, rfl, ka F1 H1 (.refl F1) st1.sub, po1.now st1 (walk_eq ra (fun F H c => c) fun F H sb c => ka F H c sb)⟩
end
end DL

/-! t[::-1], t * k. -/
namespace DL
open PySem PySem.Spec PyProof.Rows L2
open AutoSeq1 (wpAny_loadPart')
theorem places_back (n : Nat) : Builtin.Slice.slicePlaces ((n : Int) - 1) (-1) (-1) = n := by
  unfold Builtin.Slice.slicePlaces
  rw [if_neg (by omega)]
  by_cases h : 0 < n
  · rw [if_pos (by omega)]
    have e : ((n : Int) - 1 - (-1) - 1) / (-(-1)) + 1 = n := by
      rw [Int.neg_neg, Int.ediv_one]
      omega
    rw [e]
    rfl
  · rw [if_neg (by omega)]
    have e : n = 0 := by omega
    rw [e]
    rfl
theorem adjust_back (n : Nat) : Builtin.Slice.sliceAdjust none none (-1) (n : Int) = ((n : Int) - 1, -1) := rfl
theorem pick_back (xs : Array Value) : ((List.range xs.size).filterMap fun (m : Nat) => xs[(((xs.size : Int) - 1) + (m : Int) * (-1)).toNat]?).toArray = xs.toList.reverse.toArray := by
  apply congrArg
  have e : ∀ k, k ≤ xs.size → (List.range k).filterMap (fun (m : Nat) => xs[(((xs.size : Int) - 1) + (m : Int) * (-1)).toNat]?) = xs.toList.reverse.take k := by
    intro k
    induction k with
    | zero => intro _; rfl
    | succ k ih =>
      intro hk
      have e1 : (((xs.size : Int) - 1) + (k : Int) * (-1)).toNat = xs.size - 1 - k := by omega
      have hl : xs.size - 1 - k < xs.size := by omega
      have e2 : xs.toList.reverse[k]? = some xs[xs.size - 1 - k] := by
        rw [List.getElem?_reverse (by rw [Array.length_toList]; omega), Array.length_toList, Array.getElem?_toList, Array.getElem?_eq_getElem hl]
      rw [List.range_succ, List.filterMap_append, ih (by omega), List.take_add_one, e2]
      have e3 : xs[(((xs.size : Int) - 1) + (k : Int) * (-1)).toNat]? = some xs[xs.size - 1 - k] := by rw [e1, Array.getElem?_eq_getElem hl]
      rw [List.filterMap_cons_some (f := fun (m : Nat) => xs[(((xs.size : Int) - 1) + (m : Int) * (-1)).toNat]?) e3]
      rfl
  rw [e xs.size (Nat.le_refl _)]
  have : xs.toList.reverse.length = xs.size := by rw [List.length_reverse, Array.length_toList]
  rw [← this, List.take_length]
section
variable {prog : Program} {w : World} {A : Around} {E : Value → Shared → Prop} {s : Shared}
theorem applied_back {sl : Addr} {vs : Value} {n : Nat} {Q : Int × Int × Nat → Shared → Prop} (hs : s.heap.IsSliceOf sl .none .none vs) (ps : IsPart vs (some (-1))) (h : Q ((n : Int) - 1, -1, n) s) : wpAny (model prog w) A (Builtin.Slice.sliceApplied (.ref sl) (pure (n : Int))) Q E s := by
  obtain ⟨o, ho, hc, hd⟩ := id hs
  unfold Builtin.Slice.sliceApplied Builtin.Slice.sliceFields
  refine wpAny_bind (wpAny_bind (wpAny_field ho hd (x := .none) rfl (wpAny_bind (wpAny_field ho hd (x := .none) rfl (wpAny_bind (wpAny_field ho hd (x := vs) rfl (wpAny_pure ?_)))))))
  refine wpAny_bind (HT.slicePart_ ps ?_)
  show wpAny _ _ (if ((-1 : Int) == 0) = true then _ else _) _ _ s
  rw [if_neg (by decide)]
  refine wpAny_bind (slicePart_none (wpAny_bind (slicePart_none (wpAny_bind (wpAny_pure ?_)))))
  show wpAny _ _ (pure ((n : Int) - 1, (-1 : Int), Builtin.Slice.slicePlaces ((n : Int) - 1) (-1) (-1))) _ _ s
  rw [places_back]
  exact wpAny_pure h
theorem getItem_back {t sl : Addr} {xs : Array Value} {vs : Value} {Q : Value → Shared → Prop} (ht : IsTup s.heap t xs) (hs : s.heap.IsSliceOf sl .none .none vs) (ps : IsPart vs (some (-1)))
    (h : Q (.ref s.heap.objs.size) { s with heap := s.heap.push (tobj xs.toList.reverse) }) (hz : xs.size ≤ sizeLine) : wpAny (model prog w) A (getItem (.ref t) (.ref sl)) Q E s := by
  obtain ⟨o, ho, hc, hd⟩ := id hs
  have ty : s.TypeIs (.ref sl) "slice" := ⟨o, ho, hc⟩
  have fit : sizeOk (.seq xs.toList.reverse.toArray) := by
    show xs.toList.reverse.toArray.size ≤ sizeLine
    rw [List.size_toArray, List.length_reverse, Array.length_toList]
    exact hz
  unfold getItem
  try with_reducible refine wpAny_holding ?_
  first | refine wpAny_bind (wpAny_pure ?_) | skip
  refine wpAny_bind (wpAny_sequenceKey ht.typeIs (by decide) (wpAny_bind (wpAny_callSpecial?_slot (name := Str.ofString "__getitem__") ht.typeIs PyProof.Rows.slot_tuple_getitem
    (wpAny_call_entry PyProof.Rows.slot_tuple_getitem ht.typeIs entry_tuple_getitem ?_ (args_tuple_getitem _ _)))))
  show wpAny _ _ (Builtin.Tuple.tupleItemsOf (.ref t) >>= fun d => _) _ _ s
  refine wpAny_bind (tupleItemsOf_ ht (wpAny_bind (wpAny_typeOf ty ?_)))
  rw [if_pos (by decide)]
  refine wpAny_bind (applied_back hs ps ?_)
  have no : ¬ ((((xs.size : Int) - 1) == 0 && (-1 : Int) == 1 && xs.size == xs.size) = true) := fun q => by
    rw [Bool.and_eq_true, Bool.and_eq_true] at q
    exact absurd q.1.2 (by decide)
  show wpAny _ _ (if (((xs.size : Int) - 1) == 0 && (-1 : Int) == 1 && xs.size == xs.size) = true then _ else _) _ _ s
  rw [if_neg no, pick_back]
  first
    | exact wpAny_bind (m := Builtin.Tuple.tupleExact _) (wpAny_newObj_type (wpAny_pure ⟨_, rfl, wpAny_pure h⟩) fit)
    | exact wpAny_bind (wpAny_bind (m := Builtin.Tuple.tupleExact _) (wpAny_newObj_type (wpAny_pure ⟨_, rfl, wpAny_pure h⟩) fit))
end
section
variable {X : Cx} {Φ : Fx}
def tBack (K : PySem.W.Frag) (te : TE) : TE := fun σ H Q => te σ H fun x H1 => ∃ a xs, x = .ref a ∧ SqT K H1 a xs ∧ NewT H1 Q xs.reverse
theorem pe_back {e : Expr} {te : TE} {k : Nat} {p1 p2 p3 pos : Pos} (he : PE X e te) : PE X (.Subscript e (.Slice none none (some (.UnaryOp .USub (.Constant (.int 1) k p1) p2)) p3) pos) (tBack X.K te) := by
  refine ⟨fun pins s σ H Q I h => Subscript_ (thn (he.run pins s σ H _ I h) fun v s1 ⟨x, H1, I1, r1, q1⟩ => ?_)⟩
  obtain ⟨a, xs, rfl, hx, q⟩ := q1
  cases r1
  have one : PO X (some (.UnaryOp .USub (.Constant (.int 1) k p1) p2)) (tPart (tUn (rU fun i => .int (-i)) (tC (.int 1)))) := po_some (pe_un un_neg pe_int)
  refine wpAny_Slice (thn (po_none.run pins s1 σ H1 (fun o H2 => o = none ∧ H2 = H1) I1 ⟨rfl, rfl⟩) fun vl s2 ⟨l, H2, I2, pl, el, e2⟩ => ?_)
  subst el e2
  refine thn (po_none.run pins s2 σ H2 (fun o H3 => o = none ∧ H3 = H2) I2 ⟨rfl, rfl⟩) fun vu s3 ⟨u, H3, I3, pu, eu, e3⟩ => ?_
  subst eu e3
  refine thn (one.run pins s3 σ H3 (fun o H4 => o = some (-1) ∧ H4 = H3) I3 ⟨1, rfl, -1, rfl, rfl, rfl⟩) fun vs s4 ⟨o, H4, I4, ps, eo, e4⟩ => ?_
  subst eo e4
  cases pl
  cases pu
  have I5 : L2.Inv X pins σ H4 { s4 with heap := s4.heap.push { cls := .type "slice", data := .fields #[.none, .none, vs] } } := I4.kept (t' := s4.toks) fun b ob q => Heap.get?_push_of_some _ q
  obtain ⟨its, r, ht, hz⟩ := I5.tuple hx
  have len := r.length
  refine tail_any (ops := [.ref a, .ref s4.heap.objs.size]) ht.typeIs PyProof.Rows.slot_tuple_getitem.lookup (getItem_back ht (Heap.IsSliceOf.new _ .none .none vs) ps ?_ (by rw [List.size_toArray, ← len]; exact hz)) (by with_unfolding_all rfl)
  exact new_tup I5 (by rw [List.toList_toArray]; exact r.reverse) (by rw [List.length_reverse]; exact hz) q
def fBack (x : DV) : M DV := onT x fun ds => mp (.d (.tuple ds.reverse))
theorem de_back {e : Expr} {c : SS → M DV} {k : Nat} {p1 p2 p3 pos : Pos} (he : PE X e (tD X.K Φ c)) : PE X (.Subscript e (.Slice none none (some (.UnaryOp .USub (.Constant (.int 1) k p1) p2)) p3) pos) (tD X.K Φ (cUn fBack c)) :=
  pe_imp (pe_back he) fun σ H Q ⟨F, S, G, r, G', st, e, po⟩ => by
    refine tX_run c st e po fun F1 H1 G1 x v st1 s1 vx e1 po1 => ?_
    have e1 : onT x (fun ds => mp (DV.d (.tuple ds.reverse))) G1 = some (r, G') := e1
    obtain ⟨ds, a, vs, rfl, rfl, ht, ra, e2⟩ := onT_of vx e1
    cases e2
    exact ⟨a, vs, rfl, st1.sub.stp ht.sq, po1.newT st1 ra.reverse⟩
end
/-! ### t * k -/
theorem mul_same (l : Addr) (its : Array Value) (n : Nat) (dd : Option Addr) (sl : Array (Option Value)) (x : Int) (u : Tok) (c0 : (decide (x < -(2 ^ 63)) || decide (x ≥ 2 ^ 63)) = false) (c1 : (its.isEmpty || x == 1) = true) :
    Meets (Builtin.«tuple.__mul__» ⟨[.ref l, .int x u], []⟩) (fun _ R s => s.heap.get? l = some { cls := .type "tuple", dict := dd, data := .seq its n, slots := sl } ∧ R (.ok (.ret (Value.ref l))) s) :=
  .of_wp fun prog w A R s h => by
    obtain ⟨hp, g, d, tk, os⟩ := s
    obtain ⟨hl, h⟩ := h
    have f1 := AutoSeq1.idx_int
    wp_walk using wpAny_loadPart' hl
    repeat (first
      | (refine wpAny_ite_false (decide_eq_false (by rw [c0]; exact Bool.false_ne_true)) ?_; wp_walk using wpAny_loadPart' hl)
      | (refine wpAny_ite_true (decide_eq_true c1) ?_; wp_walk using wpAny_loadPart' hl))
    exact ⟨_, rfl, h⟩
theorem mul_none (l : Addr) (its : Array Value) (n : Nat) (dd : Option Addr) (sl : Array (Option Value)) (x : Int) (u : Tok) (c0 : (decide (x < -(2 ^ 63)) || decide (x ≥ 2 ^ 63)) = false) (c1 : (its.isEmpty || x == 1) = false) (c2 : (decide (x ≤ 0) || its.isEmpty) = true) :
    Meets (Builtin.«tuple.__mul__» ⟨[.ref l, .int x u], []⟩) (fun _ R s => s.heap.get? l = some { cls := .type "tuple", dict := dd, data := .seq its n, slots := sl } ∧ R (.ok (.ret (Value.ref s.heap.objs.size))) { s with heap := s.heap.push (tobj []) }) :=
  .of_wp fun prog w A R s h => by
    obtain ⟨hp, g, d, tk, os⟩ := s
    obtain ⟨hl, h⟩ := h
    have f1 := AutoSeq1.idx_int
    wp_walk using wpAny_loadPart' hl
    repeat (first
      | (refine wpAny_ite_false (decide_eq_false (by rw [c0]; exact Bool.false_ne_true)) ?_; wp_walk using wpAny_loadPart' hl)
      | (refine wpAny_ite_false (decide_eq_false (by rw [c1]; exact Bool.false_ne_true)) ?_; wp_walk using wpAny_loadPart' hl)
      | (refine wpAny_ite_true (decide_eq_true c2) ?_; wp_walk using wpAny_loadPart' hl))
    exact ⟨_, rfl, h⟩
def rRepA (K : PySem.W.Frag) : R2 := fun x y H Q => ∃ l k xs, x = .ref l ∧ y = .int k ∧ SqT K H l xs ∧ k.natAbs ≤ 100000 ∧ xs.length * k.toNat ≤ 100000 ∧
  ((xs = [] ∨ k = 1) → Q (.ref l) H) ∧ (xs ≠ [] → k ≠ 1 → NewT H Q (List.replicate k.toNat xs).flatten)
section
variable {X : Cx} {Φ : Fx}
theorem op_repA : OpR X (binaryOp .Mult) (rRepA X.K) := by
  intro pins s σ H x y v u Q I rx ry h
  obtain ⟨l, k, xs, rfl, rfl, hT, hk, hz, q1, q2⟩ := h
  cases rx
  obtain ⟨t, rfl⟩ := ry
  obtain ⟨its, r, tp, hs⟩ := I.tuple hT
  obtain ⟨⟨cls, dd, data, sl⟩, ho, hc, n, hd⟩ := id tp
  simp only at hc hd
  subst hc hd
  have hle : its.length = xs.length := r.length.symm
  have c0 : (decide (k < -(2 ^ 63)) || decide (k ≥ 2 ^ 63)) = false := by
    rw [decide_eq_false (by omega), decide_eq_false (by omega)] <;> rfl
  have road : ∀ {R : Value → Shared → Prop}, wpAny (model X.prog X.w) X.A.in1 (call (.builtin "tuple.__mul__") [.ref l, .int k t]) R X.xe s → True := fun _ => trivial
  refine wpAny_binaryOp_repeat_ref (T := "tuple") (U := "int") (by decide) ⟨_, ho, rfl⟩ (fun s' => typeIs_int s' k t) noFill_tuple_mul F.fills_int_mul F.slot_int_rmul repeat_tuple F.slot_int_index.lookup
    (call_meets F.slot_int_rmul (typeIs_int s k t) F.entry_int_rmul (F.args_int_rmul_2 _ _) (int_rmul_tuple k t l its.toArray n dd sl) ⟨ho, rfl, ⟨_, ho, rfl⟩, ?_⟩)
  by_cases h1 : (its.toArray.isEmpty || k == 1) = true
  · refine call_meets F.slot_tuple_mul ⟨_, ho, rfl⟩ F.entry_tuple_mul (F.args_tuple_mul_2 _ _) (mul_same l its.toArray n dd sl k t c0 h1) ⟨ho, .ref l, H, I, rfl, q1 ?_⟩
    rcases Bool.or_eq_true_iff.mp h1 with e | e
    · refine .inl (List.eq_nil_of_length_eq_zero ?_)
      rw [← hle]
      have e : its.toArray.size = 0 := by simpa [Array.isEmpty] using e
      simpa using e
    · exact .inr (eq_of_beq e)
  · have c1 := eq_false_of_ne_true h1
    have ne : xs ≠ [] ∧ k ≠ 1 := by
      rw [Bool.or_eq_false_iff] at c1
      refine ⟨fun z => ?_, fun z => ?_⟩
      · subst z
        cases r
        cases c1.1
      · rw [z] at c1
        cases c1.2
    have lpos : 0 < xs.length := List.length_pos_iff.mpr ne.1
    have emp : its.toArray.isEmpty = false := (Bool.or_eq_false_iff.mp c1).1
    by_cases h2 : k ≤ 0
    · have c2 : (decide (k ≤ 0) || its.toArray.isEmpty) = true := by rw [decide_eq_true h2] <;> rfl
      refine call_meets F.slot_tuple_mul ⟨_, ho, rfl⟩ F.entry_tuple_mul (F.args_tuple_mul_2 _ _) (mul_none l its.toArray n dd sl k t c0 c1 c2) ⟨ho, ?_⟩
      have e : (List.replicate k.toNat xs).flatten = [] := by rw [show k.toNat = 0 by omega] <;> rfl
      exact new_tup I .nil (Nat.zero_le _) (by rw [← e]; exact q2 ne.1 ne.2)
    · have c2 : (decide (k ≤ 0) || its.toArray.isEmpty) = false := by rw [decide_eq_false h2, emp] <;> rfl
      have hsz0 : its.toArray.size = xs.length := by rw [List.size_toArray, hle]
      have hkn : ((k.toNat : Nat) : Int) = k := by omega
      have hm : ((its.toArray.size : Nat) : Int) * k ≤ 100000 := by
        rw [hsz0, ← hkn, ← Int.natCast_mul]
        exact Int.ofNat_le.mpr hz
      have flen : (List.replicate k.toNat its).flatten.length ≤ sizeLine := by
        rw [PyProof.Rows.lm_len_rep_flat, hle, Nat.mul_comm]
        exact RpAll.len_line hz
      have c4 : Builtin.Tuple.tupleTooMany (((its.toArray.size : Nat) : Int) * k) = false := by
        unfold Builtin.Tuple.tupleTooMany
        rw [sizeLine_eq]
        exact decide_eq_false (by omega)
      refine call_meets F.slot_tuple_mul ⟨_, ho, rfl⟩ F.entry_tuple_mul (F.args_tuple_mul_2 _ _) (tuple_mulW l its.toArray n dd sl k t c0 c1 c2 (by omega) c4 (by rw [size_rep, List.size_toArray]; exact flen)) ⟨ho, ?_⟩
      rw [size_rep]
      exact new_tup I (r.rep k.toNat) (by rw [PyProof.Rows.lm_len_rep_flat, Nat.mul_comm]; exact RpAll.len_line hz) (q2 ne.1 ne.2)
end
end DL

namespace DL
open PySem PySem.Spec PyProof.Rows L2
def repS (z : Str) (k : Nat) : Str := ⟨(List.replicate k z.cps.toList).flatten.toArray⟩
theorem fold_rep (a : Array Nat) : ∀ (k : Nat) (b : Array Nat), ((List.replicate k a).foldl (fun x y => x ++ y) b).toList = b.toList ++ (List.replicate k a.toList).flatten
  | 0, b => by simp
  | k + 1, b => by
    rw [List.replicate_succ, List.foldl_cons, fold_rep a k, List.replicate_succ, List.flatten_cons, Array.toList_append, List.append_assoc]
theorem repS_eq (z : Str) (k : Nat) : (⟨(List.replicate k z.cps).foldl (· ++ ·) #[]⟩ : Str) = repS z k := by
  unfold repS
  apply congrArg
  apply Array.toList_inj.mp
  rw [fold_rep]
  simp
theorem strOk_rep {z : Str} (h : PyData.strOk z = true) (k : Nat) : PyData.strOk (repS z k) = true := by
  unfold repS
  refine strOk_sub h fun c hc => ?_
  obtain ⟨l, hl, hc⟩ := List.mem_flatten.mp hc
  rw [(List.mem_replicate.mp hl).2] at hc
  exact hc
def rMulS : R2 := fun x y H Q => ∃ (z : Str) (k : Int), x = .str z ∧ y = .int k ∧ k.natAbs ≤ 100000 ∧ z.length * k.toNat ≤ 100000 ∧ Q (.str (repS z k.toNat)) H
theorem op_mulS {X : Cx} : OpR X (binaryOp .Mult) rMulS := by
  intro pins s σ H x y v u Q I rx ry h
  obtain ⟨z, k, rfl, rfl, hk, hz, q⟩ := h
  obtain ⟨t, rfl⟩ := rx
  obtain ⟨t', rfl⟩ := ry
  have c0 : (decide (k < -(2 ^ 63)) || decide (k ≥ 2 ^ 63)) = false := by
    rw [decide_eq_false (by omega), decide_eq_false (by omega)] <;> rfl
  have hkn : ¬ k < 1 → ((k.toNat : Nat) : Int) = k := fun h => by omega
  refine P.mul_str c0 (fun h1 _ => ?_) (fun h1 _ => ?_) ?_
  · have e := hkn h1
    have l := Int.ofNat_le.mpr hz
    rw [Int.natCast_mul, e] at l
    have q2 : (z.length : Int) ≤ (2 ^ 63 - 1) / k := Int.le_ediv_of_mul_le (by omega) (Int.le_trans l (by decide))
    omega
  · unfold Builtin.Str.tooLong
    rw [sizeLine_eq]
    exact decide_eq_false (by omega)
  · by_cases h1 : k < 1
    · rw [if_pos h1]
      have e : repS z k.toNat = Str.empty := by rw [show k.toNat = 0 by omega] <;> rfl
      rw [e] at q
      exact ⟨(by decide), ⟨.str Str.empty, H, I.tok _, ⟨_, rfl⟩, q⟩⟩
    · rw [if_neg h1]
      by_cases h2 : (k == 1 || z.length == 0) = true
      · rw [if_pos h2]
        have e : repS z k.toNat = z := by
          obtain ⟨z⟩ := z
          rcases Bool.or_eq_true_iff.mp h2 with e | e
          · have e := eq_of_beq e
            subst e
            show (⟨(List.replicate 1 z.toList).flatten.toArray⟩ : Str) = ⟨z⟩
            simp
          · have e : z.size = 0 := eq_of_beq e
            have e : z = #[] := Array.eq_empty_of_size_eq_zero e
            subst e
            show (⟨(List.replicate k.toNat []).flatten.toArray⟩ : Str) = ⟨#[]⟩
            simp
        rw [e] at q
        exact ⟨.str z, H, I, ⟨_, rfl⟩, q⟩
      · rw [if_neg h2, repS_eq]
        refine ⟨?_, ⟨.str _, H, I.tok _, ⟨_, rfl⟩, q⟩⟩
        show (List.replicate k.toNat z.cps.toList).flatten.toArray.size ≤ sizeLine
        rw [List.size_toArray, PyProof.Rows.lm_len_rep_flat, Nat.mul_comm, Array.length_toList]
        exact RpAll.len_line hz
def mulD : D → D → Option D
  | .int i, .int j => if (-(2 ^ 64) < i ∧ i < 2 ^ 64) ∨ (-(2 ^ 64) < j ∧ j < 2 ^ 64) then some (.int (i * j)) else none
  | .tuple ds, .int k => if k.natAbs ≤ 100000 ∧ ds.length * k.toNat ≤ 100000 then some (.tuple (List.replicate k.toNat ds).flatten) else none
  | .str z, .int k => if k.natAbs ≤ 100000 ∧ z.length * k.toNat ≤ 100000 then some (.str (repS z k.toNat)) else none
  | _, _ => none
def fMul (x y : DV) : M DV := onD x fun a => onD y fun b => mo ((mulD a b).map .d)
def rMulX (K : PySem.W.Frag) : R2 := fun x y H Q => (rI CMul fun i j => .int (i * j)) x y H Q ∨ rMulS x y H Q ∨ rRepA K x y H Q
theorem rp_rep {K : PySem.W.Frag} {F : Hp} {vs : List V} {ds : List D} (h : RpAll K F vs ds) : ∀ k : Nat, RpAll K F (List.replicate k vs).flatten (List.replicate k ds).flatten
  | 0 => .nil
  | k + 1 => by
    rw [List.replicate_succ, List.replicate_succ, List.flatten_cons, List.flatten_cons]
    exact h.append (rp_rep h k)
section
variable {X : Cx} {Φ : Fx}
theorem ox_mul : OpR X (binaryOp .Mult) (rMulX X.K) := op_mul.or (op_mulS.or op_repA)
theorem of_mul {K : PySem.W.Frag} : Op2 K Φ (rMulX K) fMul := by
  intro F H σ S G x y v u r' G' Q st vx vy e po
  obtain ⟨a, rfl, ra, e⟩ := onD_of vx e
  obtain ⟨b, rfl, rb, e⟩ := onD_of vy e
  obtain ⟨z, ez, rfl, rfl⟩ := mo_of e
  cases rb with
  | int j =>
    cases ra with
    | int i =>
      have ez : (if (-(2 ^ 64) < i ∧ i < 2 ^ 64) ∨ (-(2 ^ 64) < j ∧ j < 2 ^ 64) then some (PyData.int (i * j)) else none).map DV.d = some z := ez
      by_cases h : (-(2 ^ 64) < i ∧ i < 2 ^ 64) ∨ (-(2 ^ 64) < j ∧ j < 2 ^ 64)
      · rw [if_pos h] at ez
        cases ez
        exact .inl ⟨i, j, rfl, rfl, h, po.now st (Rp.int _)⟩
      · rw [if_neg h] at ez
        cases ez
    | str s hs =>
      have ez : (if j.natAbs ≤ 100000 ∧ s.length * j.toNat ≤ 100000 then some (PyData.str (repS s j.toNat)) else none).map DV.d = some z := ez
      by_cases h : j.natAbs ≤ 100000 ∧ s.length * j.toNat ≤ 100000
      · rw [if_pos h] at ez
        cases ez
        exact .inr (.inl ⟨s, j, rfl, rfl, h.1, h.2, po.now st (Rp.str _ (strOk_rep hs _))⟩)
      · rw [if_neg h] at ez
        cases ez
    | @tup p vs ds ha hd =>
      have ez : (if j.natAbs ≤ 100000 ∧ ds.length * j.toNat ≤ 100000 then some (PyData.tuple (List.replicate j.toNat ds).flatten) else none).map DV.d = some z := ez
      by_cases h : j.natAbs ≤ 100000 ∧ ds.length * j.toNat ≤ 100000
      · rw [if_pos h] at ez
        cases ez
        refine .inr (.inr ⟨p, j, vs, rfl, rfl, st.sub.stp ha.sq, h.1, by rw [hd.length]; exact h.2, fun q => ?_, fun _ _ => po.newT st (rp_rep hd _)⟩)
        have e : (List.replicate j.toNat ds).flatten = ds := by
          rcases q with q | q
          · subst q
            cases hd
            simp
          · subst q
            show (List.replicate 1 ds).flatten = ds
            simp
        rw [e] at po
        exact po.now st (Rp.tup ha hd)
      · rw [if_neg h] at ez
        cases ez
    | non => cases ez
    | bl => cases ez
    | lst => cases ez
    | dct => cases ez
  | non => cases ra <;> cases ez
  | bl => cases ra <;> cases ez
  | str => cases ra <;> cases ez
  | lst => cases ra <;> cases ez
  | tup => cases ra <;> cases ez
  | dct => cases ra <;> cases ez
end
end DL

/-! len(set(t)), t a tuple of texts. -/
namespace DL
open PySem PySem.Spec PyProof.Rows L2
/-- how many are met for the first time -/
def dcN (xs : List Str) : Nat → Nat
  | 0 => 0
  | i + 1 => if (xs.take i).any (· == xs.getD i Str.empty) = true then dcN xs i else dcN xs i + 1
theorem dcN_le (xs : List Str) : ∀ i, dcN xs i ≤ i
  | 0 => Nat.le_refl 0
  | i + 1 => by
    have h := dcN_le xs i
    unfold dcN
    split <;> omega
section
variable {prog : Program} {w : World} {A : Around} {R : Result → Shared → Prop} {it : Addr} {fp wr : List Addr} {G : Array GenState → Array GenState → Prop} {n : Nat} {P : Nat → Value → Prop} {St : Nat → Shared → Prop}
theorem set_moved {a : Addr} {K : Str → Bool} {m : Nat} {s s1 : Shared} {ws : List Addr} (h : s.heap.SetOf (PySem.strKind prog w) a K m) (mv : Moved ws G s s1) (ha : a ∉ ws) : s1.heap.SetOf (PySem.strKind prog w) a K m := by
  obtain ⟨o, es, ep, tb, ho, rest⟩ := h
  exact ⟨o, es, ep, tb, mv.heap a _ ha ho, rest⟩
theorem set_take {xs : List Str} {i : Nat} (hi : i < xs.length) (k : Str) : ((xs.take i).any (· == k) || decide (k = xs.getD i Str.empty)) = (xs.take (i + 1)).any (· == k) := by
  have e : xs.getD i Str.empty = xs[i] := by rw [List.getD_eq_getElem?_getD, List.getElem?_eq_getElem hi] <;> rfl
  rw [List.take_add_one, List.getElem?_eq_getElem hi, List.any_append, e]
  by_cases h : k = xs[i]
  · subst h
    simp
  · have q : (xs[i] == k) = false := beq_eq_false_iff_ne.mpr (Ne.symm h)
    simp [h, q]
theorem texts_loop (W : WalksS prog w A.in1 it fp wr G n P St) (a : Addr) (ha : a ∉ fp) (xs : List Str) (hl : xs.length = n) (hn : n ≤ 1000) (hv : ∀ i v, P i v → ∃ t, v = .str (xs.getD i Str.empty) t) :
    ∀ (m i : Nat) (s : Shared), m + i = n → St i s → s.heap.SetOf (PySem.strKind prog w) a (fun k => (xs.take i).any (· == k)) (dcN xs i) →
      (∀ s1, Moved (a :: wr) G s s1 → s1.heap.SetOf (PySem.strKind prog w) a (fun k => (xs.take n).any (· == k)) (dcN xs n) → R (.ok (.ret .none)) s1) → codeAny (model prog w) A (.builtin "set.update.loop" ⟨[.ref a, .ref it], []⟩) R s := by
  have haw : a ∉ wr := fun h => ha (W.sub _ h)
  have more : ∀ b ∈ wr, b ∈ a :: wr := fun b hb => List.mem_cons_of_mem _ hb
  intro m
  induction m with
  | zero =>
    intro i s e hst hS fin
    have e : i = n := by omega
    subst e
    refine codeAny_builtin F.entry_set_update_loop ?_
    rw [Around.under_plainId F.plain_set_update_loop _]
    show wpAny _ A.in1 (pyNext (.ref it) >>= fun r => _) _ _ s
    exact wpAny_bind (W.done s _ _ hst fun s1 mv => wpAny_pure (fin s1 (mv.mono more) (set_moved hS mv haw)))
  | succ m ih =>
    intro i s e hst hS fin
    have lt : i < n := by omega
    have ltx : i < xs.length := by omega
    refine codeAny_builtin F.entry_set_update_loop ?_
    rw [Around.under_plainId F.plain_set_update_loop _]
    show wpAny _ A.in1 (pyNext (.ref it) >>= fun r => _) _ _ s
    refine wpAny_bind (W.item i s _ _ lt hst fun v s1 hP st1 mv => ?_)
    obtain ⟨t, rfl⟩ := hv i v hP
    have S1 := set_moved hS mv haw
    show wpAny _ A.in1 (holding [Value.str (xs.getD i Str.empty) t] (setAdd a (.str (xs.getD i Str.empty) t)) >>= fun r => _) _ _ s1
    refine wpAny_bind (wpAny_holding ?_)
    unfold setAdd
    have few := dcN_le xs i
    refine wpAny_holding (wpAny_bind ((PySem.strKind prog w).pyHash (k := xs.getD i Str.empty) (strKind_is _ _ _ _) ?_))
    refine wpAny_setAddHashed_of (knd := PySem.strKind prog w) (s := { s1 with toks := s1.toks + 1 }) (strKind_is _ _ _ _) rfl S1 (by unfold scanBound; omega) fun h2 sb S2 => ?_
    have S3 : h2.SetOf (PySem.strKind prog w) a (fun k => (xs.take (i + 1)).any (· == k)) (dcN xs (i + 1)) := SetOf_congr S2 (fun k => set_take ltx k) rfl
    have st2 := W.frame (i + 1) s1 h2 (s1.toks + 1) st1 (Nat.le_succ _) fun b hb o e => sb.extBut _ _ (fun q => ha (by rw [← q]; exact hb)) e
    refine wpAny_pure ⟨plainId_quiet F.plain_set_update_loop _, ih (i + 1) _ (by omega) st2 S3 fun s4 mv4 S4 => ?_⟩
    exact fin s4 (Moved.trans W.gtrans ((mv.mono more).then_heap (Nat.le_succ _) fun b o hb e => sb.extBut _ _ (fun q => hb (by rw [q]; exact List.mem_cons_self)) e) mv4) S4
end
section
variable {prog : Program} {w : World} {A : Around} {E : Value → Shared → Prop} {s : Shared}
theorem call_set_texts {l : Addr} {its : Array Value} {xs : List Str} {Q : Value → Shared → Prop} (hh : A.handled = none) (hl : s.heap.IsTuple l its) (hi : StrsAre its.toList xs) (few : xs.length ≤ 1000)
    (h : ∀ (h2 : Heap) (tk : Nat), h2.SetOf (PySem.strKind prog w) s.heap.objs.size (fun k => (xs.take xs.length).any (· == k)) (dcN xs xs.length) → (∀ b o, s.heap.get? b = some o → h2.get? b = some o) → Q (.ref s.heap.objs.size) { s with heap := h2, toks := tk }) :
    wpAny (model prog w) A (call (.type "set") [.ref l]) Q E s := by
  obtain ⟨top, tail, hmro⟩ := PySem.F.called_set.mro
  have made := PySem.F.called_set.made
  have sub := PySem.F.called_set.sub
  refine wpAny_call (codeAny_of_tree ?_)
  show wpAny _ _ (callAny (.type "set") ⟨[.ref l], []⟩) _ _ _
  refine wpAny_pure ⟨Code.quiet_builtin _ (by decide +kernel), codeAny_builtin PySem.F.entry_type_call ?_⟩
  rw [Around.under_plain (weight_type_call_type "set" [.ref l] []) rfl]
  have nt := PySem.F.called_set.notType
  have cc := PySem.F.called_set.canCreate
  have tc := PySem.F.typeCall_set_1 (.ref l)
  repeat (any_goals (first | assumption | wp_step))
  refine codeAny_mono (code_set_new_1 (.ref l) (E := E) (Q₁ := fun ob s1 => ∃ led : Bool, ob = .ref s.heap.objs.size ∧ s1 = { s with heap := s.heap.push { cls := .type "set", dict := none, data := .set #[] 0 (.fresh 0 0 led) } }) fun led => ⟨led, rfl, rfl⟩) fun r s1 hr => ?_
  cases r with
  | error e => exact hr
  | ok fl =>
    cases fl with
    | ret ob =>
      obtain ⟨led, rfl, rfl⟩ := hr
      have at0 : (s.heap.push { cls := .type "set", dict := none, data := .set #[] 0 (.fresh 0 0 led) }).get? s.heap.objs.size = some { cls := .type "set", dict := none, data := .set #[] 0 (.fresh 0 0 led) } := Heap.get?_push_size _ rfl
      have ty0 : Shared.TypeIs { s with heap := s.heap.push { cls := .type "set", dict := none, data := .set #[] 0 (.fresh 0 0 led) } } (.ref s.heap.objs.size) "set" := ⟨_, at0, rfl⟩
      have il := PySem.F.called_set.init.lookup
      have ib := PySem.F.called_set.init.bind (.ref s.heap.objs.size)
      repeat (any_goals (first | assumption | wp_step))
      refine codeAny_mono (codeAny_call_builtin (R := wants (fun r s2 => r = .none ∧ ∃ h2 tk, s2 = { s with heap := h2, toks := tk } ∧ h2.SetOf (PySem.strKind prog w) s.heap.objs.size (fun k => (xs.take xs.length).any (· == k)) (dcN xs xs.length) ∧
          (∀ b o, s.heap.get? b = some o → h2.get? b = some o)) E) PySem.F.called_set.init.plain PySem.F.entry_set_init (check_set_init_1 ty0 ?_)) fun r2 s2 hr2 => ?_
      · obtain ⟨⟨ocls, odict, odata, oslots⟩, hol, hcl, nl, hdl⟩ := hl
        simp only at hcl hdl
        subst hcl
        subst hdl
        have at1 : (s.heap.push { cls := .type "set", dict := none, data := .set #[] 0 (.fresh 0 0 led) }).get? l = some { cls := .type "tuple", dict := odict, data := .seq its nl, slots := oslots } := Heap.get?_push_of_some _ hol
        have hsls := PySem.F.sub_tuple_set
        have hslf := PySem.F.sub_tuple_frozenset
        have hne : (Value.type "tuple" == Value.type "dict") = false := by decide
        have tup1 : (s.heap.push { cls := .type "set", dict := none, data := .set #[] 0 (.fresh 0 0 led) }).IsTuple l its := ⟨_, at1, rfl, nl, rfl⟩
        unfold Builtin.«set.__init__» noKeywords Builtin.Frozenset.updateFrom
        generalize hPI : pyIter = PI
        wp_walk
        subst hPI
        refine wpAny_pyIter_tuple tup1 (wpAny_bind (wpAny_runValue ?_))
        have llt : l < s.heap.objs.size := Heap.lt_size hol
        have hh3 : A.in1.in1.in1.handled = none := by simp [hh]
        have sz1 : (s.heap.push { cls := .type "set", dict := none, data := .set #[] 0 (.fresh 0 0 led) }).objs.size = s.heap.objs.size + 1 := Heap.size_push ..
        have li : l ≠ (s.heap.push { cls := .type "set", dict := none, data := .set #[] 0 (.fresh 0 0 led) }).objs.size := by
          rw [sz1]
          exact Nat.ne_of_lt (Nat.lt_succ_of_lt llt)
        have si : s.heap.objs.size ∉ [(s.heap.push { cls := .type "set", dict := none, data := .set #[] 0 (.fresh 0 0 led) }).objs.size, l] := by
          rw [sz1]
          simp only [List.mem_cons, List.not_mem_nil, or_false, not_or]
          exact ⟨Nat.ne_of_lt (Nat.lt_succ_self _), Nat.ne_of_gt llt⟩
        have hsz : xs.length = its.size := by rw [← StrsAre.len_eq hi, Array.length_toList]
        have hval : ∀ (i : Nat) (v : Value), its[i]? = some v → ∃ t, v = .str (xs.getD i Str.empty) t := fun i v hv => SS.strs_at hi i v (by rw [Array.getElem?_toList]; exact hv)
        refine texts_loop ((Walks.tuple hh3 _ l li its).toS) s.heap.objs.size si xs hsz (by omega) hval its.size 0 _ rfl ⟨⟨_, Heap.get?_push_size _ rfl, rfl, rfl⟩, tup1.push _⟩ ?start ?fin
        case start =>
          have g0 : ((s.heap.push { cls := .type "set", dict := none, data := .set #[] 0 (.fresh 0 0 led) }).push { cls := .type "tuple_iterator", data := .fields #[.ref l, .int 0 0] }).get? s.heap.objs.size = some { cls := .type "set", dict := none, data := .set #[] 0 (.fresh 0 0 led) } := Heap.get?_push_of_some _ at0
          exact SetOf_congr ((setObjOf_fresh (knd := PySem.strKind prog w) led).setOf g0 (by unfold scanBound; omega)) (fun _ => rfl) rfl
        case fin =>
          rintro ⟨h2, g2, d2, tk2, os2⟩ mv S2
          have eg : g2 = s.gens := mv.gens
          have ed : d2 = s.drawn := mv.drawn
          have eo : os2 = s.os := mv.os
          subst eg
          subst ed
          subst eo
          show wpAny _ _ _ _ _ _
          refine wpAny_pure ?_
          show wpAny _ _ (ret Value.none) _ _ _
          rw [← hsz] at S2
          refine wpAny_pure ⟨rfl, h2, tk2, rfl, S2, fun b o e => ?_⟩
          have lt := Heap.lt_size e
          refine mv.heap b o ?_ (Heap.get?_push_of_some _ (Heap.get?_push_of_some _ e))
          rw [sz1]
          simp only [List.mem_cons, List.not_mem_nil, or_false, not_or]
          exact ⟨Nat.ne_of_lt lt, Nat.ne_of_lt (Nat.lt_succ_of_lt lt)⟩
      · cases r2 with
        | error e => exact hr2
        | ok fl2 =>
          cases fl2 with
          | ret r =>
            obtain ⟨rfl, h2, tk, rfl, S2, k2⟩ := hr2
            repeat (any_goals (first | assumption | wp_step))
            exact h _ _ S2 k2
          | _ => exact hr2.elim
    | _ => exact hr.elim
end
section
variable {X : Cx} {Φ : Fx}
def tLenSetT (K : PySem.W.Frag) (ta : TE) : TE := fun σ H Q => ta σ H fun x H1 => ∃ (l : Addr) (xs : List Str), x = .ref l ∧ SqT K H1 l (xs.map V.str) ∧ xs.length ≤ 1000 ∧ Q (.int (dcN xs xs.length : Nat)) H1
theorem pe_lenSetT {a : Expr} {ta : TE} {p p2 q pos : Pos} (hc : X.calm = true) (hg : Gl X "len") (hm : X.mg "len" = none) (hg2 : Gl X "set") (hm2 : X.mg "set" = none) (ha : PE X a ta) (na : starEach [a] X.env = (false, eval a X.env) :: starEach [] X.env := by rfl) :
    PE X (.Call (.Name "len" p) [.Call (.Name "set" p2) [a] [] q] [] pos) (tLenSetT X.K ta) := by
  refine ⟨fun pins s σ H Q I h => Call_ (ld_blt I hg hm boot_len (PyProof.Rows.callWith_builtin1 (PyProof.Rows.args_cons (Call_ (ld_blt I hg2 hm2 boot_set ?_)) rfl) rfl rfl))⟩
  refine PyProof.Rows.callWith_type1 (PyProof.Rows.args_cons (thn (ha.run pins s σ H _ I h) fun v s1 ⟨x, H1, I1, r1, q1⟩ => PyProof.Rows.args_nil ?_) na) na rfl
  obtain ⟨l, xs, rfl, hq, few, q1⟩ := q1
  cases r1
  obtain ⟨its, r, pl, hz⟩ := I1.tuple hq
  refine call_set_texts (I1.ok.hd hc) pl (by simpa using strsAre_of r) few fun h2 tk S2 kp => PyProof.Rows.args_nil ?_
  obtain ⟨o, es, ep, t, ho, hex, hd, _, _, _, hf, hn⟩ := S2
  have I2 : L2.Inv X pins σ H1 { s1 with heap := h2, toks := tk } := I1.kept kp
  have le := dcN_le xs xs.length
  exact call_len_set ho hex hd hf (by rw [hn] <;> omega) ⟨.int _, H1, I2.tok _, ⟨_, by rw [hn]⟩, q1⟩
def fLenSet (x : DV) : M DV := onT x fun ds => mb (mo (toSs ds)) fun xs => gd (xs.length ≤ 1000) (mp (.d (.int (dcN xs xs.length : Nat))))
theorem de_lenSet {a : Expr} {c : SS → M DV} {p p2 q pos : Pos} (hc : X.calm = true) (hm : X.mg "len" = none) (hm2 : X.mg "set" = none) (ha : PE X a (tD X.K Φ c)) (hg : Gl X "len" := by rfl) (hg2 : Gl X "set" := by rfl) (na : starEach [a] X.env = (false, eval a X.env) :: starEach [] X.env := by rfl) :
    PE X (.Call (.Name "len" p) [.Call (.Name "set" p2) [a] [] q] [] pos) (tD X.K Φ (cUn fLenSet c)) :=
  pe_imp (pe_lenSetT hc hg hm hg2 hm2 ha na) fun σ H Q ⟨F, S, G, r, G', st, e, po⟩ => by
    refine tX_run c st e po fun F1 H1 G1 x v st1 s1 vx e1 po1 => ?_
    have e1 : onT x (fun ds => mb (mo (toSs ds)) fun xs => gd (xs.length ≤ 1000) (mp (.d (.int (dcN xs xs.length : Nat))))) G1 = some (r, G') := e1
    obtain ⟨ds, l, vs, rfl, rfl, ht, ra, e2⟩ := onT_of vx e1
    obtain ⟨xs, ex, e3⟩ := mb_mo_of e2
    obtain ⟨few, e4⟩ := gd_of e3
    cases e4
    rw [toSs_eq ex] at ra
    obtain ⟨ev, _⟩ := rp_ss ra
    rw [ev] at ht
    exact ⟨l, xs, rfl, st1.sub.stp ht.sq, few, po1.now st1 (Rp.int _)⟩
end
end DL

/-! try: .. except C as error: found = error. The error is known behind it. -/
namespace DL
open PySem PySem.Spec PyProof.Rows L2
/-- a caught error of the class cls -/
def ErrO (cls : Value) (d : Option Addr) (a : Addr) : HO := .ext fun h => ∃ (oe : Obj) (vs : Array Value), h.get? a = some oe ∧ Zc cls d oe ∧ oe.data = .fields vs
theorem errO_ok {P : Program} {w : World} {H : Hp} {h : Heap} {a : Addr} {cls : Value} {d : Option Addr} {oe : Obj} {vs : Array Value} (e : h.get? a = some oe) (z : Zc cls d oe) (f : oe.data = .fields vs) : ObjOk P w H h a (ErrO cls d a) :=
  ⟨⟨oe, vs, e, z, f⟩, ⟨oe, e⟩, fun h1 h2 ⟨oe, vs, q1, q2, q3⟩ k => ⟨oe, vs, k _ q1, q2, q3⟩⟩
section
variable {X : Cx} {pins : List (Addr × Obj)} {σ : L2.St} {H : Hp} {s : Shared}
/-- an object that was pinned is known from now on -/
theorem known {a : Addr} {oe : Obj} {o : HO} (I : Inv X ((a, oe) :: pins) σ H s) (n0 : X.s_0.heap.get? a = none) (np : ∀ p ∈ X.pn ++ pins, p.1 ≠ a) (new : ObjOk X.prog X.w (upd H a o) s.heap a o) : Inv X pins σ (upd H a o) s := by
  have pa : (a, oe) ∈ X.pn ++ (a, oe) :: pins := List.mem_append_right _ (List.mem_cons_self ..)
  obtain ⟨ea, na, nl, nf, nc⟩ := I.pin _ pa
  have na : H a = none := na
  have up : ∀ b u, H b = some u → upd H a o b = some u := fun b u e => by
    rw [upd_ne (ne_of_none e na)]
    exact e
  have none_ : ∀ b, b ≠ a → H b = none → upd H a o b = none := fun b hb e => by
    rw [upd_ne hb]
    exact e
  refine ⟨I.ok, I.os, I.bare, ⟨I.base.keep, I.base.slot, fun b u e n hx => none_ b (fun z => ?_) (I.base.free b u e n hx), I.base.there, fun b xs q => up _ _ (I.base.tups b xs q), fun b u v q => up _ _ (I.base.frzs b u v q), fun b ps q => ?_⟩, I.loc, I.cell, none_ _ (Ne.symm nl) I.free, fun x c e => none_ c (fun z => ?_) (I.freeC x c e), fun p hp => ?_, fun b u e => ?_, I.len⟩
  · rw [z, n0] at e
    cases e
  · obtain ⟨m, q2⟩ := I.base.tbls b ps q
    exact ⟨m, up _ _ q2⟩
  · subst z
    obtain ⟨v, ob, ho, hd⟩ := I.cell x c e
    rw [ea] at ho
    cases ho
    exact nc v hd
  · have hp2 : p ∈ X.pn ++ (a, oe) :: pins := by
      rcases List.mem_append.mp hp with q | q
      · exact List.mem_append_left _ q
      · exact List.mem_append_right _ (List.mem_cons_of_mem _ q)
    obtain ⟨q1, q2, q3⟩ := I.pin p hp2
    exact ⟨q1, none_ _ (np p hp) q2, q3⟩
  · by_cases hb : b = a
    · subst hb
      rw [upd_same] at e
      cases e
      exact new
    · rw [upd_ne hb] at e
      exact (I.hok b u e).stay (fun _ _ _ q => q) (fun c q => up _ _ q) fun c xs q => up _ _ q
end
/-- what the clause wishes of an exception of the body: slot i is the clause's own name, slot j takes the error -/
def wKeep (K : PySem.W.Frag) (c : Value) (i j m : Nat) (Wout : WX) (D : Ends) : WX := fun cls d σ H =>
  ∃ b, PySem.W.exmOne K cls c = some b ∧ (b = true → σ.length = m → ∀ a, H a = none → D.nx (((σ.set i (some (.ref a))).set j (some (.ref a))).set i none) (upd H a (ErrO cls d a))) ∧ (b = false → Wout cls d σ H)
section
variable {X : Cx} {x n y : Str} {c : Value} {i j : Nat} {body : List Stmt} {np pos pos' p1 p2 p3 : Pos} {tb : WX → TS} {Wout : WX}
theorem ps_try_keep (hs : X.stack = X.env :: X.outer) (hf : X.env.frame = some X.env.locals) (hex : X.ex = []) (hN : X.N.Nodup) (hi : X.N[i]? = some n) (hln : X.env.kindOf n = some .local) (hj : X.N[j]? = some y) (hlj : X.env.kindOf y = some .local) (hil : i < X.N.length) (hd : (n == ("__debug__" : Str)) = false) (hcd : (n == ("__classdict__" : Str)) = false) (hc : Names X x c) (tk : Takes X Wout)
    (hb : ∀ (W : WX) (pn : List (Addr × Obj)) (xe : Value → Shared → Prop), Takes (X.tr pn xe) W → PassesOwn (model X.prog X.w) X.A X.env xe → PSs (X.tr pn xe) body (tb W)) :
    PS X (.Try body [.ExceptHandler (some (.Name x np)) (some n) [.Assign [.Name y p1] (.Name n p2) p3] pos'] [] [] pos) (fun D σ H => tb (wKeep X.K c i j X.N.length Wout D) D σ H) := by
  refine ⟨fun pins s σ H D I h => ?_⟩
  have ok := I.ok
  have fr : X.A.frames = some (X.env :: X.outer) := by rw [ok.frames, hs]
  refine wpAny_Try_except (wpAny_mono ((hb (wKeep X.K c i j X.N.length Wout D) (X.pn ++ pins) (fun e s1 => wpAny (model X.prog X.w) X.A (noteFrame e X.env) (fun _ s2 => wpAny (model X.prog X.w) X.A (setFlight e none)
    (fun _ s3 => wpAny (model X.prog X.w) X.A (handleBy e X.env [.ExceptHandler (some (.Name x np)) (some n) [.Assign [.Name y p1] (.Name n p2) p3] pos']) (SP X pins D) X.xe s3) X.xe s2) X.xe s1) (fun u s' xx => ?_) PassesOwn.looking).run [] s σ H D (I.toTry _) h) (fun f s1 hsp => ?_) (fun e s1 he => he))
  · obtain ⟨a, B, sI, pins1, σ1, H1, cls, d, rfl, J0, nb, up, sky, na, os, ag, b, hb1, yes, no⟩ := xx
    have J : Inv X pins σ1 H1 sI := J0.ofTry ok
    have sky1 : Sky B (X.env :: X.outer) a (Zc cls d) X.env.locals s'.heap := by
      rw [← hs]
      exact sky
    refine Sky.land Zc.steady fr hf sky1 fun h3 fl3 up3 => ?_
    have J3 : Inv X pins σ1 H1 { s' with heap := h3 } := J.landed nb fl3.1 (up.trans up3) os ag
    obtain ⟨oe3, vs3, he3, hz3, hd3⟩ := fl3.there
    have out : ∀ {h : Heap} {o : Obj} {vs : Array Value}, h.FunFrames B (X.env :: X.outer) → h.get? a = some o → o.data = .fields vs → a ∉ frs (X.env :: X.outer) := fun {h o vs} ff e dd hm => by
      obtain ⟨_, o', e', hnf⟩ := ff.mem hm
      rw [e] at e'
      cases e'
      exact hnf _ dd
    have nfr := out fl3.2.2.1 he3 hd3
    have nL : a ≠ X.env.locals := fun z => nfr (List.mem_filterMap.mpr ⟨X.env, List.mem_cons_self, by rw [hf, z]⟩)
    have nF : a ∉ X.fs := fun hm => by
      obtain ⟨e, he, q⟩ := List.mem_filterMap.mp hm
      exact nfr (List.mem_filterMap.mpr ⟨e, List.mem_cons_of_mem _ he, q⟩)
    -- the error is new
    have aB : B.get? a = none := fl3.2.1
    have aI : sI.heap.get? a = none := by
      cases e : sI.heap.get? a with
      | none => rfl
      | some o =>
        rw [nb a o e (by rw [hs]; exact nfr)] at aB
        cases aB
    have a0 : X.s_0.heap.get? a = none := by
      cases e : X.s_0.heap.get? a with
      | none => rfl
      | some o =>
        obtain ⟨o', e'⟩ := J.base.there a o e (by rw [hex]; exact fun z => nomatch z)
        rw [aI] at e'
        cases e'
    have ap : ∀ p ∈ X.pn ++ pins, p.1 ≠ a := fun p hp z => by
      have q := (J.pin p hp).1
      rw [z, aI] at q
      cases q
    have S3 := J3.suite he3 hd3 na nL nF
    refine wpAny_handleBy_cons (codeAny_handlers_test ?_) (by intro q; cases q)
    have LT : PySem.W.Looks (model X.prog X.w) h3 (typeOf (.ref a)) cls := fun A Q E s k q => wpAny_typeOf_ref (k _ _ he3) (by rw [hz3.1]; exact q)
    have LM := PySem.W.exm_one (M := model X.prog X.w) (J3.kIn) LT hb1
    have ask : ∀ {Q : Value → Shared → Prop} {E : Value → Shared → Prop}, Q c { s' with heap := h3 } → wpAny (model X.prog X.w) (X.A.mark (some (.ref a))) (eval (.Name x np) X.env) Q E { s' with heap := h3 } := fun {Q E} q => by
      obtain ⟨hg, hdbg, hm | ⟨hm, hv, hnn⟩⟩ := hc
      · exact ld_glob (X := X.suite a ((a, oe3) :: (X.pn ++ pins))) S3 hg hm q hdbg
      · exact ld_blt (X := X.suite a ((a, oe3) :: (X.pn ++ pins))) S3 hg hm hv q hnn hdbg
    refine ask (LM.here ?_)
    cases b with
    | true =>
      refine codeAny_handlers_suite_as (HandSPX.lands_againZ fl3 fun h4 fl4 up4 => ?_)
      have J4 : Inv X pins σ1 H1 { s' with heap := h4 } := J.landed nb fl4.1 ((up.trans up3).trans up4) os ag
      obtain ⟨oe4, vs4, he4, hz4, hd4⟩ := fl4.there
      have S4 := J4.suite he4 hd4 na nL nF
      refine store_ok (X := X.suite a ((a, oe4) :: (X.pn ++ pins))) (v := .ref a) S4 hN hi (.inl hln) rfl (fun s5 S5 => ?_) (.inr hln)
      have st0 : PS (X.suite a ((a, oe4) :: (X.pn ++ pins))) (.Assign [.Name y p1] (.Name n p2) p3) _ := ps_set (i := j) hN hj (Or.inl hlj) (pe_var (i := i) hi (Or.inl hln) hd hcd) (hf := .inr hlj)
      have st := pss_one st0
      refine wpAny_mono (st.run [] s5 _ H1 ⟨fun σ6 H6 => σ6 = (σ1.set i (some (.ref a))).set j (some (.ref a)) ∧ H6 = H1, fun _ _ => False, fun _ _ => False, fun _ _ => False⟩ S5 ?_) (fun f s6 hsp => ?_) (fun _ _ z => False.elim z)
      · exact ⟨.ref a, List.getElem?_set_self (by rw [J.len]; exact hil), rfl, rfl⟩
      · cases f with
        | next =>
          obtain ⟨σ6, H6, S6, rfl, rfl⟩ := hsp
          have J6 : Inv X ((a, oe4) :: pins) ((σ1.set i (some (.ref a))).set j (some (.ref a))) H6 s6 := ⟨ok, S6.os, S6.bare, S6.base, S6.loc, S6.cell, S6.free, S6.freeC, fun p hp => S6.pin p (by
            rcases List.mem_append.mp hp with q | q
            · exact List.mem_append_left _ (List.mem_cons_of_mem _ (List.mem_append_left _ q))
            · rcases List.mem_cons.mp q with q | q
              · exact List.mem_append_left _ (by rw [q]; exact List.mem_cons_self ..)
              · exact List.mem_append_left _ (List.mem_cons_of_mem _ (List.mem_append_right _ q))), S6.hok, S6.len⟩
          refine gone_ok J6 hN hi hln fun s7 J7 => ?_
          obtain ⟨e7, _⟩ := J7.pin (a, oe4) (List.mem_append_right _ (List.mem_cons_self ..))
          exact ⟨_, _, known J7 a0 ap (errO_ok e7 hz4 hd4), yes rfl J.len a na⟩
        | brk =>
          obtain ⟨_, _, _, q⟩ := hsp
          exact False.elim q
        | cont =>
          obtain ⟨_, _, _, q⟩ := hsp
          exact False.elim q
        | ret u =>
          obtain ⟨_, _, _, _, _, q⟩ := hsp
          exact False.elim q
    | false =>
      refine wpAny_handleBy_nil ?_
      obtain ⟨k1, k2, k3, oe, vs, T, oT, ts', he, hz, hd, h1, hr⟩ := id fl3
      unfold PySem.passOn
      refine wpAny_bind (wpAny_field he hd h1 ?_)
      rw [if_neg (by simp : ¬ ((Value.ref T == Value.none) = true))]
      have fin : wpAny (model X.prog X.w) X.A (setFlight (.ref a) X.env.frame) (fun _ s4 => wpAny (model X.prog X.w) X.A (throw (.ref a) : Sem Flow) (SP X pins D) X.xe s4) X.xe { s' with heap := h3 } := by
        rw [hf]
        exact HandSPX.setFlight_upZ fl3 fun h4 hh4 up4 => wpAny_throw (tk _ _ ⟨a, B, sI, pins, σ1, H1, cls, d, rfl, J, nb, (up.trans up3).trans up4, .inr (.inr (by rw [hs]; exact hh4)), na, os, ag, no rfl⟩)
      first | exact wpAny_bind (wpAny_pure (wpAny_bind fin)) | exact wpAny_bind fin
  · cases f with
    | next =>
      obtain ⟨σ2, H2, J2, q⟩ := hsp
      exact wpAny_execs_nil ⟨σ2, H2, J2.ofTry ok, q⟩
    | brk =>
      obtain ⟨σ2, H2, J2, q⟩ := hsp
      exact ⟨σ2, H2, J2.ofTry ok, q⟩
    | cont =>
      obtain ⟨σ2, H2, J2, q⟩ := hsp
      exact ⟨σ2, H2, J2.ofTry ok, q⟩
    | ret u =>
      obtain ⟨v, σ2, H2, J2, r, q⟩ := hsp
      exact ⟨v, σ2, H2, J2.ofTry ok, r, q⟩
end
end DL

/-! caught(lambda: ..): the error that came, or None. -/
namespace DL
open PySem PySem.Spec PyProof.Rows L2 LamX
section
variable {X : Cx}
/-- found = None; try: a() except e as n: found = n; return found -/
def TTcaught (K : PySem.W.Frag) (CS : Addr) : (XK → Hp → VK → Prop) → Hp → VK → Prop := fun tl H Q =>
  tl (fun cls d H' => ∃ b, PySem.W.exmOne K cls (.ref CS) = some b ∧ (b = true → ∀ a, H' a = none → Q (.ref a) (upd H' a (ErrO cls d a))) ∧ (b = false → False)) H (fun _ H' => ∃ v, (some (some V.non) : Option (Option V)) = some (some v) ∧ Q v H')
theorem caught_gives {Ng : List Str} {x a e n y q : Str} {sg : Scope} {g CS : Addr} {cdg : Value} {j : Nat} {q1 q2 q3 p1 p2 p3 p4 p5 p6 p7 p8 p9 r1 r2 : Pos} (hN : Ng.Nodup) (n0 : Ng[0]? = some a) (n1 : Ng[1]? = some y) (n2 : Ng[2]? = some n) (nl : Ng.length = 3) (ky : sg.names.lookup y = some .local) (kn : sg.names.lookup n = some .local)
    (hge : sg.names.lookup e = some .globalImplicit) (hme : X.mg e = some (.ref CS)) (hde : (e == ("__debug__" : Str)) = false) (hdy : (y == ("__debug__" : Str)) = false) (hcy : (y == ("__classdict__" : Str)) = false) (hdn : (n == ("__debug__" : Str)) = false) (hcn : (n == ("__classdict__" : Str)) = false) :
    GivesTo X Ng x sg g cdg [.Assign [.Name y q1] (.Constant .none j q2) q3, .Try [.Expr (.Call (.Name a p1) [] [] p2) p3] [.ExceptHandler (some (.Name e p4)) (some n) [.Assign [.Name y p5] (.Name n p6) p7] p8] [] [] p9, .Return (some (.Name y r1)) r2] a q (TTcaught X.K CS) := by
  intro f c' s H Q tl act hc h
  have hgl : Gl (cxOf C8.CX0 X.prog X.w X.K X.mg X.base Ng x sg g cdg X.A X.stack s H C8.E0).nox e := hge
  have b0 : L2.start Ng [V.ref f] = [some (.ref f), none, none] := by
    unfold L2.start
    rw [nl]
    rfl
  have stA : PS (cxOf C8.CX0 X.prog X.w X.K X.mg X.base Ng x sg g cdg X.A X.stack s H C8.E0).nox (.Assign [.Name y q1] (.Constant .none j q2) q3) _ := ps_set (i := 1) hN n1 (Or.inl ky) pe_non (hf := .inr ky)
  have stR : PE (cxOf C8.CX0 X.prog X.w X.K X.mg X.base Ng x sg g cdg X.A X.stack s H C8.E0).nox (.Name y r1) _ := pe_var (i := 1) n1 (Or.inl ky) hdy hcy
  refine ⟨_, pss_cons stA (pss_cons (ps_try_keep (X := (cxOf C8.CX0 X.prog X.w X.K X.mg X.base Ng x sg g cdg X.A X.stack s H C8.E0).nox) (c := .ref CS) (i := 2) (j := 1)
      (tb := fun W D σ H => ∃ Ech : XK, (∀ cls d σ' H', Ech cls d H' → W cls d σ' H') ∧ σ = [some (.ref f), some .non, none] ∧ H c' = some (CodeO c' q) ∧ tl Ech H (fun _ H' => D.nx σ H'))
      rfl rfl rfl hN n2 kn n1 ky (by rw [show ((cxOf C8.CX0 X.prog X.w X.K X.mg X.base Ng x sg g cdg X.A X.stack s H C8.E0).nox).N = Ng from rfl, nl]; decide) hdn hcn ⟨hgl, hde, .inl hme⟩ L2.takes0 (fun W pn xe tk _ => ?_)) (pss_one (ps_ret stR))), ?_⟩
  · refine ⟨fun pins s' σ H' D I h' => ?_⟩
    obtain ⟨Ech, hW, h1, h2, h3⟩ := h'
    subst h1
    have hp := act W pn xe Ech p1 p2 tk hW
    have hq := pss_one (ps_expr (pos := p3) hp)
    exact hq.run pins s' _ H' D I ⟨rfl, h2, h3⟩
  · rw [b0]
    refine ⟨fun cls d H' => ∃ b, PySem.W.exmOne X.K cls (.ref CS) = some b ∧ (b = true → ∀ a, H' a = none → Q (.ref a) (upd H' a (ErrO cls d a))) ∧ (b = false → False), fun cls d σ' H' hE => ?_, rfl, hc, h⟩
    obtain ⟨b, e1, e2, e3⟩ := hE
    refine ⟨b, e1, fun hb hl a na => ?_, fun hb => e3 hb⟩
    have hl : σ'.length = 3 := hl.trans nl
    refine ⟨.ref a, ?_, e2 hb a na⟩
    rw [List.getElem?_set_ne (by decide), List.getElem?_set_self (by rw [List.length_set, hl]; decide)]
end
end DL

/-! isinstance of an error that is known; caught(lambda: ..) over data. -/
namespace DL
open PySem PySem.Spec PyProof.Rows L2 LamX
def rIsErr (K : PySem.W.Frag) : List V → Hp → VK → Prop := fun xs H Q => ∃ (a D C : Addr) (b : Bool), xs = [.ref a, .ref C] ∧ H a = some (ErrO (.ref D) none a) ∧ ExcC K D ∧ PySem.W.kitOne K (.ref D) (.ref C) = some b ∧ Q (.bl b) H
theorem call_isErr {X : Cx} : CallR X (.builtin "isinstance") (rIsErr X.K) := by
  intro pins s σ H xs us Q I r h
  obtain ⟨a, D, C, b, rfl, ha, EC, e, q⟩ := h
  obtain ⟨u, u2, rfl, r1, r2⟩ := vals2 r
  cases r1
  cases r2
  obtain ⟨oe, vs, hget, ⟨h1, h2⟩, hv⟩ := (show ObjOk X.prog X.w H s.heap a (ErrO (.ref D) none a) from I.hok a _ ha).1
  have J : PySem.W.InstAt s.heap a oe D none := by
    obtain ⟨oc, od, oda, osl⟩ := oe
    dsimp only at h1 h2 hv
    subst h1 h2 hv
    exact ⟨hget, rfl, rfl, trivial⟩
  exact PySem.W.kia_one (PySem.W.handS_kitx_exc EC.hg EC.hk EC.hs EC.hd EC.ha EC.hn EC.ht EC.hm) I.kIn J e (fun z => nomatch z) fun tk => ⟨.bl b, H, I.kept (t' := tk) fun _ _ z => z, rfl, q⟩
/-- the classes of errors: where they stand, what is one of what -/
structure Errs (K : PySem.W.Frag) (gb : Gb) (errs : List Str) : Prop where
  eo : ∀ e a, gb.eo e a = ErrO (.ref (gb.ca e.cls)) none a
  ok : ∀ s ∈ errs, ExcC K (gb.ca s)
def fIsE (errs : List Str) (is : Str → Bool) (x : DV) : M DV := match x with
  | .ex e => gd (e.cls ∈ errs) (mp (.d (.bool (is e.cls))))
  | _ => mz
section
variable {X : Cx} {Φ : Fx}
theorem de_isE {errs : List Str} {is : Str → Bool} {e : Expr} {c : SS → M DV} {n : Str} {C : Addr} {p p2 pos : Pos} (EE : Errs X.K Φ.gb errs) (hk : ∀ s ∈ errs, PySem.W.kitOne X.K (.ref (Φ.gb.ca s)) (.ref C) = some (is s)) (he : PE X e (tD X.K Φ c)) (hm : X.mg "isinstance" = none) (hmC : X.mg n = some (.ref C))
    (hg : Gl X "isinstance" := by rfl) (hgC : Gl X n := by rfl) (hdb : (n == ("__debug__" : Str)) = false := by decide) (hs1 : starEach [e, .Name n p2] X.env = (false, eval e X.env) :: starEach [.Name n p2] X.env := by rfl) (hs2 : starEach [.Name n p2] X.env = (false, eval (.Name n p2) X.env) :: starEach [] X.env := by rfl)
    (hpl : (backTo pos (starEach [.Name n p2] X.env)).any (·.1) = false := by rfl) : PE X (.Call (.Name "isinstance" p) [e, .Name n p2] [] pos) (tD X.K Φ (cUn (fIsE errs is) c)) := by
  refine pe_imp (pe_callB call_isErr hg hm (by decide +kernel) (pa_cons he (pa_cons (pe_glob (v := .ref C) hgC hmC rfl hdb) pa_nil hs2) hs1) (by decide) (by decide) hs1 hpl) fun σ H Q h => ?_
  obtain ⟨F, S, G, r, G', st, e, po⟩ := h
  refine tX_run c st e po fun F1 H1 G1 x v st1 s1 vx e1 po1 => ?_
  cases x with
  | ex er =>
    have e1 : gd (er.cls ∈ errs) (mp (DV.d (.bool (is er.cls)))) G1 = some (r, G') := e1
    obtain ⟨hm, e2⟩ := gd_of e1
    cases e2
    obtain ⟨a, rfl, ha⟩ := vx
    have ha : F1 a = some (Φ.gb.eo er a) := ha
    rw [EE.eo] at ha
    exact ⟨a, Φ.gb.ca er.cls, C, is er.cls, rfl, st1.sub _ _ ha, EE.ok _ hm, hk _ hm, po1.now st1 (Rp.bl _)⟩
  | d => cases e1
  | vl => cases e1
  | sc => cases e1
  | dr => cases e1
  | fn => cases e1

/-! ### caught(lambda: ..) -/
/-- the error that came, or None -/
def cCaught (errs : List Str) (c : SS → M DV) (S : SS) : M DV := fun G => match c S G with
  | some (.ok _, G1) => some (.ok (.d .none), G1)
  | some (.er e, G1) => if e.fs = [] ∧ e.cls ∈ errs then some (.ok (.ex e), G1) else none
  | none => none
/-- the wishes of errors are others -/
theorem VR.reE {K : PySem.W.Frag} {F H : Hp} {v : V} {E : XK} : ∀ {x : DV}, VR K Φ F H v x → VR K { Φ with E := E } F H v x
  | .d _, h => h
  | .vl _, ⟨a, vs, e, o, r⟩ => ⟨a, vs, e, ⟨o.at_, o.nf, o.ne, o.n0⟩, r⟩
  | .dr, h => h
  | .sc _, h => h
  | .fn _, h => h
  | .ex _, h => h
theorem St.reE {K : PySem.W.Frag} {F H : Hp} {σ : L2.St} {S : SS} {G : DG} {E : XK} (h : St K Φ F H σ S G) : St K { Φ with E := E } F H σ S G :=
  ⟨h.ok, h.sub, h.noex, h.f0, h.new, h.pres, h.nt, h.w, h.len, fun i x e => let ⟨v, e1, r⟩ := h.at_ i x e; ⟨v, e1, r.reE⟩, h.dist⟩
theorem Step.unE {F H F' H' : Hp} {E : XK} (h : Step { Φ with E := E } F H F' H') : Step Φ F H F' H' := ⟨h.up, h.sub, h.noex, h.new, h.pres, h.nt⟩
/-- the family's hold on the tables of code objects -/
structure TabW (m : Fam) (T : List (Addr × Str)) : Prop where
  tabs : ∀ H G, m.W H G → Tabs T H
  keep : ∀ H H1 G, m.W H G → ExtN H H1 → Tabs T H1 → m.W H1 G
theorem de_caught {T : List (Addr × Str)} {x a : Str} {g cc P CS : Addr} {k : Nat} {pg : Arguments} {bg : List Stmt} {sg : Scope} {dV kV doc pm cdv ct oc : Value} {an od : Option Addr} {osl : Array (Option Value)} {Ng : List Str} {params : Arguments} {body : Expr} {scope : Scope} {cb : SS → M DV} {errs : List Str} {p lpos pos : Pos}
    (EE : Errs X.K Φ.gb errs) (hex : ∀ s ∈ errs, PySem.W.exmOne X.K (.ref (Φ.gb.ca s)) (.ref CS) = some true) (TW : TabW Φ.m T)
    (hm : X.mg x = some (.ref g)) (hk : PySem.W.keepIn X.K (.ref g) = true) (lk : X.K.lookup g = some ⟨oc, od, .func (PySem.W.fnOf x x pg bg sg dV kV doc pm an cdv ct), osl⟩) (hcg : PySem.W.codeIn X.K cdv x = true) (hb : L2.Binds X.K (PySem.W.fnOf x x pg bg sg dV kV doc pm an cdv ct) [a] []) (Sg : FnScope Ng [a] sg) (hNg : Ng[0]? = some a) (hva : Vis sg a)
    (hG : GivesTo X Ng x sg g cdv bg a (X.env.qual ++ "<lambda>") (TTcaught X.K CS)) (TB : TabB X.base X.mg cc P) (hcode : X.env.code = .ref cc) (hmT : (P, X.env.qual ++ "<lambda>") ∈ T) (hu : ∀ p ∈ T, p.1 = P → p.2 = X.env.qual ++ "<lambda>") (hr : Room (k + 2) X.A) (L : LamS X.env.scope scope)
    (hdef : defaultsOf params X.env = ([], [])) (hbind : ∀ (q : Str) (cl : List (Str × Addr)) (pm cv ctv : Value), bindArgs (PySem.W.kla_fn "<lambda>" q params body scope cl pm cv ctv) ⟨[], []⟩ = pure [])
    (hbody : ∀ (A : Around) (outer : List Env) (s : Shared) (H : Hp) (E : XK) (f c' : Addr), Room k (A.deeper (lamEnv X scope s.heap.objs.size f c')) → PE (lamCx X A outer s H E scope f c') body (tD X.K { Φ with E := E } cb))
    (hg : Gl X x := by rfl) (hdb : (x == ("__debug__" : Str)) = false := by decide) (hd : (a == ("__debug__" : Str)) = false := by decide) (hcd : (a == ("__classdict__" : Str)) = false := by decide) :
    PE X (.Call (.Name x p) [.Lambda params body scope lpos] [] pos) (tD X.K Φ (cCaught errs cb)) :=
  pe_imp (pe_lamcall (t := fun E => tD X.K { Φ with E := E } cb) hg hm hk lk hcg hb Sg hNg hva hG TB hcode hmT hu hr L hdef hbind hbody hdb hd hcd) fun σ H Q ⟨F, S, G, r, G', st, e, po⟩ => by
    have e : (match cb S G with | some (.ok _, G1) => some (.ok (.d .none), G1) | some (.er e, G1) => if e.fs = [] ∧ e.cls ∈ errs then some (.ok (.ex e), G1) else none | none => none) = some (r, G') := e
    cases hc : cb S G with
    | none =>
      rw [hc] at e
      cases e
    | some pr =>
      obtain ⟨q, G1⟩ := pr
      rw [hc] at e
      refine ⟨TW.tabs H G st.w, fun H1 eN T1 => ?_⟩
      have sb : Sub F H1 := fun b o q => eN b o (st.sub b o q) fun ps z => st.nt b ps (by rw [q, z])
      have s1 : Step Φ F H F H1 := ⟨.refl F, sb, st.noex, fun _ _ e => .inl e, fun b o e m _ => eN b o e (fun ps z => Bool.false_ne_true ((show isMu o = false by rw [z]; rfl).symm.trans m)), id⟩
      have st1 := st.step s1 (TW.keep H H1 G st.w eN T1)
      refine ⟨F, S, G, q, G1, st1.reE, hc, fun F' H' s' w' => ?_⟩
      have s2 := s1.trans s'.unE
      cases q with
      | ok x =>
        cases e
        exact fun v _ => ⟨.non, rfl, po F' H' s2 w' .non .non⟩
      | er er =>
        by_cases h : er.fs = [] ∧ er.cls ∈ errs
        · have e : (if er.fs = [] ∧ er.cls ∈ errs then some (Rs.ok (DV.ex er), G1) else none) = some (r, G') := e
          rw [if_pos h] at e
          cases e
          refine ⟨h.1, true, hex _ h.2, fun _ a na => ?_, fun z => nomatch z⟩
          have st2 := st.step s2 w'
          have l := st2.lay (o := ErrO (.ref (Φ.gb.ca er.cls)) none a) na (fun _ z => nomatch z)
          refine po _ _ (s2.trans l) (st2.ok.wm _ _ _ _ na (fun _ z => nomatch z) w') (.ref a) ⟨a, rfl, ?_⟩
          show upd F' a _ a = some (Φ.gb.eo er a)
          rw [upd_same, EE.eo]
        · have e : (if er.fs = [] ∧ er.cls ∈ errs then some (Rs.ok (DV.ex er), G1) else none) = some (r, G') := e
          rw [if_neg h] at e
          cases e
end
end DL

/-! calls: of a def that a slot holds; by names alone. -/
namespace DL
open PySem PySem.Spec PyProof.Rows L2
/-- f(k = v, ..): how the names bind -/
structure KwB (K : PySem.W.Frag) (fd : FuncData) (ps ks : List Str) (perm : List Nat) : Prop where
  to : ∀ (s : Shared) (ws : List Value), K.In s.heap → ws.length = ks.length → BindsTo s fd ⟨[], ks.zip ws⟩ (ps.zip (perm.map fun j => ws.getD j .none))
theorem kw_of {K : PySem.W.Frag} {x qual : Str} {st : Stmt} {f : Addr} {fd : FuncData} {ps ks : List Str} {perm : List Nat} (F : Fun K x qual st f fd)
    (h : ∀ (kV doc pm : Value) (an : Option Addr) (cdv ct : Value) (ws : List Value), ws.length = ks.length → bindArgs (PySem.W.fnOf x qual (defArgs st) (defBody st) (defScope st) .none kV doc pm an cdv ct) ⟨[], ks.zip ws⟩ = pure (ps.zip (perm.map fun j => ws.getD j .none))) : KwB K fd ps ks perm := by
  obtain ⟨oc, od, kV, doc, pm, an, cdv, ct, osl, rfl, lk, hcd⟩ := F.ex
  exact ⟨fun s ws _ hl => .of_eq (h kV doc pm an cdv ct ws hl)⟩
theorem vals_get : ∀ {zs : List V} {ws : List Value}, Vals zs ws → ∀ j, RelV (zs.getD j .non) (ws.getD j .none)
  | _, _, .nil, j => by
    show RelV .non .none
    rfl
  | _, _, .cons r _, 0 => r
  | _, _, .cons _ t, j + 1 => vals_get t j
theorem vals_perm {zs : List V} {ws : List Value} (h : Vals zs ws) : ∀ perm : List Nat, Vals (perm.map fun j => zs.getD j .non) (perm.map fun j => ws.getD j .none)
  | [] => .nil
  | j :: r => .cons (vals_get h j) (vals_perm h r)
section
variable {X : Cx} {Φ : Fx} {CX : CXT} {k : Nat} {f : Addr} {fd : FuncData} {ps ks : List Str} {perm : List Nat} {sp : Sp} {E : XK} {x : Str} {p pos : Pos} {kws : List Keyword} {tk : TA}
theorem pe_kw0 (Fn : FnOk X.prog X.w X.K X.mg X.base CX k f fd ps sp) (hr : Room k X.A) (hg : Gl X x) (hm : X.mg x = some (.ref f)) (hk : PySem.W.keepIn X.K (.ref f) = true) (hb : KwB X.K fd ps ks perm) (hx : Passes CX X E) (hkw : PK X kws tk)
    (hall : (backToKw pos (keywordEach kws X.env)).all (·.1.isSome) = true := by rfl) (hks : (backToKw pos (keywordEach kws X.env)).filterMap (·.1) = ks := by rfl) (hdb : (x == ("__debug__" : Str)) = false := by decide)
    (hpl : ((backTo pos (starEach [] X.env)).any (·.1) || (backToKw pos (keywordEach kws X.env)).any (·.1.isNone)) = false := by rfl) :
    PE X (.Call (.Name x p) [] kws pos) (fun σ H Q => tk σ H fun zs H2 => zs.length = ks.length ∧ sp (perm.map fun j => zs.getD j .non) H2 Q E) := by
  refine ⟨fun pins s σ H Q I h => wpAny_Call_Name_kw (ld_glob I hg hm ?_ hdb)⟩
  refine PySem.W.callWith_KW0 (h₀ := X.base) I.ok.mod.kin hk hall (thn (hkw.run pos pins s σ H _ I h) fun ws s2 ⟨zs, H2, I2, rz, hl, q2⟩ => ⟨I2.kIn, ?_⟩) hpl
  rw [hks]
  have r2 := vals_perm rz perm
  refine wpAny_call (codeAny_mono (Fn.run X.A X.stack s2 H2 ⟨[], ks.zip ws⟩ (perm.map fun j => ws.getD j .none) (perm.map fun j => zs.getD j .non) Q E hr I2.env0 (hb.to s2 ws I2.kIn (by rw [← rz.length, hl])) r2 q2) fun r s' hq => ?_)
  cases r with
  | error e => exact hx pins σ H2 s2 e s' I2 hq
  | ok fl =>
    cases fl with
    | ret u => exact I2.after hq
    | next => exact False.elim hq
    | brk => exact False.elim hq
    | cont => exact False.elim hq
end
theorem vr_get {K : PySem.W.Frag} {Φ : Fx} {F H : Hp} : ∀ {vs : List V} {xs : List DV}, VRs K Φ F H vs xs → ∀ j, VR K Φ F H (vs.getD j .non) (xs.getD j (.d .none))
  | _, _, .nil, j => Rp.non
  | _, _, .cons r _, 0 => r
  | _, _, .cons _ t, j + 1 => vr_get t j
theorem vrs_perm {K : PySem.W.Frag} {Φ : Fx} {F H : Hp} {vs : List V} {xs : List DV} (h : VRs K Φ F H vs xs) : ∀ perm : List Nat, VRs K Φ F H (perm.map fun j => vs.getD j .non) (perm.map fun j => xs.getD j (.d .none))
  | [] => .nil
  | j :: r => .cons (vr_get h j) (vrs_perm h r)
def cKw (f : List DV → M DV) (perm : List Nat) (n : Nat) (c : SS → M (List DV)) (S : SS) : M DV := mb (c S) fun xs => gd (xs.length = n ∧ (perm.map fun j => xs.getD j (.d .none)).all (fun x => !isVl x) = true) (f (perm.map fun j => xs.getD j (.d .none)))
def cCallL (i : Nat) (fa : Addr) (f : List DV → M DV) (c : SS → M (List DV)) (S : SS) : M DV := mb (cVar i S) fun v => match v with
  | .fn a => gd (a = fa) (mb (c S) fun xs => gd (xs.all (fun x => !isVl x) = true) (f xs))
  | _ => mz
section
variable {X : Cx} {Φ : Fx} {k : Nat} {f : Addr} {fd : FuncData} {ps ks : List Str} {perm : List Nat} {m' : Fam} {fm : List DV → M DV} {x : Str} {p pos : Pos} {e : Expr} {es : List Expr} {kws : List Keyword} {c : SS → M (List DV)}
theorem de_kw0 (Fn : FnOk X.prog X.w X.K X.mg X.base (L2.CX X.prog X.w) k f fd ps (spF X.K Φ.gb m' fm)) (hr : Room k X.A) (hm : X.mg x = some (.ref f)) (hk : PySem.W.keepIn X.K (.ref f) = true) (hb : KwB X.K fd ps ks perm) (px : Passes (L2.CX X.prog X.w) X Φ.E) (le : FamLe m' Φ.m)
    (hgr : ∀ xs G r G', fm xs G = some (r, G') → m'.gr G G') (hkw : PK X kws (tDA X.K Φ c)) (hg : Gl X x := by rfl) (hall : (backToKw pos (keywordEach kws X.env)).all (·.1.isSome) = true := by rfl) (hks : (backToKw pos (keywordEach kws X.env)).filterMap (·.1) = ks := by rfl) (hdb : (x == ("__debug__" : Str)) = false := by decide)
    (hpl : ((backTo pos (starEach [] X.env)).any (·.1) || (backToKw pos (keywordEach kws X.env)).any (·.1.isNone)) = false := by rfl) :
    PE X (.Call (.Name x p) [] kws pos) (tD X.K Φ (cKw fm perm ks.length c)) :=
  pe_imp (pe_kw0 Fn hr hg hm hk hb px hkw hall hks hdb hpl) fun σ H Q ⟨F, S, G, r, G', st, e1, po⟩ => by
    refine tX_run c st e1 po fun F1 H1 G1 xs vs st1 s1 vx e2 po1 => ?_
    obtain ⟨⟨hl, hv⟩, e3⟩ := gd_of e2
    exact ⟨(Paired.length vx).trans hl, call_read le hgr st1 (vrs_perm vx perm) hv e3 po1⟩
theorem de_callL {i : Nat} (Fn : FnOk X.prog X.w X.K X.mg X.base (L2.CX X.prog X.w) k f fd ps (spF X.K Φ.gb m' fm)) (hr : Room k X.A) (hk : PySem.W.keepIn X.K (.ref f) = true) (hb : Binds X.K fd ps []) (px : Passes (L2.CX X.prog X.w) X Φ.E) (le : FamLe m' Φ.m)
    (hgr : ∀ xs G r G', fm xs G = some (r, G') → m'.gr G G') (ha : PA X (e :: es) (tDA X.K Φ c)) (hN : X.N[i]? = some x := by rfl) (hv : Vis X.env.scope x := by first | exact Or.inl rfl | exact Or.inr (Or.inl rfl) | exact Or.inr (Or.inr rfl)) (hdb : (x == ("__debug__" : Str)) = false := by decide) (hcd : (x == ("__classdict__" : Str)) = false := by decide)
    (he : starEach (e :: es) X.env = (false, eval e X.env) :: starEach es X.env := by rfl) (hpl : (backTo pos (starEach es X.env)).any (·.1) = false := by rfl) : PE X (.Call (.Name x p) (e :: es) [] pos) (tD X.K Φ (cCallL i f fm c)) :=
  pe_imp (pe_callL Fn hr hN hv hk hb .nil px ha hdb hcd he hpl) fun σ H Q ⟨F, S, G, r, G', st, e1, po⟩ => by
    have e1 : mb (mo (S.getD i none)) (fun v => match v with | .fn a => gd (a = f) (mb (c S) fun xs => gd (xs.all (fun x => !isVl x) = true) (fm xs)) | _ => mz) G = some (r, G') := e1
    obtain ⟨v, ev, e2⟩ := mb_mo_of e1
    cases v with
    | fn a =>
      obtain ⟨rfl, e3⟩ := gd_of e2
      have hx : S[i]? = some (some (.fn a)) := by
        rw [List.getD_eq_getElem?_getD] at ev
        cases h : S[i]? with
        | none =>
          rw [h] at ev
          cases ev
        | some o =>
          rw [h] at ev
          have ev : o = some (.fn a) := ev
          rw [ev]
      obtain ⟨u, eu, ru⟩ := st.at_ i _ hx
      have ru : u = .ref a := ru
      subst ru
      refine ⟨eu, tX_run c st e3 po fun F1 H1 G1 xs vs st1 s1 vx e4 po1 => ?_⟩
      obtain ⟨hv, e5⟩ := gd_of e4
      rw [List.append_nil]
      exact call_read le hgr st1 vx hv e5 po1
    | d => cases e2
    | vl => cases e2
    | sc => cases e2
    | dr => cases e2
    | ex => cases e2
end
end DL

/-! the draws: a dict of a list of greats, a list of cells, a rest and a turn. -/
namespace DL
open PySem PySem.Spec PyProof.Rows L2
def dkOf (g c : Addr) (r t : Int) : HO := .dK [(.inr "great", .ref g), (.inr "cells", .ref c), (.inr "rest", .int r), (.inr "turn", .int t)]
structure DrW (dr g c : Addr) (cells : List Int) (H : Hp) (G : DG) : Prop where
  d : H dr = some (dkOf g c G.rest G.turn)
  g : H g = some (.lst (G.great.map V.int))
  c : H c = some (.lst (cells.map V.int))
  cs : G.cells = cells
structure DrFam (Φ : Fx) (g c : Addr) (cells : List Int) : Prop where
  ok : ∀ H G, Φ.W H G → DrW Φ.dr g c cells H G
  exd : Φ.dr ∈ Φ.ex
  exg : g ∈ Φ.ex
  put : ∀ H G r t, Φ.W H G → Φ.W (upd H Φ.dr (dkOf g c r t)) { G with rest := r, turn := t }
  pop : ∀ H G x r, Φ.W H G → G.great = x :: r → Φ.W (upd H g (.lst (r.map V.int))) { G with great := r }
def onR {β : Type} (x : DV) (m : M β) : M β := match x with
  | .dr => m
  | _ => mz
theorem onR_of {β : Type} {K : PySem.W.Frag} {Φ : Fx} {F H : Hp} {v : V} {x : DV} {m : M β} {G : DG} {r : Rs β × DG} (h : VR K Φ F H v x) (e : onR x m G = some r) : v = .ref Φ.dr ∧ m G = some r := by
  cases x with
  | dr => exact ⟨h, e⟩
  | d => cases e
  | vl => cases e
  | sc => cases e
  | fn => cases e
  | ex => cases e
def gI (f : DG → Int) : M DV := fun G => some (.ok (.d (.int (f G))), G)
def cDrI (f : DG → Int) (c : SS → M DV) (S : SS) : M DV := mb (c S) fun x => onR x (gI f)
def gCells : M (List D) := fun G => some (.ok (G.cells.map PyData.int), G)
def cDrC (c : SS → M DV) (S : SS) : M (List D) := mb (c S) fun x => onR x gCells
def gNe : M Bool := fun G => some (.ok (!G.great.isEmpty), G)
def cDrNe (c : SS → M DV) (S : SS) : M Bool := mb (c S) fun x => onR x gNe
def gPop : M DV := fun G => match G.great with
  | x :: r => some (.ok (.d (.int x)), { G with great := r })
  | [] => none
def cDrPop (c : SS → M DV) (S : SS) : M DV := mb (c S) fun x => onR x gPop
section
variable {K : PySem.W.Frag} {Φ : Fx} {F H : Hp} {σ : L2.St} {S : SS} {G : DG}
/-- an object of the draws is changed -/
theorem St.exUpd (st : St K Φ F H σ S G) {a : Addr} (o : HO) (ha : a ∈ Φ.ex) : Step Φ F H F (upd H a o) := by
  have fa := st.noex a ha
  refine ⟨.refl F, fun b u e => ?_, st.noex, fun _ _ e => .inl e, fun b u e m hb => ?_, id⟩
  · rw [upd_ne (ne_of_none e fa)]
    exact st.sub b u e
  · rw [upd_ne (fun z => hb (by rw [z]; exact ha))]
    exact e
end
section
variable {X : Cx} {Φ : Fx} {g c : Addr} {cells : List Int} {o : Expr} {co : SS → M DV} {j : Nat} {p1 p2 pos : Pos}
theorem de_drI {k : Str} {f : DG → Int} (DF : DrFam Φ g c cells) (hu : X.A.units + 1 < cLine) (hf : ∀ G : DG, valV ([(.inr "great", .ref g), (.inr "cells", .ref c), (.inr "rest", .int G.rest), (.inr "turn", .int G.turn)] : List (Key × V)) (.inr k) = some (.int (f G)))
    (ho : PE X o (tD X.K Φ co)) (hs : NoSl (.Constant (.str k) j p1) := by exact fun _ _ => rfl) : PE X (.Subscript o (.Constant (.str k) j p1) pos) (tD X.K Φ (cDrI f co)) :=
  pe_imp (pe_dget hu ho pe_str hs) fun σ H Q ⟨F, S, G, r, G', st, e, po⟩ => by
    refine tX_run co st e po fun F1 H1 G1 x v st1 s1 vx e1 po1 => ?_
    obtain ⟨rfl, e2⟩ := onR_of vx e1
    cases e2
    refine ⟨Φ.dr, .int (f G'), rfl, ?_, po1.now st1 (Rp.int _)⟩
    rw [← hf G']
    exact DGet.k (k := .inr k) (DF.ok _ _ st1.w).d
theorem di_drc {tg : Expr} (DF : DrFam Φ g c cells) (hu : X.A.units + 1 < cLine) (ho : PE X o (tD X.K Φ co)) (hs : NoSl (.Constant (.str "cells") j p1) := by exact fun _ _ => rfl) : PI X tg (.Subscript o (.Constant (.str "cells") j p1) pos) (iF X.K Φ false (cDrC co)) :=
  pi_imp (pi_list (pe_dget hu ho pe_str hs)) fun σ H Q ⟨F, S, G, r, G', st, e, po⟩ => by
    refine tX_run co st e po fun F1 H1 G1 x v st1 s1 vx e1 po1 => ?_
    obtain ⟨rfl, e2⟩ := onR_of vx e1
    cases e2
    have w1 := DF.ok _ _ st1.w
    refine ⟨Φ.dr, .ref c, rfl, ?_, c, rfl, ⟨_, SqL.of w1.c⟩, po1.now st1 ?_⟩
    · exact DGet.k (k := .inr "cells") w1.d
    · rw [w1.cs]
      exact walk_at walk_list (RpAll.ints _) (fun F H c => c) fun F H σ S G st2 _ => SqL.of (DF.ok _ _ st2.w).c
theorem ints_eqv (xs : List Int) : PyData.eqv (.list (xs.map .int)) (.list []) = xs.isEmpty := by
  cases xs with
  | nil => simp [PyData.eqv, PyData.eqvAll]
  | cons x r => simp [PyData.eqv, PyData.eqvAll]
theorem dp_ints {K : PySem.W.Frag} {H : Hp} : ∀ xs : List Int, DpAll K H (xs.map V.int) (xs.map PyData.int)
  | [] => .nil
  | x :: r => .cons (.int x) (dp_ints r)
theorem lay_ints : ∀ xs : List Int, PyData.canLayAll0 (xs.map PyData.int) = true ∧ PyData.depthAll (xs.map PyData.int) ≤ 1
  | [] => by simp [PyData.canLayAll0, PyData.depthAll]
  | x :: r => by
    obtain ⟨h1, h2⟩ := lay_ints r
    simp only [List.map_cons, PyData.canLayAll0, PyData.depthAll, PyData.canLay0, PyData.depth, h1, Bool.and_self, true_and]
    omega
theorem shaped_ints (xs : List Int) : SeqAt.shaped (.list (xs.map PyData.int)) = true := by
  obtain ⟨h1, h2⟩ := lay_ints xs
  show (PyData.canLay0 (.list (xs.map PyData.int)) && decide (PyData.depth (.list (xs.map PyData.int)) ≤ 64)) = true
  simp only [PyData.canLay0, PyData.depth, h1, Bool.true_and]
  exact decide_eq_true (by omega)
theorem dt_drne {pos2 pos3 : Pos} (DF : DrFam Φ g c cells) (hu : X.A.units + 64 < cLine) (ho : PE X o (tD X.K Φ co)) (hm : behindInMarks .NotEq (.List [] pos2) = false := by rfl) (hs : NoSl (.Constant (.str "great") j p1) := by exact fun _ _ => rfl) :
    PT X (.Compare (.Subscript o (.Constant (.str "great") j p1) pos) [.NotEq] [.List [] pos2] pos3) (tDT X.K Φ (cDrNe co)) :=
  pt_imp (pt_cmpR (op_neD hu) (pe_dget (Nat.lt_of_le_of_lt (Nat.add_le_add_left (by decide : 1 ≤ 64) _) hu) ho pe_str hs) (pe_lst pa_nil) hm) fun σ H Q ⟨F, S, G, r, G', st, e, po⟩ => by
    refine tX_run co st e po fun F1 H1 G1 x v st1 s1 vx e1 po1 => ?_
    obtain ⟨rfl, e2⟩ := onR_of vx e1
    cases e2
    have w1 := DF.ok _ _ st1.w
    refine ⟨Φ.dr, .ref g, rfl, DGet.k (k := .inr "great") w1.d, Nat.zero_le _, fun p hp => ?_⟩
    obtain ⟨sN, wN, oN⟩ := st1.newOwn hp []
    have w2 := DF.ok _ _ wN
    refine ⟨_, _, .lst (SqL.of w2.g) (dp_ints _), .lst (SqL.of oN.at_) .nil, shaped_ints _, shaped_ints [], _, rfl, ?_⟩
    rw [ints_eqv]
    exact po1 F1 _ sN wN _ rfl
theorem de_drpop {p4 p5 p6 : Pos} {j2 : Nat} (DF : DrFam Φ g c cells) (hu : X.A.units + 1 < cLine) (ho : PE X o (tD X.K Φ co))
    (hm : ∀ {te : TE}, PE X (.Subscript o (.Constant (.str "great") j p1) pos) te → PE X (.Call (.Attribute (.Subscript o (.Constant (.str "great") j p1) pos) "pop" p4) [.Constant (.int 0) j2 p5] [] p6) (tBM X.K "list" rPopAt te (tCons (tC (.int 0)) tNil))) (hs : NoSl (.Constant (.str "great") j p1) := by exact fun _ _ => rfl) :
    PE X (.Call (.Attribute (.Subscript o (.Constant (.str "great") j p1) pos) "pop" p4) [.Constant (.int 0) j2 p5] [] p6) (tD X.K Φ (cDrPop co)) :=
  pe_imp (hm (pe_dget hu ho pe_str hs)) fun σ H Q ⟨F, S, G, r, G', st, e, po⟩ => by
    refine tX_run co st e po fun F1 H1 G1 x v st1 s1 vx e1 po1 => ?_
    obtain ⟨rfl, e2⟩ := onR_of vx e1
    have w1 := DF.ok _ _ st1.w
    refine ⟨Φ.dr, .ref g, rfl, DGet.k (k := .inr "great") w1.d, tyL w1.g, ?_⟩
    have e2 : (match G1.great with | x :: r => some (Rs.ok (DV.d (.int x)), { G1 with great := r }) | [] => none) = some (r, G') := e2
    cases hg : G1.great with
    | nil =>
      rw [hg] at e2
      cases e2
    | cons y t =>
      rw [hg] at e2
      cases e2
      have wg := w1.g
      rw [hg] at wg
      refine ⟨g, (y :: t).map V.int, 0, 0, .int y, rfl, rfl, wg, by decide, by decide, ?_, rfl, ?_⟩
      · exact (ixN_seq (ixN_nat (n := 0) (by simp))).1
      · exact po1 F1 _ (st1.exUpd _ DF.exg) (DF.pop _ _ _ _ st1.w hg) _ (Rp.int y)
/-- state['turn'] = e -/
def aDrSet (f : Int → DG → DG) (co c : SS → M DV) : TSa := fun A S G => aEv (c S) A G fun y G1 => aEv (co S) A G1 fun x G2 => ∃ n, y = .d (.int n) ∧ x = .dr ∧ A.nx S (f n G2)
theorem ds_drset {k : Str} {f : Int → DG → DG} {e : Expr} {ce : SS → M DV} {p3 : Pos} (DF : DrFam Φ g c cells) (hu : X.A.units + 1 < cLine)
    (hf : ∀ (n : Int) (G : DG), putK ([(.inr "great", .ref g), (.inr "cells", .ref c), (.inr "rest", .int G.rest), (.inr "turn", .int G.turn)] : List (Key × V)) (.inr k) (.int n) = [(.inr "great", .ref g), (.inr "cells", .ref c), (.inr "rest", .int (f n G).rest), (.inr "turn", .int (f n G).turn)] ∧ f n G = { G with rest := (f n G).rest, turn := (f n G).turn })
    (ho : PE X o (tD X.K Φ co)) (he : PE X e (tD X.K Φ ce)) (hs : swapsWith e (some (.Subscript o (.Constant (.str k) j p1) p2)) p3.line X.env = pure false := by rfl) :
    PS X (.Assign [.Subscript o (.Constant (.str k) j p1) p2] e p3) (tS X.K Φ (aDrSet f co ce)) :=
  ps_imp (ps_dput hu ho pe_str he hs) fun D σ H ⟨F, S, G, A, st, h, en⟩ => by
    refine ev_run ce st h en fun F1 H1 G1 y v st1 s1 vy q1 => ?_
    refine ev_run co st1 q1 (en.up s1.up) fun F2 H2 G2 x u st2 s2 vx q2 => ?_
    obtain ⟨n, rfl, rfl, q3⟩ := q2
    cases vy
    have vx : u = .ref Φ.dr := vx
    subst vx
    have w2 := DF.ok _ _ st2.w
    obtain ⟨h1, h2⟩ := hf n G2
    refine ⟨Φ.dr, _, rfl, DPut.k (k := .inr k) w2.d (by show 4 < sizeLine; decide), ?_⟩
    rw [h1]
    have w3 := DF.put _ _ (f n G2).rest (f n G2).turn st2.w
    rw [← h2] at w3
    exact en.nx F2 _ σ S (f n G2) (s1.up.trans s2.up) (st2.step (st2.exUpd _ DF.exd) w3) q3
end
end DL

/-! what was left: powers, a list that is written down and changed, the script as a source, passing errors on. -/
namespace DL
open PySem PySem.Spec PyProof.Rows L2
section
variable {X : Cx} {Φ : Fx}
def CPw (i j : Int) : Prop := 0 ≤ j ∧ (Builtin.Int.intBits i : Int) * j ≤ 2 ^ 27
instance (i j : Int) : Decidable (CPw i j) := by unfold CPw; infer_instance
theorem op_powB : OpR X (binaryOp .Pow) (rI CPw fun i j => .int (i ^ j.toNat)) := opI fun _ _ _ _ _ _ _ hc q => pow_int hc.1 hc.2 q
def fPow := f2I fun i j => if CPw i j then some (.int (i ^ j.toNat)) else none
theorem of_pow {K : PySem.W.Frag} : Op2 K Φ (rI CPw fun i j => .int (i ^ j.toNat)) fPow := of_2I fun i j z H Q e q => by
  by_cases h : CPw i j
  · rw [if_pos h] at e
    cases e
    exact ⟨i, j, rfl, rfl, h, q _ fun _ => .int _⟩
  · rw [if_neg h] at e
    cases e
theorem cpw_of {i j : Int} (h0 : 0 ≤ j) (h1 : j ≤ 1000) (h2 : i.natAbs < 2 ^ 250) : CPw i j := by
  refine ⟨h0, ?_⟩
  have hb : Builtin.Int.intBits i ≤ 250 := by
    unfold Builtin.Int.intBits
    by_cases hz : (i == 0) = true
    · rw [if_pos hz]
      omega
    · rw [if_neg hz]
      have ne : i.natAbs ≠ 0 := fun q => hz (by
        have : i = 0 := by omega
        rw [this] <;> rfl)
      have := (Nat.log2_lt ne).mpr h2
      omega
  have h3 : (Builtin.Int.intBits i : Int) * j ≤ 250 * 1000 := Int.mul_le_mul (by omega) h1 h0 (by omega)
  omega
/-- [a, ..] as a list that may change -/
def fOwn (xs : List DV) : M DV := mb (mo (toDs xs)) fun ds => gd (ds.length ≤ 100000) (mp (.vl ds))
theorem dv_lst {es : List Expr} {pos : Pos} {c : SS → M (List DV)} (h : PA X es (tDA X.K Φ c)) : PE X (.List es pos) (tV X.K Φ (cApp fOwn c)) :=
  pe_imp (pe_lst h) fun σ H Q ⟨F, S, G, r, G', st, e, po⟩ => by
    refine tX_run c st e po fun F1 H1 G1 xs vs st1 s1 vx e1 po1 => ?_
    obtain ⟨ds, ed, e2⟩ := mb_mo_of e1
    obtain ⟨hl, e3⟩ := gd_of e2
    cases e3
    have ra := toDs_rp vx ed
    refine ⟨by rw [ra.length]; exact RpAll.len_line hl, fun p hp => ?_⟩
    obtain ⟨sN, wN, oN⟩ := st1.newOwn hp vs
    have nm : Nm H p := nm_by fun u q m => by
      rw [s1.pres p u q m oN.ne] at hp
      cases hp
    exact po1 F1 _ sN wN (.ref p) ⟨⟨p, vs, rfl, oN, ra⟩, fun _ => ⟨p, rfl, nm⟩⟩
/-- the script -/
def onSc {β : Type} (x : DV) (k : List Int → M β) : M β := match x with
  | .sc ns => k ns
  | _ => mz
def cScr (c : SS → M DV) (S : SS) : M (List D) := mb (c S) fun x => onSc x fun ns => mp (ns.map PyData.int)
theorem di_sc {tg e : Expr} {c : SS → M DV} (h : PE X e (tD X.K Φ c)) : PI X tg e (iF X.K Φ false (cScr c)) :=
  pi_imp (pi_list h) fun σ H Q ⟨F, S, G, r, G', st, e, po⟩ => by
    refine tX_run c st e po fun F1 H1 G1 x v st1 s1 vx e1 po1 => ?_
    cases x with
    | sc ns =>
      cases e1
      obtain ⟨a, rfl, q⟩ := vx
      exact ⟨a, rfl, ⟨_, st1.sub.sl q⟩, po1.now st1 (walk_at walk_list (RpAll.ints _) (fun F H c => c) fun F H σ S G st2 c => st2.sub.sl (Sub.sl c q))⟩
    | d => cases e1
    | vl => cases e1
    | dr => cases e1
    | fn => cases e1
    | ex => cases e1
theorem passT {E : XK} (tk : Takes X fun cls d _ H => E cls d H) : Passes (L2.CX X.prog X.w) X E := fun _ _ _ _ e s' I c => tk e s' (XE.of_call I (fun _ _ _ h => h) c)
end
end DL

/-! short words for what is printed. -/
namespace DL
open PySem PySem.Spec PyProof.Rows L2 LamX
theorem R1 {k : Nat} {A : Around} (r : Room k A) : A.units + 1 < cLine := by have := r.un; omega
theorem R65 {k : Nat} {A : Around} (r : Room k A) : A.units + 65 < cLine := by have := r.un; omega
section
variable {X : Cx} {Φ : Fx}
theorem de_add {a b : Expr} {pos : Pos} {ca cb : SS → M DV} (ha : PE X a (tD X.K Φ ca)) (hb : PE X b (tD X.K Φ cb)) : PE X (.BinOp a .Add b pos) (tD X.K Φ (cBin fAdd ca cb)) := de_op ox_add of_add ha hb
theorem de_sub {a b : Expr} {pos : Pos} {ca cb : SS → M DV} (ha : PE X a (tD X.K Φ ca)) (hb : PE X b (tD X.K Φ cb)) : PE X (.BinOp a .Sub b pos) (tD X.K Φ (cBin fSub ca cb)) := de_op op_sub of_sub ha hb
theorem de_mul {a b : Expr} {pos : Pos} {ca cb : SS → M DV} (ha : PE X a (tD X.K Φ ca)) (hb : PE X b (tD X.K Φ cb)) : PE X (.BinOp a .Mult b pos) (tD X.K Φ (cBin fMul ca cb)) := de_op ox_mul of_mul ha hb
theorem de_fdiv {a b : Expr} {pos : Pos} {ca cb : SS → M DV} (ha : PE X a (tD X.K Φ ca)) (hb : PE X b (tD X.K Φ cb)) : PE X (.BinOp a .FloorDiv b pos) (tD X.K Φ (cBin fDiv ca cb)) := de_op op_fdivN of_div ha hb
theorem de_mod {a b : Expr} {pos : Pos} {ca cb : SS → M DV} (ha : PE X a (tD X.K Φ ca)) (hb : PE X b (tD X.K Φ cb)) : PE X (.BinOp a .Mod b pos) (tD X.K Φ (cBin fMod ca cb)) := de_op op_modN of_mod ha hb
theorem de_pow {a b : Expr} {pos : Pos} {ca cb : SS → M DV} (ha : PE X a (tD X.K Φ ca)) (hb : PE X b (tD X.K Φ cb)) : PE X (.BinOp a .Pow b pos) (tD X.K Φ (cBin fPow ca cb)) := de_op op_powB of_pow ha hb
theorem de_neg {a : Expr} {pos : Pos} {ca : SS → M DV} (ha : PE X a (tD X.K Φ ca)) : PE X (.UnaryOp .USub a pos) (tD X.K Φ (cUn fNeg ca)) := de_un un_neg of_neg ha
end
end DL
namespace DL
open PySem PySem.Spec PyProof.Rows L2 LamX
theorem call_listX {X : Cx} (hc : X.calm = true) : CallR X (.type "list") (rListX X.K) := (call_listS hc).or call_list_of
/-- defs that leave the draws alone; T: the tables of code objects -/
def m0 (T : List (Addr × Str)) : Fam := ⟨[], fun H _ => Tabs T H, fun G G' => G' = G⟩
/-- defs that may draw -/
def mD (T : List (Addr × Str)) (dr g c : Addr) (cells : List Int) : Fam := ⟨[dr, g, c], fun H G => DrW dr g c cells H G ∧ Tabs T H, fun _ _ => True⟩
theorem tabs_upd {T : List (Addr × Str)} {H : Hp} {a : Addr} {o o' : HO} (t : Tabs T H) (e : H a = some o) (m : isMu o = true) : Tabs T (upd H a o') := fun p hp => by
  obtain ⟨ps, h1, h2, h3⟩ := t p hp
  have ne : ∀ {b : Addr} {u : HO}, H b = some u → isMu u = false → b ≠ a := fun {b u} q n z => by
    rw [z, e] at q
    cases q
    rw [m] at n
    cases n
  refine ⟨ps, by rw [upd_ne (ne h1 rfl)]; exact h1, h2, fun pos cv hc => ?_⟩
  obtain ⟨c, e1, e2⟩ := h3 pos cv hc
  exact ⟨c, e1, by rw [upd_ne (ne e2 rfl)]; exact e2⟩
theorem tabs_new {T : List (Addr × Str)} {H : Hp} {p : Addr} {o : HO} (t : Tabs T H) (hp : H p = none) : Tabs T (upd H p o) := t.ext fun b u e => by
  rw [upd_ne (ne_of_none e hp)]
  exact e
theorem m0_ok (T : List (Addr × Str)) : FamOk (m0 T) := ⟨fun _ _ _ b hb => absurd hb (List.not_mem_nil), fun H p o G hp _ t => tabs_new t hp, fun H G a o o' t _ e m => tabs_upd t e m⟩
theorem DrW.of {dr g c : Addr} {cells : List Int} {H H' : Hp} {G : DG} (w : DrW dr g c cells H G) (k : ∀ b o, H b = some o → isMu o = true → H' b = some o) : DrW dr g c cells H' G := ⟨k _ _ w.d rfl, k _ _ w.g rfl, k _ _ w.c rfl, w.cs⟩
theorem mD_ok (T : List (Addr × Str)) (dr g c : Addr) (cells : List Int) : FamOk (mD T dr g c cells) := by
  refine ⟨fun H G w b hb => ?_, fun H p o G hp _ w => ⟨w.1.of fun b u e _ => ?_, tabs_new w.2 hp⟩, fun H G a o o' w ha e m => ⟨?_, tabs_upd w.2 e m⟩⟩
  · have hb : b ∈ [dr, g, c] := hb
    simp only [List.mem_cons, List.not_mem_nil, or_false] at hb
    rcases hb with rfl | rfl | rfl
    · exact ⟨_, w.1.d, rfl⟩
    · exact ⟨_, w.1.g, rfl⟩
    · exact ⟨_, w.1.c, rfl⟩
  · rw [upd_ne (ne_of_none e hp)]
    exact e
  · have ha : a ∉ [dr, g, c] := ha
    simp only [List.mem_cons, List.not_mem_nil, or_false, not_or] at ha
    obtain ⟨h1, h2, h3⟩ := ha
    exact ⟨by rw [upd_ne (Ne.symm h1)]; exact w.1.d, by rw [upd_ne (Ne.symm h2)]; exact w.1.g, by rw [upd_ne (Ne.symm h3)]; exact w.1.c, w.1.cs⟩
theorem le00 (T : List (Addr × Str)) : FamLe (m0 T) (m0 T) := ⟨fun _ h => h, fun _ _ h => h, fun _ _ _ _ _ _ _ h => h⟩
theorem le0 (T : List (Addr × Str)) (dr g c : Addr) (cells : List Int) : FamLe (m0 T) (mD T dr g c cells) := ⟨fun _ h => absurd h (List.not_mem_nil), fun _ _ h => h.2, fun H H' G G' w k e t => by
  have e : G' = G := e
  subst e
  exact ⟨w.1.of fun b o q m => k b o q m (List.not_mem_nil), t⟩⟩
theorem leD (T : List (Addr × Str)) (dr g c : Addr) (cells : List Int) : FamLe (mD T dr g c cells) (mD T dr g c cells) := ⟨fun _ h => h, fun _ _ h => h, fun _ _ _ _ _ _ _ h => h⟩
theorem mD_tab (T : List (Addr × Str)) (dr g c : Addr) (cells : List Int) : TabW (mD T dr g c cells) T := ⟨fun _ _ w => w.2, fun H H1 G w e t => ⟨w.1.of fun b o q m => e b o q (fun ps z => Bool.false_ne_true ((show isMu o = false by rw [z]; rfl).symm.trans m)), t⟩⟩
theorem mD_dr {gb : Gb} {T : List (Addr × Str)} {g c : Addr} {cells : List Int} {F0 H0 : Hp} {E : XK} (n1 : gb.dr ≠ g) (n2 : gb.dr ≠ c) (n3 : g ≠ c) : DrFam ⟨gb, mD T gb.dr g c cells, F0, H0, E⟩ g c cells where
  ok := fun _ _ w => w.1
  exd := List.mem_cons_self ..
  exg := List.mem_cons_of_mem _ (List.mem_cons_self ..)
  put := fun H G r t w => ⟨⟨upd_same, by rw [upd_ne (Ne.symm n1)]; exact w.1.g, by rw [upd_ne (Ne.symm n2)]; exact w.1.c, w.1.cs⟩, tabs_upd w.2 w.1.d rfl⟩
  pop := fun H G x r w e => ⟨⟨by rw [upd_ne n1]; exact w.1.d, upd_same, by rw [upd_ne (Ne.symm n3)]; exact w.1.c, w.1.cs⟩, tabs_upd w.2 w.1.g rfl⟩
end DL
namespace DL
open PySem PySem.Spec PyProof.Rows L2 LamX
section
variable {X : Cx} {Φ : Fx}
def tIfT (t a b : TT) : TT := fun σ H Q => t σ H fun k H1 => if k = true then a σ H1 Q else b σ H1 Q
theorem pt_ifX {c a b : Expr} {pos : Pos} {tc ta tb : TT} (hc : PT X c tc) (ha : PT X a ta) (hb : PT X b tb) : PT X (.IfExp c a b pos) (tIfT tc ta tb) := by
  refine ⟨fun pins s σ H Q I h => ?_⟩
  rw [arm_isTrue_IfExp]
  refine wpAny_bind (thn (hc.run pins s σ H _ I h) fun k s1 ⟨H1, I1, q1⟩ => ?_)
  cases k with
  | true => exact ha.run pins s1 σ H1 Q I1 q1
  | false => exact hb.run pins s1 σ H1 Q I1 q1
def cIfT (t a b : SS → M Bool) (S : SS) : M Bool := mb (t S) fun k => if k = true then a S else b S
theorem dt_ifX {c a b : Expr} {pos : Pos} {mt ma mb' : SS → M Bool} (hc : PT X c (tDT X.K Φ mt)) (ha : PT X a (tDT X.K Φ ma)) (hb : PT X b (tDT X.K Φ mb')) : PT X (.IfExp c a b pos) (tDT X.K Φ (cIfT mt ma mb')) :=
  pt_imp (pt_ifX hc ha hb) fun σ H Q ⟨F, S, G, r, G', st, e, po⟩ => by
    refine tX_run mt st e po fun F1 H1 G1 x v st1 s1 vx e1 po1 => ?_
    obtain rfl : v = x := vx
    cases v with
    | true => exact iteT ⟨F1, S, G1, r, G', st1, e1, po1⟩
    | false => exact iteF ⟨F1, S, G1, r, G', st1, e1, po1⟩
end
end DL

/-! how mirrors are computed. -/
namespace DL
open PySem L2
theorem mo_mp {α : Type} (x : α) : mo (some x) = mp x := rfl
theorem cVar_of {i : Nat} {S : SS} {x : DV} (h : S[i]? = some (some x)) : cVar i S = mp x := by
  unfold cVar
  rw [List.getD_eq_getElem?_getD, h]
  rfl
theorem nx_mp {α : Type} (x : α) : nx (mp x) = mp x := rfl
/-- a comprehension whose parts are plain -/
theorem lcL_map {g : D → SS → Option SS} {ct : SS → M Bool} {ce : SS → M DV} {W : SS} {t : D → Bool} {f : D → D} : ∀ (ds acc : List D), (∀ d ∈ ds, ∃ S1, g d W = some S1 ∧ ct S1 = mp (t d) ∧ (t d = true → ce S1 = mp (.d (f d)))) → lcL g ct ce W ds acc = mp (acc ++ (ds.filter t).map f)
  | [], acc, _ => by simp [lcL]
  | d :: r, acc, h => by
    obtain ⟨S1, h1, h2, h3⟩ := h d (List.mem_cons_self ..)
    unfold lcL
    rw [h1, mo_mp, mb_mp, h2, nx_mp, mb_mp]
    cases ht : t d with
    | true =>
      rw [if_pos rfl, h3 ht, nx_mp, mb_mp]
      show lcL g ct ce W r (acc ++ [f d]) = _
      rw [lcL_map r _ fun x hx => h x (List.mem_cons_of_mem _ hx), List.filter_cons_of_pos ht, List.map_cons, List.append_assoc]
      rfl
    | false =>
      rw [if_neg Bool.false_ne_true, lcL_map r _ fun x hx => h x (List.mem_cons_of_mem _ hx), List.filter_cons_of_neg (by rw [ht]; exact Bool.false_ne_true)]
theorem cLc_map {ci : SS → M (List D)} {g : D → SS → Option SS} {ct : SS → M Bool} {ce : SS → M DV} {vs : List Nat} {S : SS} {ds : List D} (t : D → Bool) (f : D → D) (hi : ci S = mp ds) (hl : ds.length ≤ 100000) (h : ∀ d ∈ ds, ∃ S1, g d (wipeS S vs) = some S1 ∧ ct S1 = mp (t d) ∧ (t d = true → ce S1 = mp (.d (f d)))) : cLc ci g ct ce vs S = mp (.vl ((ds.filter t).map f)) := by
  unfold cLc
  rw [hi, mb_mp, gd_yes hl, lcL_map (t := t) (f := f) ds [] h, mb_mp, List.nil_append]
theorem filter_yes {α : Type} (l : List α) : l.filter (fun _ => true) = l := List.filter_eq_self.mpr fun _ _ => rfl
/-- without a condition -/
theorem cLc_all {ci : SS → M (List D)} {g : D → SS → Option SS} {ce : SS → M DV} {vs : List Nat} {S : SS} {ds : List D} (f : D → D) (hi : ci S = mp ds) (hl : ds.length ≤ 100000) (h : ∀ d ∈ ds, ∃ S1, g d (wipeS S vs) = some S1 ∧ ce S1 = mp (.d (f d))) : cLc ci g tYesC ce vs S = mp (.vl (ds.map f)) := by
  rw [cLc_map (ct := tYesC) (fun _ => true) f hi hl fun d hd => let ⟨S1, h1, h2⟩ := h d hd; ⟨S1, h1, rfl, fun _ => h2⟩, filter_yes]
theorem aEv_is {α : Type} {m : M α} {A : AE} {G : DG} {k : α → DG → Prop} {x : α} (h : m = mp x) (q : k x G) : aEv m A G k := by
  rw [h]
  exact q
theorem aRet_is {c : SS → M DV} {A : AE} {S : SS} {G : DG} {x : DV} (h : c S = mp x) (q : A.rt (frz x) G) : aRet c A S G := aEv_is h q
/-! ### parts of expressions -/
section
variable {S : SS} {a b c d : SS → M DV} {ta tb : SS → M Bool} {x y z w : DV} {k j l : Bool}
theorem ev_bin {f : DV → DV → M DV} (h1 : a S = mp x) (h2 : b S = mp y) (h3 : f x y = mp z) : cBin f a b S = mp z := by
  unfold cBin
  rw [h1, mb_mp, h2, mb_mp, h3]
theorem ev_un {f : DV → M DV} (h1 : a S = mp x) (h3 : f x = mp z) : cUn f a S = mp z := by
  unfold cUn
  rw [h1, mb_mp, h3]
theorem ev_app {f : List DV → M DV} {e : SS → M (List DV)} {xs : List DV} (h1 : e S = mp xs) (h3 : f xs = mp z) : cApp f e S = mp z := by
  unfold cApp
  rw [h1, mb_mp, h3]
theorem ev_cons {e : SS → M (List DV)} {xs : List DV} (h1 : a S = mp x) (h2 : e S = mp xs) : cCons a e S = mp (x :: xs) := by
  unfold cCons
  rw [h1, mb_mp, h2, mb_mp]
theorem ev_nil : cNil S = mp [] := rfl
theorem ev_1 (h1 : a S = mp x) : cCons a cNil S = mp [x] := ev_cons h1 rfl
theorem ev_2 (h1 : a S = mp x) (h2 : b S = mp y) : cCons a (cCons b cNil) S = mp [x, y] := ev_cons h1 (ev_1 h2)
theorem ev_3 (h1 : a S = mp x) (h2 : b S = mp y) (h3 : c S = mp z) : cCons a (cCons b (cCons c cNil)) S = mp [x, y, z] := ev_cons h1 (ev_2 h2 h3)
theorem ev_call {f : List DV → M DV} {e : SS → M (List DV)} {xs : List DV} (h1 : e S = mp xs) (hv : xs.all (fun x => !isVl x) = true) : cCall f e S = f xs := by
  unfold cCall
  rw [h1, mb_mp, gd_yes hv]
theorem ev_fz (h : a S = mp x) : cFz a S = mp (frz x) := by
  unfold cFz
  rw [h, mb_mp]
theorem ev_nv (h : a S = mp x) (hv : isVl x = false) : cNv a S = mp x := by
  unfold cNv
  rw [h, mb_mp, hv, if_neg Bool.false_ne_true]
theorem ev_and (h1 : a S = mp (.d (.bool k))) (h2 : k = true → b S = mp (.d (.bool j))) : cAnd a b S = mp (.d (.bool (k && j))) := by
  unfold cAnd
  rw [h1, mb_mp]
  cases k with
  | true =>
    show b S = _
    rw [h2 rfl]
    rfl
  | false => rfl
theorem ev_or (h1 : a S = mp (.d (.bool k))) (h2 : k = false → b S = mp (.d (.bool j))) : cOr a b S = mp (.d (.bool (k || j))) := by
  unfold cOr
  rw [h1, mb_mp]
  cases k with
  | false =>
    show b S = _
    rw [h2 rfl]
    rfl
  | true => rfl
theorem ev_not (h1 : a S = mp (.d (.bool k))) : cUn fNot a S = mp (.d (.bool (!k))) := ev_un h1 rfl
theorem ev_chain {f f' : DV → DV → M DV} (h1 : a S = mp x) (h2 : b S = mp y) (h3 : f x y = mp (.d (.bool k))) (h4 : k = true → c S = mp z ∧ f' y z = mp (.d (.bool j))) : cChain f f' a b c S = mp (.d (.bool (k && j))) := by
  unfold cChain
  rw [h1, mb_mp, h2, mb_mp, h3, mb_mp]
  cases k with
  | true =>
    obtain ⟨q1, q2⟩ := h4 rfl
    show mb (c S) (fun w => f' y w) = _
    rw [q1, mb_mp, q2]
    rfl
  | false => rfl
theorem ev_ifT (h : ta S = mp true) (h1 : a S = mp x) : cIf ta a b S = mp x := by
  unfold cIf
  rw [h, mb_mp, if_pos rfl, h1]
theorem ev_ifF (h : ta S = mp false) (h1 : b S = mp x) : cIf ta a b S = mp x := by
  unfold cIf
  rw [h, mb_mp, if_neg Bool.false_ne_true, h1]
theorem ev_sm {f : Str → DV → M DV} {s : Str} (h1 : a S = mp (.d (.str s))) (h2 : b S = mp y) (h3 : f s y = mp z) : cSm f a b S = mp z := by
  unfold cSm
  rw [h1, mb_mp]
  show mb (b S) (fun y => f s y) = _
  rw [h2, mb_mp, h3]
theorem ev_tm {f : List D → DV → M DV} {ds : List D} (h1 : a S = mp (.d (.tuple ds))) (h2 : b S = mp y) (h3 : f ds y = mp z) : cTm f a b S = mp z := by
  unfold cTm
  rw [h1, mb_mp]
  show mb (b S) (fun y => f ds y) = _
  rw [h2, mb_mp, h3]
theorem ev_seq {ds : List D} (h1 : a S = mp x) (h2 : seqOf x = some ds) : cSeq a S = mp ds := by
  unfold cSeq
  rw [h1, mb_mp, h2]
  rfl
theorem ev_seqH {ds : List D} (h1 : a S = mp x) (h2 : seqOfH x = some ds) : cSeqH a S = mp ds := by
  unfold cSeqH
  rw [h1, mb_mp, h2]
  rfl
theorem ev_itr {f : List DV → M (List D)} {e : SS → M (List DV)} {xs : List DV} {ds : List D} (h1 : e S = mp xs) (h2 : f xs = mp ds) : cItr f e S = mp ds := by
  unfold cItr
  rw [h1, mb_mp, h2]
theorem ev_sl {lo hi : SS → M (Option Int)} {l h : Option Int} (h1 : a S = mp x) (h2 : lo S = mp l) (h3 : hi S = mp h) (h4 : slOf x l h = some z) : cSl a lo hi S = mp z := by
  unfold cSl
  rw [h1, mb_mp, h2, mb_mp, h3, mb_mp, h4]
  rfl
theorem ev_part {i : Int} (h : a S = mp (.d (.int i))) : cPart a S = mp (some i) := by
  unfold cPart
  rw [h]
  rfl
/-! ### tests -/
theorem et_val (h : a S = mp (.d (.bool k))) : cTest a S = mp k := by
  unfold cTest
  rw [h]
  rfl
theorem et_and (h1 : ta S = mp k) (h2 : k = true → tb S = mp j) : cAndT ta tb S = mp (k && j) := by
  unfold cAndT
  rw [h1, mb_mp]
  cases k with
  | true =>
    rw [if_pos rfl, h2 rfl]
    rfl
  | false => rfl
theorem et_or (h1 : ta S = mp k) (h2 : k = false → tb S = mp j) : cOrT ta tb S = mp (k || j) := by
  unfold cOrT
  rw [h1, mb_mp]
  cases k with
  | false =>
    rw [if_neg Bool.false_ne_true, h2 rfl]
    rfl
  | true => rfl
theorem et_not (h1 : ta S = mp k) : cNotT ta S = mp (!k) := by
  unfold cNotT
  rw [h1, mb_mp]
end
/-! ### statements -/
section
variable {S : SS} {G : DG} {A : AE} {p q : TSa} {c d : SS → M DV} {t : SS → M Bool} {x y : DV} {k : Bool}
theorem as_if (h : t S = mp k) (h1 : k = true → p A S G) (h2 : k = false → q A S G) : aIf t p q A S G := by
  refine aEv_is h ?_
  cases k with
  | true =>
    rw [if_pos rfl]
    exact h1 rfl
  | false =>
    rw [if_neg Bool.false_ne_true]
    exact h2 rfl
theorem as_set {i : Nat} (h : c S = mp x) (h1 : A.nx (S.set i (some x)) G) : aSet i c A S G := aEv_is h h1
theorem as_par {i j : Nat} (h : c S = mp x) (h' : d S = mp y) (h1 : A.nx ((S.set i (some x)).set j (some y)) G) : aPar i j c d A S G := aEv_is h (aEv_is h' h1)
theorem as_for {ci : SS → M (List D)} {g : D → SS → Option SS} {ds : List D} (h : ci S = mp ds) (h1 : aForL g p ds A S G) : aFor ci g p A S G := aEv_is h h1
/-- a for by an invariant: I at place i -/
theorem for_inv {g : D → SS → Option SS} (I : List D → SS → DG → Prop) (step : ∀ (d : D) (r : List D) (S : SS) (G : DG) (A' : AE), I (d :: r) S G → (∀ S G, I r S G → A'.nx S G) → (∀ S G, I r S G → A'.ct S G) → A'.rt = A.rt → A'.er = A.er → A'.bk = A.nx → ∃ S1, g d S = some S1 ∧ p A' S1 G)
    (fin : ∀ S G, I [] S G → A.nx S G) : ∀ (ds : List D) (S : SS) (G : DG), I ds S G → aForL g p ds A S G
  | [], S, G, h => fin S G h
  | d :: r, S, G, h => by
    obtain ⟨S1, h1, h2⟩ := step d r S G { A with nx := aForL g p r A, ct := aForL g p r A, bk := A.nx } h (fun S G q => for_inv I step fin r S G q) (fun S G q => for_inv I step fin r S G q) rfl rfl rfl
    show (match g d S with | some S1 => p { A with nx := aForL g p r A, ct := aForL g p r A, bk := A.nx } S1 G | none => False)
    rw [h1]
    exact h2
theorem as_app {i : Nat} {xs : List D} {e : D} (hS : S[i]? = some (some (.vl xs))) (h : c S = mp (.d e)) (hl : xs.length < 100000) (h1 : A.nx (S.set i (some (.vl (xs ++ [e])))) G) : aAppend i c A S G := by
  show onOwn S i _
  unfold onOwn
  rw [hS]
  exact aEv_is h ⟨e, rfl, hl, h1⟩
theorem as_ext {i : Nat} {xs ds : List D} (hS : S[i]? = some (some (.vl xs))) (h : c S = mp (.vl ds)) (hl : xs.length + ds.length ≤ 100000) (h1 : A.nx (S.set i (some (.vl (xs ++ ds)))) G) : aExtend i c A S G := by
  show onOwn S i _
  unfold onOwn
  rw [hS]
  exact aEv_is h ⟨ds, rfl, hl, h1⟩
end
/-! ### operations -/
theorem fAll_l (bs : List Bool) : fAll [.d (.list (bs.map .bool))] = mp (.d (.bool (bs.all id))) := by
  show mb (mo (toBs (bs.map .bool))) (fun bs => mp (DV.d (.bool (bs.all id)))) = _
  rw [toBs_map]
  rfl
theorem fAny_l (bs : List Bool) : fAny [.d (.list (bs.map .bool))] = mp (.d (.bool (bs.any id))) := by
  show mb (mo (toBs (bs.map .bool))) (fun bs => mp (DV.d (.bool (bs.any id)))) = _
  rw [toBs_map]
  rfl
theorem fSum_l (ns : List Int) : fSum [.d (.list (ns.map .int))] = mp (.d (.int ns.sum)) := by
  show mb (mo (toIs (ns.map .int))) (fun ns => mp (DV.d (.int ns.sum))) = _
  rw [toIs_map]
  rfl
theorem fLen_s {z : Str} (h : z.length ≤ 100000) : fLen [.d (.str z)] = mp (.d (.int (z.length : Int))) := by
  show mo (((if z.length ≤ 100000 then some z.length else none) : Option Nat).map fun n => DV.d (.int (n : Int))) = _
  rw [if_pos h]
  rfl
theorem fEq_d {x y : D} (h1 : eqOk x = true) (h2 : eqOk y = true) : fEq (.d x) (.d y) = mp (.d (.bool (PyData.eqv x y))) := by
  show gd (eqOk x = true ∧ eqOk y = true) _ = _
  rw [gd_yes ⟨h1, h2⟩]
  rfl
theorem fNe_d {x y : D} (h1 : eqOk x = true) (h2 : eqOk y = true) : fNe (.d x) (.d y) = mp (.d (.bool (!PyData.eqv x y))) := by
  show gd (eqOk x = true ∧ eqOk y = true) _ = _
  rw [gd_yes ⟨h1, h2⟩]
  rfl
theorem fTup_d {xs : List DV} {ds : List D} (h : toDs xs = some ds) (hl : ds.length ≤ 100000) : fTup xs = mp (.d (.tuple ds)) := by
  unfold fTup
  rw [h]
  exact if_pos hl
theorem fLst_d {xs : List DV} {ds : List D} (h : toDs xs = some ds) (hl : ds.length ≤ 100000) : fLst xs = mp (.d (.list ds)) := by
  unfold fLst
  rw [h]
  exact if_pos hl
/-! ### what an answer says of the arguments -/
section
variable {β : Type} {xs : List DV} {x : DV} {G : DG} {r : Rs β × DG}
theorem on1_inv {k : DV → M β} (e : on1 xs k G = some r) : ∃ x, xs = [x] ∧ k x G = some r := by
  cases xs with
  | nil => cases e
  | cons x t =>
    cases t with
    | nil => exact ⟨x, rfl, e⟩
    | cons => cases e
theorem on2_inv {k : DV → DV → M β} (e : on2 xs k G = some r) : ∃ x y, xs = [x, y] ∧ k x y G = some r := by
  cases xs with
  | nil => cases e
  | cons x t =>
    cases t with
    | nil => cases e
    | cons y t =>
      cases t with
      | nil => exact ⟨x, y, rfl, e⟩
      | cons => cases e
def on3 (xs : List DV) (k : DV → DV → DV → M β) : M β := match xs with
  | [x, y, z] => k x y z
  | _ => mz
theorem on3_inv {k : DV → DV → DV → M β} (e : on3 xs k G = some r) : ∃ x y z, xs = [x, y, z] ∧ k x y z G = some r := by
  cases xs with
  | nil => cases e
  | cons x t =>
    cases t with
    | nil => cases e
    | cons y t =>
      cases t with
      | nil => cases e
      | cons z t =>
        cases t with
        | nil => exact ⟨x, y, z, rfl, e⟩
        | cons => cases e
theorem onD_inv {k : D → M β} (e : onD x k G = some r) : ∃ d, x = .d d ∧ k d G = some r := by
  cases x with
  | d d => exact ⟨d, rfl, e⟩
  | vl => cases e
  | sc => cases e
  | dr => cases e
  | fn => cases e
  | ex => cases e
theorem onT_inv {k : List D → M β} (e : onT x k G = some r) : ∃ ds, x = .d (.tuple ds) ∧ k ds G = some r := by
  obtain ⟨d, rfl, e⟩ : ∃ d, x = .d d ∧ onT x k G = some r := by
    cases x with
    | d d => exact ⟨d, rfl, e⟩
    | vl => cases e
    | sc => cases e
    | dr => cases e
    | fn => cases e
    | ex => cases e
  cases d with
  | tuple ds => exact ⟨ds, rfl, e⟩
  | none => cases e
  | bool => cases e
  | int => cases e
  | str => cases e
  | list => cases e
  | dict => cases e
theorem onS_inv {k : Str → M β} (e : onS x k G = some r) : ∃ z, x = .d (.str z) ∧ k z G = some r := by
  obtain ⟨d, rfl, e⟩ : ∃ d, x = .d d ∧ onS x k G = some r := by
    cases x with
    | d d => exact ⟨d, rfl, e⟩
    | vl => cases e
    | sc => cases e
    | dr => cases e
    | fn => cases e
    | ex => cases e
  cases d with
  | str ds => exact ⟨ds, rfl, e⟩
  | none => cases e
  | bool => cases e
  | int => cases e
  | tuple => cases e
  | list => cases e
  | dict => cases e
theorem onI_inv {k : Int → M β} (e : onI x k G = some r) : ∃ z, x = .d (.int z) ∧ k z G = some r := by
  obtain ⟨d, rfl, e⟩ : ∃ d, x = .d d ∧ onI x k G = some r := by
    cases x with
    | d d => exact ⟨d, rfl, e⟩
    | vl => cases e
    | sc => cases e
    | dr => cases e
    | fn => cases e
    | ex => cases e
  cases d with
  | int ds => exact ⟨ds, rfl, e⟩
  | none => cases e
  | bool => cases e
  | str => cases e
  | tuple => cases e
  | list => cases e
  | dict => cases e
end
/-- texts as a tuple -/
abbrev txs (zs : List Str) : D := .tuple (zs.map .str)
/-- a tuple of texts -/
def onTS {β : Type} (x : DV) (k : List Str → M β) : M β := onT x fun ds => mb (mo (toSs ds)) k
theorem onTS_inv {β : Type} {x : DV} {G : DG} {r : Rs β} {G' : DG} {k : List Str → M β} (e : onTS x k G = some (r, G')) : ∃ zs, x = .d (txs zs) ∧ k zs G = some (r, G') := by
  obtain ⟨ds, rfl, e⟩ := onT_inv e
  obtain ⟨zs, ez, e⟩ := mb_mo_of e
  rw [toSs_eq ez]
  exact ⟨zs, rfl, e⟩
theorem onTS_is {β : Type} {zs : List Str} {k : List Str → M β} : onTS (.d (txs zs)) k = k zs := by
  show mb (mo (toSs (zs.map .str))) k = _
  rw [toSs_map]
  rfl
theorem plain_strs : ∀ zs : List Str, plainAll (zs.map .str) = true
  | [] => rfl
  | _ :: r => plain_strs r
theorem depth_strs : ∀ zs : List Str, PyData.depthAll (zs.map .str) = 0
  | [] => by simp [PyData.depthAll]
  | _ :: r => by
    have h := depth_strs r
    simp only [List.map_cons, PyData.depthAll, PyData.depth, h]
    rfl
theorem eqOk_txs (zs : List Str) : eqOk (txs zs) = true := by
  show (plainAll (zs.map .str) && decide (PyData.depth (txs zs) ≤ 64)) = true
  rw [plain_strs, Bool.true_and]
  refine decide_eq_true ?_
  simp only [PyData.depth, depth_strs]
  omega
theorem cut_from {α : Type} (xs : List α) (k : Nat) : cut xs (some (k : Int)) none = xs.drop k := by
  unfold cut
  rw [HT.sIx_nat, HT.sIx_none]
  by_cases h : k ≤ xs.length
  · rw [Nat.min_eq_left h, List.take_of_length_le (by rw [List.length_drop]; exact Nat.le_refl _)]
  · rw [Nat.min_eq_right (by omega), List.drop_eq_nil_of_le (Nat.le_refl _), List.drop_eq_nil_of_le (by omega), List.take_nil]
theorem as_seq {p q : TSa} {A : AE} {S : SS} {G : DG} (h : p { A with nx := q A } S G) : aSeq p q A S G := h
theorem drop_pre {α : Type} (p r : List α) (a : α) : (p ++ a :: r).drop (p.length + 1) = r := by
  rw [List.drop_append, List.drop_eq_nil_of_le (by omega), List.nil_append, show p.length + 1 - p.length = 1 by omega]
  rfl
section
variable {S : SS} {G : DG} {A : AE} {p q u : TSa} {c d : SS → M DV} {t : SS → M Bool} {x y : DV} {k : Bool}
theorem sq_set {i : Nat} (h : c S = mp x) (h1 : q A (S.set i (some x)) G) : aSeq (aSet i c) q A S G := aEv_is h h1
theorem sq_par {i j : Nat} (h : c S = mp x) (h' : d S = mp y) (h1 : q A ((S.set i (some x)).set j (some y)) G) : aSeq (aPar i j c d) q A S G := aEv_is h (aEv_is h' h1)
theorem sq_for {ci : SS → M (List D)} {g : D → SS → Option SS} {ds : List D} (h : ci S = mp ds) (h1 : aForL g p ds { A with nx := q A } S G) : aSeq (aFor ci g p) q A S G := aEv_is h h1
theorem sq_if (h : t S = mp k) (h1 : k = true → aSeq p u A S G) (h2 : k = false → aSeq q u A S G) : aSeq (aIf t p q) u A S G := as_if h h1 h2
theorem sq_nx (h : u A S G) : aSeq aNext u A S G := h
theorem sq_ret (h : c S = mp x) (q : A.rt (frz x) G) : aSeq (aRet c) u A S G := aEv_is h q
theorem sq_raise {e : Er} (h : A.er e G) : aSeq (aRaise e) u A S G := h
theorem sq_ext {i : Nat} {xs ds : List D} (hS : S[i]? = some (some (.vl xs))) (h : c S = mp (.vl ds)) (hl : xs.length + ds.length ≤ 100000) (h1 : q A (S.set i (some (.vl (xs ++ ds)))) G) : aSeq (aExtend i c) q A S G := as_ext (A := { A with nx := q A }) hS h hl h1
end
end DL

/-! the draws, computed. -/
namespace DL
open PySem L2
theorem aEv_g {α : Type} {m : M α} {A : AE} {G G1 : DG} {k : α → DG → Prop} {x : α} (h : m G = some (.ok x, G1)) (q : k x G1) : aEv m A G k := aEv_ok h q
def aBlended : TSa :=
    (aSeq (aPar 1 2 (cNv (cBin fAdd (cDrI (fun G => G.turn) (cVar 0)) (cK (.int 1)))) (cNv (cK (.int 0))))
    (aSeq (aDrSet (fun n G => { G with turn := n }) (cVar 0) (cVar 1))
    (aSeq (aFor (cSeq (cApp fLst (cCons (cK (.int 2147483579)) (cCons (cK (.int 2147483629)) (cCons (cK (.int 2147483563)) cNil))))) (gN 3) ((aSeq (aSet 4 (cNv (cBin fAdd (cBin fMul (cK (.int 48271)) (cVar 1)) (cBin fDiv (cVar 3) (cK (.int 53))))))
    (aSeq (aFor (cDrC (cVar 0)) (gN 5) ((aSet 4 (cNv (cBin fMod (cApp fIntOf (cCons (cBin fAdd (cBin fAdd (cBin fMul (cVar 4) (cK (.int 69621))) (cVar 5)) (cVar 1)) cNil)) (cVar 3))))))
    (aSet 2 (cNv (cBin fAdd (cBin fMul (cVar 2) (cK (.int 2147483647))) (cBin fMod (cApp fIntOf (cCons (cBin fPow (cVar 4) (cK (.int 5))) cNil)) (cVar 3)))))))))
    (aRet (cVar 2)))))
theorem sq_forG {S : SS} {G G1 : DG} {A : AE} {p q : TSa} {ci : SS → M (List D)} {g : D → SS → Option SS} {ds : List D} (h : ci S G = some (.ok ds, G1)) (h1 : aForL g p ds { A with nx := q A } S G1) : aSeq (aFor ci g p) q A S G := aEv_ok h h1
theorem sq_ifG {S : SS} {G G1 : DG} {A : AE} {p q u : TSa} {t : SS → M Bool} {k : Bool} (h : t S G = some (.ok k, G1)) (h1 : k = true → aSeq p u A S G1) (h2 : k = false → aSeq q u A S G1) : aSeq (aIf t p q) u A S G := aEv_ok h (by
  cases k with
  | true =>
    rw [if_pos rfl]
    exact h1 rfl
  | false =>
    rw [if_neg Bool.false_ne_true]
    exact h2 rfl)
theorem sq_drsetG {f : Int → DG → DG} {co c : SS → M DV} {S : SS} {G G1 : DG} {A : AE} {q : TSa} {n : Int} (h : c S G = some (.ok (.d (.int n)), G1)) (h' : co S = mp .dr) (h1 : q A S (f n G1)) : aSeq (aDrSet f co c) q A S G := aEv_ok h (aEv_is h' ⟨n, rfl, rfl, h1⟩)
theorem sq_parG {i j : Nat} {S : SS} {G : DG} {A : AE} {q : TSa} {c d : SS → M DV} {x y : DV} (h : c S G = some (.ok x, G)) (h' : d S = mp y) (h1 : q A ((S.set i (some x)).set j (some y)) G) : aSeq (aPar i j c d) q A S G := aEv_ok h (aEv_is h' h1)
theorem sq_drset {f : Int → DG → DG} {co c : SS → M DV} {S : SS} {G : DG} {A : AE} {q : TSa} {n : Int} (h : c S = mp (.d (.int n))) (h' : co S = mp .dr) (h1 : q A S (f n G)) : aSeq (aDrSet f co c) q A S G := aEv_is h (aEv_is h' ⟨n, rfl, rfl, h1⟩)
def bStep (t p b c : Int) : Int := (b * 69621 + c + t).fmod p
def blend (cells : List Int) (t p : Int) : Int := cells.foldl (bStep t p) (48271 * t + p.fdiv 53)
def fin5 (cells : List Int) (t p : Int) : Int := (blend cells t p ^ 5).fmod p
def blended (cells : List Int) (t : Int) : Int := ((0 * 2147483647 + fin5 cells t 2147483579) * 2147483647 + fin5 cells t 2147483629) * 2147483647 + fin5 cells t 2147483563
def m_blended (xs : List DV) : M DV := on1 xs fun s => onR s fun G => if 0 ≤ G.turn ∧ G.turn < 2 ^ 200 then some (.ok (.d (.int (blended G.cells (G.turn + 1)))), { G with turn := G.turn + 1 }) else none
theorem fold_small {t p : Int} (h0 : 0 < p) (h1 : p < 2 ^ 32) : ∀ (cs : List Int) (b : Int), b.natAbs < 2 ^ 250 → (cs.foldl (bStep t p) b).natAbs < 2 ^ 250
  | [], b, h => h
  | c :: r, b, h => by
    refine fold_small h0 h1 r _ ?_
    have q1 := Int.fmod_nonneg_of_pos (b * 69621 + c + t) h0
    have q2 := Int.fmod_lt_of_pos (b * 69621 + c + t) h0
    show ((b * 69621 + c + t).fmod p).natAbs < 2 ^ 250
    have : ((b * 69621 + c + t).fmod p).natAbs < 2 ^ 32 := by omega
    omega
theorem fMul_small {i j : Int} (h : (-(2 ^ 64) < i ∧ i < 2 ^ 64) ∨ (-(2 ^ 64) < j ∧ j < 2 ^ 64)) : fMul (.d (.int i)) (.d (.int j)) = mp (.d (.int (i * j))) := by
  show mo ((if (-(2 ^ 64) < i ∧ i < 2 ^ 64) ∨ (-(2 ^ 64) < j ∧ j < 2 ^ 64) then some (PyData.int (i * j)) else none).map DV.d) = _
  rw [if_pos h]
  rfl
theorem fDiv_i {i j : Int} (h : j ≠ 0 ∧ j.natAbs < 1073741824) : fDiv (.d (.int i)) (.d (.int j)) = mp (.d (.int (i.fdiv j))) := by
  show mo ((if j ≠ 0 ∧ j.natAbs < 1073741824 then some (PyData.int (i.fdiv j)) else none).map DV.d) = _
  rw [if_pos h]
  rfl
theorem fMod_i {i j : Int} (h : j ≠ 0) : fMod (.d (.int i)) (.d (.int j)) = mp (.d (.int (i.fmod j))) := by
  show mo ((if j ≠ 0 then some (PyData.int (i.fmod j)) else none).map DV.d) = _
  rw [if_pos h]
  rfl
theorem fPow_i {i j : Int} (h : CPw i j) : fPow (.d (.int i)) (.d (.int j)) = mp (.d (.int (i ^ j.toNat))) := by
  show mo ((if CPw i j then some (PyData.int (i ^ j.toNat)) else none).map DV.d) = _
  rw [if_pos h]
  rfl
def stB (t f : Int) (u v w : Option DV) : SS := [some .dr, some (.d (.int t)), some (.d (.int f)), u, v, w]
/-- one prime -/
theorem prime_run {A : AE} {t f p : Int} {v w : Option DV} {G : DG} (hp : 0 < p) (hp2 : p < 2 ^ 32) (ht : t.natAbs < 2 ^ 201) (h : ∀ v w, A.nx (stB t (f * 2147483647 + fin5 G.cells t p) (some (.d (.int p))) v w) G) :
    ((aSeq (aSet 4 (cNv (cBin fAdd (cBin fMul (cK (.int 48271)) (cVar 1)) (cBin fDiv (cVar 3) (cK (.int 53))))))
    (aSeq (aFor (cDrC (cVar 0)) (gN 5) ((aSet 4 (cNv (cBin fMod (cApp fIntOf (cCons (cBin fAdd (cBin fAdd (cBin fMul (cVar 4) (cK (.int 69621))) (cVar 5)) (cVar 1)) cNil)) (cVar 3))))))
    (aSet 2 (cNv (cBin fAdd (cBin fMul (cVar 2) (cK (.int 2147483647))) (cBin fMod (cApp fIntOf (cCons (cBin fPow (cVar 4) (cK (.int 5))) cNil)) (cVar 3)))))))) A (stB t f (some (.d (.int p))) v w) G := by
  have b0 : (48271 * t + p.fdiv 53).natAbs < 2 ^ 250 := by
    have q1 : (p.fdiv 53).natAbs < 2 ^ 32 := by
      rw [Int.fdiv_eq_ediv_of_nonneg _ (by decide)]
      omega
    omega
  refine sq_set (x := .d (.int (48271 * t + p.fdiv 53))) (ev_nv (ev_bin (x := .d (.int (48271 * t))) (y := .d (.int (p.fdiv 53))) (ev_bin (x := .d (.int 48271)) (y := .d (.int t)) rfl rfl (fMul_small (.inl (by decide)))) (ev_bin (x := .d (.int p)) (y := .d (.int 53)) rfl rfl (fDiv_i (by decide))) rfl) rfl) ?_
  refine sq_forG (ds := G.cells.map PyData.int) (G1 := G) rfl ?_
  refine for_inv (fun ds S G1 => G1 = G ∧ ∃ rest b u, ds = rest.map PyData.int ∧ S = stB t f (some (.d (.int p))) (some (.d (.int b))) u ∧ rest.foldl (bStep t p) b = blend G.cells t p) ?_ ?_ _ _ _ ⟨rfl, G.cells, _, w, rfl, rfl, rfl⟩
  · rintro d r S G1 A' ⟨rfl, rest, b, u, hd, rfl, hb⟩ hn _ _ _ _
    cases rest with
    | nil => cases hd
    | cons c rest =>
      cases hd
      refine ⟨_, rfl, as_set (x := .d (.int (bStep t p b c))) (ev_nv (ev_bin (x := .d (.int (b * 69621 + c + t))) (y := .d (.int p)) (ev_app (ev_1 (x := .d (.int (b * 69621 + c + t))) (ev_bin (x := .d (.int (b * 69621 + c))) (y := .d (.int t)) (ev_bin (x := .d (.int (b * 69621))) (y := .d (.int c)) (ev_bin (x := .d (.int b)) (y := .d (.int 69621)) rfl rfl (fMul_small (.inr (by decide)))) rfl rfl) rfl rfl)) rfl) rfl (fMod_i (by omega))) rfl) (hn _ _ ⟨rfl, rest, _, _, rfl, rfl, hb⟩)⟩
  · rintro S G1 ⟨rfl, rest, b, u, hd, rfl, hb⟩
    cases rest with
    | cons => cases hd
    | nil =>
      have hb : b = blend G1.cells t p := hb
      subst hb
      have bs := fold_small (t := t) hp hp2 G1.cells _ b0
      refine as_set (x := .d (.int (f * 2147483647 + fin5 G1.cells t p))) (ev_nv (ev_bin (x := .d (.int (f * 2147483647))) (y := .d (.int (fin5 G1.cells t p))) (ev_bin (x := .d (.int f)) (y := .d (.int 2147483647)) rfl rfl (fMul_small (.inr (by decide)))) (ev_bin (x := .d (.int (blend G1.cells t p ^ 5))) (y := .d (.int p)) (ev_app (ev_1 (x := .d (.int (blend G1.cells t p ^ 5))) (ev_bin (x := .d (.int (blend G1.cells t p))) (y := .d (.int 5)) rfl rfl (fPow_i (cpw_of (by decide) (by decide) bs)))) rfl) rfl (fMod_i (by omega))) rfl) rfl) (h _ _)
theorem spec_blended (xs : List DV) (G : DG) (r : Rs DV) (G' : DG) (e : m_blended xs G = some (r, G')) : aBlended (AEof r G') (xs.map some ++ List.replicate (6 - xs.length) none) G := by
  obtain ⟨s, rfl, e1⟩ := on1_inv e
  cases s with
  | dr =>
    have e1 : (if 0 ≤ G.turn ∧ G.turn < 2 ^ 200 then some (Rs.ok (DV.d (.int (blended G.cells (G.turn + 1)))), { G with turn := G.turn + 1 }) else none) = some (r, G') := e1
    by_cases h : 0 ≤ G.turn ∧ G.turn < 2 ^ 200
    · rw [if_pos h] at e1
      cases e1
      have ht : (G.turn + 1).natAbs < 2 ^ 201 := by omega
      show aBlended _ [some .dr, none, none, none, none, none] G
      unfold aBlended
      refine sq_parG (x := .d (.int (G.turn + 1))) (y := .d (.int 0)) rfl rfl (sq_drset (n := G.turn + 1) rfl rfl (sq_for (ds := [.int 2147483579, .int 2147483629, .int 2147483563]) rfl ?_))
      refine prime_run (f := 0) (w := none) (by decide) (by decide) ht fun v w => ?_
      refine prime_run (w := w) (by decide) (by decide) ht fun v w => ?_
      refine prime_run (w := w) (by decide) (by decide) ht fun v w => ?_
      show aRet (cVar 2) (AEof (.ok (.d (.int (blended G.cells (G.turn + 1))))) { G with turn := G.turn + 1 }) (stB (G.turn + 1) (blended G.cells (G.turn + 1)) (some (.d (.int 2147483563))) v w) { G with turn := G.turn + 1 }
      exact aRet_is (x := .d (.int (blended G.cells (G.turn + 1)))) rfl ⟨rfl, rfl⟩
    · rw [if_neg h] at e1
      cases e1
  | d => cases e1
  | vl => cases e1
  | sc => cases e1
  | fn => cases e1
  | ex => cases e1
/-! ### a draw -/
def aDraw (m : List DV → M DV) : TSa :=
    (aSeq (aIf (cTest (cBin fEq (cDrI (fun G => G.rest) (cVar 0)) (cK (.int 0)))) ((aDrSet (fun n G => { G with rest := n }) (cVar 0) (cIf (cDrNe (cVar 0)) (cDrPop (cVar 0)) (cCall m (cCons (cVar 0) cNil))))) (aNext))
    (aSeq (aSet 2 (cNv (cBin fMod (cApp fIntOf (cCons (cDrI (fun G => G.rest) (cVar 0)) cNil)) (cVar 1))))
    (aSeq (aDrSet (fun n G => { G with rest := n }) (cVar 0) (cBin fDiv (cDrI (fun G => G.rest) (cVar 0)) (cVar 1)))
    (aRet (cVar 2)))))
/-- the draws with something to draw from -/
def refill (G : DG) : Option DG := if G.rest = 0 then (match G.great with
    | x :: r => some { G with rest := x, great := r }
    | [] => if 0 ≤ G.turn ∧ G.turn < 2 ^ 200 then some { G with rest := blended G.cells (G.turn + 1), turn := G.turn + 1 } else none)
  else some G
def drawn (G : DG) (n : Int) : Option (Int × DG) := (refill G).map fun G1 => (G1.rest.fmod n, { G1 with rest := G1.rest.fdiv n })
def mDrawn (n : Int) : M DV := fun G => (drawn G n).map fun p => (.ok (.d (.int p.1)), p.2)
def m_draw (xs : List DV) : M DV := on2 xs fun s r => onR s (onI r fun n => gd (0 < n ∧ n < 1073741824) (mDrawn n))
theorem draw_rest (E : AE) (n : Int) (hn : 0 < n ∧ n < 1073741824) (G1 : DG) (h : E.rt (.d (.int (G1.rest.fmod n))) { G1 with rest := G1.rest.fdiv n }) : (aSeq (aSet 2 (cNv (cBin fMod (cApp fIntOf (cCons (cDrI (fun G => G.rest) (cVar 0)) cNil)) (cVar 1))))
    (aSeq (aDrSet (fun n G => { G with rest := n }) (cVar 0) (cBin fDiv (cDrI (fun G => G.rest) (cVar 0)) (cVar 1)))
    (aRet (cVar 2)))) E [some .dr, some (.d (.int n)), none] G1 := by
  have h1 : cNv (cBin fMod (cApp fIntOf (cCons (cDrI (fun G => G.rest) (cVar 0)) cNil)) (cVar 1)) [some .dr, some (.d (.int n)), none] G1 = some (.ok (.d (.int (G1.rest.fmod n))), G1) := by
    show (mb (fMod (.d (.int G1.rest)) (.d (.int n))) fun x => if isVl x = true then mz else mp x) G1 = _
    rw [fMod_i (by omega)]
    rfl
  have h2 : cBin fDiv (cDrI (fun G => G.rest) (cVar 0)) (cVar 1) [some .dr, some (.d (.int n)), some (.d (.int (G1.rest.fmod n)))] G1 = some (.ok (.d (.int (G1.rest.fdiv n))), G1) := by
    show fDiv (.d (.int G1.rest)) (.d (.int n)) G1 = _
    rw [fDiv_i (by omega)]
    rfl
  exact aEv_ok h1 (aEv_ok h2 (aEv_ok (show cVar 0 [some .dr, some (.d (.int n)), some (.d (.int (G1.rest.fmod n)))] G1 = some (.ok .dr, G1) from rfl) ⟨_, rfl, rfl, h⟩))
theorem spec_draw (xs : List DV) (G : DG) (r : Rs DV) (G' : DG) (e : m_draw xs G = some (r, G')) : aDraw m_blended (AEof r G') (xs.map some ++ List.replicate (3 - xs.length) none) G := by
  obtain ⟨s, k, rfl, e1⟩ := on2_inv e
  cases s with
  | dr =>
    obtain ⟨n, rfl, e2⟩ := onI_inv (show onI k (fun n => gd (0 < n ∧ n < 1073741824) (mDrawn n)) G = some (r, G') from e1)
    obtain ⟨hn, e3⟩ := gd_of e2
    have e3 : (drawn G n).map (fun p => (Rs.ok (DV.d (.int p.1)), p.2)) = some (r, G') := e3
    unfold drawn at e3
    rw [Option.map_map] at e3
    obtain ⟨G1, eg, e4⟩ := Option.map_eq_some_iff.mp e3
    have e4 : (Rs.ok (DV.d (.int (G1.rest.fmod n))), { G1 with rest := G1.rest.fdiv n }) = (r, G') := e4
    cases e4
    show aDraw m_blended _ [some .dr, some (.d (.int n)), none] G
    unfold aDraw
    have fin := draw_rest (AEof (.ok (.d (.int (G1.rest.fmod n)))) { G1 with rest := G1.rest.fdiv n }) n hn G1 ⟨rfl, rfl⟩
    have ht : cTest (cBin fEq (cDrI (fun G => G.rest) (cVar 0)) (cK (.int 0))) [some .dr, some (.d (.int n)), none] G = some (.ok (G.rest == 0), G) := by
      show (mb (fEq (.d (.int G.rest)) (.d (.int 0))) fun x => onB x mp) G = _
      rw [fEq_d rfl rfl]
      show some (Rs.ok (PyData.eqv (.int G.rest) (.int 0)), G) = _
      simp [PyData.eqv]
    unfold refill at eg
    by_cases hz : G.rest = 0
    · rw [if_pos hz] at eg
      refine sq_ifG ht (fun _ => ?_) fun h => absurd h (by rw [hz]; decide)
      obtain ⟨gr, cs, re, tu⟩ := G
      cases gr with
      | cons x t =>
        cases eg
        have hi : cIf (cDrNe (cVar 0)) (cDrPop (cVar 0)) (cCall m_blended (cCons (cVar 0) cNil)) [some .dr, some (.d (.int n)), none] ⟨x :: t, cs, re, tu⟩ = some (.ok (.d (.int x)), ⟨t, cs, re, tu⟩) := rfl
        exact sq_drsetG hi rfl fin
      | nil =>
        have eg : (if 0 ≤ tu ∧ tu < 2 ^ 200 then some (⟨[], cs, blended cs (tu + 1), tu + 1⟩ : DG) else none) = some G1 := eg
        by_cases ht2 : 0 ≤ tu ∧ tu < 2 ^ 200
        · rw [if_pos ht2] at eg
          cases eg
          have hb : m_blended [.dr] ⟨[], cs, re, tu⟩ = some (.ok (.d (.int (blended cs (tu + 1)))), ⟨[], cs, re, tu + 1⟩) := if_pos ht2
          have hi : cIf (cDrNe (cVar 0)) (cDrPop (cVar 0)) (cCall m_blended (cCons (cVar 0) cNil)) [some .dr, some (.d (.int n)), none] ⟨[], cs, re, tu⟩ = some (.ok (.d (.int (blended cs (tu + 1)))), ⟨[], cs, re, tu + 1⟩) := by
            show cCall m_blended (cCons (cVar 0) cNil) [some .dr, some (.d (.int n)), none] ⟨[], cs, re, tu⟩ = _
            rw [ev_call (ev_1 (x := .dr) rfl) rfl, hb]
          exact sq_drsetG hi rfl fin
        · rw [if_neg ht2] at eg
          cases eg
    · rw [if_neg hz] at eg
      cases eg
      exact sq_ifG ht (fun h => absurd (by simpa using h) hz) fun _ => sq_nx fin
  | d => cases e1
  | vl => cases e1
  | sc => cases e1
  | fn => cases e1
  | ex => cases e1
/-! ### a pick -/
def aPick (m : List DV → M DV) : TSa := (aRet (cBin fIx (cVar 1) (cCall m (cCons (cVar 0) (cCons (cApp fLen (cCons (cVar 1) cNil)) cNil)))))
def picked (G : DG) (ds : List D) : Option (D × DG) := (drawn G (ds.length : Int)).bind fun p => (atI ds p.1).map fun d => (d, p.2)
def mPicked (ds : List D) : M DV := fun G => (picked G ds).map fun p => (.ok (.d p.1), p.2)
def onLst {β : Type} (x : DV) (k : List D → M β) : M β := match x with
  | .d (.list ds) => k ds
  | _ => mz
theorem onLst_inv {β : Type} {x : DV} {G : DG} {r : Rs β × DG} {k : List D → M β} (e : onLst x k G = some r) : ∃ ds, x = .d (.list ds) ∧ k ds G = some r := by
  obtain ⟨d, rfl, e⟩ : ∃ d, x = .d d ∧ onLst x k G = some r := by
    cases x with
    | d d => exact ⟨d, rfl, e⟩
    | vl => cases e
    | sc => cases e
    | dr => cases e
    | fn => cases e
    | ex => cases e
  cases d with
  | list ds => exact ⟨ds, rfl, e⟩
  | none => cases e
  | bool => cases e
  | int => cases e
  | str => cases e
  | tuple => cases e
  | dict => cases e
def m_pick (xs : List DV) : M DV := on2 xs fun s x => onR s (onLst x fun ds => gd (0 < ds.length ∧ ds.length ≤ 100000) (mPicked ds))
theorem draw_is {n : Int} (hn : 0 < n ∧ n < 1073741824) : m_draw [.dr, .d (.int n)] = mDrawn n := gd_yes hn
theorem pick_is {ds : List D} (hn : 0 < ds.length ∧ ds.length ≤ 100000) : m_pick [.dr, .d (.list ds)] = mPicked ds := gd_yes hn
theorem spec_pick (xs : List DV) (G : DG) (r : Rs DV) (G' : DG) (e : m_pick xs G = some (r, G')) : aPick m_draw (AEof r G') (xs.map some ++ List.replicate (2 - xs.length) none) G := by
  obtain ⟨s, k, rfl, e1⟩ := on2_inv e
  cases s with
  | dr =>
    obtain ⟨ds, rfl, e2⟩ := onLst_inv (show onLst k (fun ds => gd (0 < ds.length ∧ ds.length ≤ 100000) (mPicked ds)) G = some (r, G') from e1)
    obtain ⟨hl, e3⟩ := gd_of e2
    have e3 : (picked G ds).map (fun p => (Rs.ok (DV.d p.1), p.2)) = some (r, G') := e3
    obtain ⟨⟨d, G5⟩, e4, e5⟩ := Option.map_eq_some_iff.mp e3
    cases e5
    unfold picked at e4
    obtain ⟨⟨i, G3⟩, e6, e7⟩ := Option.bind_eq_some_iff.mp e4
    obtain ⟨d2, e8, e9⟩ := Option.map_eq_some_iff.mp e7
    cases e9
    have hc : cCall m_draw (cCons (cVar 0) (cCons (cApp fLen (cCons (cVar 1) cNil)) cNil)) [some .dr, some (.d (.list ds))] G = some (.ok (.d (.int i)), G3) := by
      rw [ev_call (ev_2 (x := .dr) (y := .d (.int (ds.length : Int))) rfl rfl) rfl, draw_is (by omega)]
      show (drawn G (ds.length : Int)).map (fun p => (Rs.ok (DV.d (.int p.1)), p.2)) = _
      rw [e6]
      rfl
    have hi : cBin fIx (cVar 1) (cCall m_draw (cCons (cVar 0) (cCons (cApp fLen (cCons (cVar 1) cNil)) cNil))) [some .dr, some (.d (.list ds))] G = some (.ok (.d d), G3) := by
      show mb (cCall m_draw (cCons (cVar 0) (cCons (cApp fLen (cCons (cVar 1) cNil)) cNil)) [some .dr, some (.d (.list ds))]) (fun y => fIx (.d (.list ds)) y) G = _
      rw [mb_some hc]
      show mo ((atI ds i).map DV.d) G3 = _
      rw [e8]
      rfl
    exact aEv_ok (k := fun x G1 => (AEof (.ok (.d d)) G3).rt (frz x) G1) hi ⟨rfl, rfl⟩
  | d => cases e1
  | vl => cases e1
  | sc => cases e1
  | fn => cases e1
  | ex => cases e1
end DL

/-! `_law_begun`, and the law's own frame. -/
namespace DL
open PySem PySem.Spec PyProof.Rows L2 LamX
/-- no tables of code objects -/
def noT (H : Hp) : Hp := fun b => match H b with
  | some (.tbl _) => none
  | x => x
theorem noT_of {H : Hp} {b : Addr} {o : HO} (e : H b = some o) (h : ∀ ps, o ≠ .tbl ps) : noT H b = some o := by
  unfold noT
  rw [e]
  cases o with
  | tbl ps => exact (h ps rfl).elim
  | _ => rfl
theorem noT_sub (H : Hp) : Sub (noT H) H := fun b o e => by
  unfold noT at e
  cases h : H b with
  | none =>
    rw [h] at e
    cases e
  | some u =>
    rw [h] at e
    cases u with
    | tbl ps => cases e
    | _ => exact e
theorem noT_nt (H : Hp) : NT (noT H) := fun b ps e => by
  have q := noT_sub H b _ e
  unfold noT at e
  rw [q] at e
  cases e
theorem noT_none {H : Hp} {b : Addr} (h : H b = none) : noT H b = none := by
  unfold noT
  rw [h]
theorem noT_sl {K : PySem.W.Frag} {H : Hp} {a : Addr} {xs : List V} (h : SqL K H a xs) : SqL K (noT H) a xs := by
  rcases h with h | h
  · refine .inl ?_
    rcases h with h | ⟨o, h⟩
    · exact .inl (noT_of h fun ps z => by cases z)
    · exact .inr ⟨o, noT_of h fun ps z => by cases z⟩
  · exact .inr h
def absI (i : Int) : Int := if i < 0 then -i else i
def greatsS (ns : List Int) : List Int := (ns.filter fun n => decide (10 ^ 18 ≤ absI n)).map fun n => absI n - 10 ^ 18
def cellsS (ns : List Int) : List Int := ns.map absI
/-- the draws at the start -/
def G0 (ns : List Int) : DG := ⟨greatsS ns, cellsS ns, 0, 0⟩
def spBegun (K : PySem.W.Frag) (TB : List (Addr × Str)) : Sp := fun vs H Q _ => ∃ (a : Addr) (ns : List Int), vs = [.ref a] ∧ SqL K (noT H) a (ns.map V.int) ∧ ns.length ≤ 63 ∧ Tabs TB H ∧
  ∀ H' dr g c, Sub (noT H) H' → noT H dr = none → noT H g = none → noT H c = none → dr ≠ g → dr ≠ c → g ≠ c → DrW dr g c (cellsS ns) H' (G0 ns) → Tabs TB H' → Q (.ref dr) H'
abbrev c1018 : SS → M DV := cBin fPow (cK (.int 10)) (cK (.int 18))
def cGreat : SS → M DV := cLc (cScr (cVar 0)) (gN 2) (cTest (cBin fGe (cApp fAbs (cCons (cVar 2) cNil)) c1018)) (cBin fSub (cApp fAbs (cCons (cVar 2) cNil)) c1018) [2]
def cCell : SS → M DV := cLc (cScr (cVar 0)) (gN 2) tYesC (cApp fAbs (cCons (cVar 2) cNil)) [2]
def bigD : D → Bool
  | .int n => decide (10 ^ 18 ≤ absI n)
  | _ => false
def lessD : D → D
  | .int n => .int (absI n - 10 ^ 18)
  | d => d
def absD : D → D
  | .int n => .int (absI n)
  | d => d
theorem c1018_is (S : SS) : c1018 S = mp (.d (.int (10 ^ 18))) := ev_bin (x := .d (.int 10)) (y := .d (.int 18)) rfl rfl (fPow_i (cpw_of (by decide) (by decide) (by decide)))
theorem cGreat_is {ns : List Int} {u w : Option DV} (hl : ns.length ≤ 63) : cGreat [some (.sc ns), u, w] = mp (.vl ((greatsS ns).map .int)) := by
  have h := cLc_map (ci := cScr (cVar 0)) (g := gN 2) (ct := cTest (cBin fGe (cApp fAbs (cCons (cVar 2) cNil)) c1018)) (ce := cBin fSub (cApp fAbs (cCons (cVar 2) cNil)) c1018) (vs := [2]) (S := [some (.sc ns), u, w]) (ds := ns.map .int) bigD lessD rfl (by rw [List.length_map]; omega) fun d hd => by
    obtain ⟨n, _, rfl⟩ := List.mem_map.mp hd
    have ha : cApp fAbs (cCons (cVar 2) cNil) [some (.sc ns), u, some (.d (.int n))] = mp (.d (.int (absI n))) := rfl
    refine ⟨[some (.sc ns), u, some (.d (.int n))], rfl, ?_, fun _ => ?_⟩
    · exact et_val (ev_bin ha (c1018_is _) rfl)
    · exact ev_bin ha (c1018_is _) rfl
  have e : ((ns.map PyData.int).filter bigD).map lessD = (greatsS ns).map .int := by
    unfold greatsS
    rw [List.filter_map, List.map_map, List.map_map]
    rfl
  rw [e] at h
  exact h
theorem cCell_is {ns : List Int} {u w : Option DV} (hl : ns.length ≤ 63) : cCell [some (.sc ns), u, w] = mp (.vl ((cellsS ns).map .int)) := by
  have h := cLc_all (ci := cScr (cVar 0)) (g := gN 2) (ce := cApp fAbs (cCons (cVar 2) cNil)) (vs := [2]) (S := [some (.sc ns), u, w]) (ds := ns.map .int) absD rfl (by rw [List.length_map]; omega) fun d hd => by
    obtain ⟨n, _, rfl⟩ := List.mem_map.mp hd
    exact ⟨[some (.sc ns), u, some (.d (.int n))], rfl, rfl⟩
  have e : (ns.map PyData.int).map absD = (cellsS ns).map .int := by
    unfold cellsS
    rw [List.map_map, List.map_map]
    rfl
  rw [e] at h
  exact h
/-- a new dict on the way -/
theorem St.newMu {K : PySem.W.Frag} {Φ : Fx} {F H : Hp} {σ : L2.St} {S : SS} {G : DG} (st : St K Φ F H σ S G) {p : Addr} (hp : H p = none) (o : HO) (ho : ∀ ps, o ≠ .tbl ps) : Step Φ F H F (upd H p o) ∧ Φ.W (upd H p o) G ∧ p ∉ Φ.ex ∧ F p = none := by
  have hne : p ∉ Φ.ex := fun z => st.ok.wne H _ st.w p z hp
  have fp : F p = none := by
    cases e : F p with
    | none => rfl
    | some u =>
      rw [st.sub p u e] at hp
      cases hp
  have sb : Sub H (upd H p o) := sub_upd hp
  exact ⟨⟨.refl F, st.sub.trans sb, st.noex, fun _ _ e => .inl e, fun b o e _ _ => sb b o e, id⟩, st.ok.wm _ _ _ _ hp ho st.w, hne, fp⟩
def tBeg (K : PySem.W.Frag) (Φ : Fx) : TS := tSeq (tS K Φ (aSet 1 cGreat)) (tRet (tDisp [(tC (.str "great"), tVar 1), (tC (.str "cells"), tV K Φ cCell), (tC (.str "rest"), tC (.int 0)), (tC (.str "turn"), tC (.int 0))]))
theorem begun_read {K : PySem.W.Frag} {gb : Gb} {TB : List (Addr × Str)} {H : Hp} {Q : VK} {E : XK} {a : Addr} {ns : List Int} (hS : SqL K (noT H) a (ns.map V.int)) (hl : ns.length ≤ 63) (hT : Tabs TB H)
    (q : ∀ H' dr g c, Sub (noT H) H' → noT H dr = none → noT H g = none → noT H c = none → dr ≠ g → dr ≠ c → g ≠ c → DrW dr g c (cellsS ns) H' (G0 ns) → Tabs TB H' → Q (.ref dr) H') :
    tBeg K ⟨gb, m0 TB, noT H, H, E⟩ { nx := fun _ H' => Q .non H', rt := Q } [some (.ref a), none, none] H := by
  have st0 : St K ⟨gb, m0 TB, noT H, H, E⟩ (noT H) H [some (.ref a), none, none] [some (.sc ns), none, none] (G0 ns) := by
    refine ⟨m0_ok TB, noT_sub H, fun b hb => absurd hb (List.not_mem_nil), .refl _, fun _ _ e => .inl e, fun _ _ e _ _ => e, noT_nt H, hT, rfl, fun i x e => ?_, fun i j p xs ys _ e => ?_⟩
    · match i, e with
      | 0, e =>
        cases e
        exact ⟨_, rfl, a, rfl, hS⟩
      | 1, e => cases e
      | 2, e => cases e
    · match i, e with
      | 0, e => cases e
      | 1, e => cases e
      | 2, e => cases e
  refine ⟨noT H, _, G0 ns, ⟨fun S G => S = [some (.sc ns), some (.vl ((greatsS ns).map .int)), none] ∧ G = G0 ns, fun _ _ => False, fun _ _ => False, fun _ _ => False, fun _ _ => False⟩, st0, ?_, ?_⟩
  · exact aEv_is (cGreat_is hl) ⟨rfl, rfl⟩
  · refine ⟨fun F1 H1 σ S G sb st hA => ?_, fun _ _ _ _ _ _ _ _ _ z => z.elim, fun _ _ _ _ _ _ z => z.elim, fun _ _ _ _ _ _ _ z => z.elim, fun _ _ _ _ _ _ _ z => z.elim⟩
    obtain ⟨rfl, rfl⟩ := hA
    show tDisp _ σ H1 Q
    intro p hp
    obtain ⟨v1, e1, g, gs, rfl, og, rg⟩ := st.at_ 1 _ rfl
    obtain ⟨s2, w2, pne, pF⟩ := st.newMu hp (.dK []) (fun ps z => by cases z)
    have st2 := st.step s2 w2
    refine ⟨.ref g, e1, ?_⟩
    refine ⟨F1, _, G0 ns, .ok (.vl ((cellsS ns).map .int)), G0 ns, st2, by rw [cCell_is hl]; rfl, fun F3 H3 s3 w3 v3 h3 => ?_⟩
    obtain ⟨⟨c, cs, rfl, oc, rc⟩, nc⟩ := h3
    obtain ⟨c', ec, nmc⟩ := nc rfl
    cases ec
    have hp3 : H3 p = some (.dK []) := s3.pres p _ upd_same rfl pne
    refine ⟨hp3, [(.inr "great", .ref g), (.inr "cells", .ref c), (.inr "rest", .int 0), (.inr "turn", .int 0)], rfl, (by show 4 ≤ 15; decide), ?_⟩
    have st3 := st2.step s3 w3
    have og3 := (og.step s2).step s3
    have gp : p ≠ g := fun z => by
      rw [z, og3.at_] at hp3
      cases hp3
    have cp : p ≠ c := fun z => by
      rw [z, oc.at_] at hp3
      cases hp3
    have gc : g ≠ c := fun z => nm_no nmc (by rw [← z]; exact (og.step s2).at_) rfl
    have hg3 := og3.at_
    have hc3 := oc.at_
    rw [RpAll.ofInts _ rg] at hg3
    rw [RpAll.ofInts _ rc] at hc3
    have nF0 : ∀ {b : Addr}, F3 b = none → noT H b = none := fun {b} e => by
      cases h : noT H b with
      | none => rfl
      | some u =>
        rw [st3.f0 b u h] at e
        cases e
    have pF3 : F3 p = none := by
      cases h : F3 p with
      | none => rfl
      | some u =>
        rcases s3.new p u h with z | z
        · rw [pF] at z
          cases z
        · exact (nm_no z upd_same rfl).elim
    refine q _ p g c (fun b o e => ?_) (nF0 pF3) (nF0 og3.nf) (nF0 oc.nf) gp cp gc ⟨upd_same, by rw [upd_ne (Ne.symm gp)]; exact hg3, by rw [upd_ne (Ne.symm cp)]; exact hc3, rfl⟩ (tabs_upd w3 hp3 rfl)
    have e3 := st3.f0 b o e
    rw [upd_ne (ne_of_none e3 pF3)]
    exact s3.sub b o e3
/-! ### the law's frame -/
def tEx (K : PySem.W.Frag) (eo : Er → Addr → HO) (ca : Str → Addr) (TB : List (Addr × Str)) (E : XK) (a : TSa) : TS := fun D σ H => ∃ dr g c cells F0, dr ≠ g ∧ dr ≠ c ∧ g ≠ c ∧ tS K ⟨⟨dr, eo, ca⟩, mD TB dr g c cells, F0, H, E⟩ a D σ H
theorem pss_ex {X : Cx} {ss : List Stmt} {eo : Er → Addr → HO} {ca : Str → Addr} {TB : List (Addr × Str)} {E : XK} {a : TSa} (h : ∀ (dr g c : Addr) (cells : List Int) (F0 H0 : Hp), dr ≠ g → dr ≠ c → g ≠ c → PSs X ss (tS X.K ⟨⟨dr, eo, ca⟩, mD TB dr g c cells, F0, H0, E⟩ a)) : PSs X ss (tEx X.K eo ca TB E a) :=
  ⟨fun pins s σ H D I ⟨dr, g, c, cells, F0, n1, n2, n3, q⟩ => (h dr g c cells F0 H n1 n2 n3).run pins s σ H D I q⟩
def ALaw : AE := ⟨fun _ _ => False, fun x _ => x = .d (.bool true), fun _ _ => False, fun _ _ => False, fun _ _ => False⟩
def spLaw (K : PySem.W.Frag) (TB : List (Addr × Str)) : Sp := fun vs H Q _ => ∃ (a : Addr) (ns : List Int), vs = [.ref a] ∧ SqL K H a (ns.map V.int) ∧ ns.length ≤ 63 ∧ Tabs TB H ∧ ∀ H', Q (.bl true) H'
theorem law_read {K : PySem.W.Frag} {eo : Er → Addr → HO} {ca : Str → Addr} {TB : List (Addr × Str)} {E : XK} {Q : VK} {H : Hp} {a : Addr} {ns : List Int} {aR : TSa} {n : Nat} (hS : SqL K H a (ns.map V.int)) (hl : ns.length ≤ 63) (hT : Tabs TB H) (hQ : ∀ H', Q (.bl true) H')
    (spec : aR ALaw (some (.sc ns) :: some .dr :: List.replicate n none) (G0 ns)) :
    tSeq (tAsg (tCall (spBegun K TB) [] E (tCons (tVar 0) tNil)) (gName 1)) (tEx K eo ca TB E aR) { nx := fun _ H' => Q .non H', rt := Q } (some (.ref a) :: none :: List.replicate n none) H := by
  refine ⟨.ref a, rfl, a, ns, rfl, noT_sl hS, hl, hT, fun H' dr g c sb f1 f2 f3 n1 n2 n3 w t => ?_⟩
  show tEx K eo ca TB E aR _ (some (.ref a) :: some (.ref dr) :: List.replicate n none) H'
  refine ⟨dr, g, c, cellsS ns, noT H, n1, n2, n3, noT H, some (.sc ns) :: some .dr :: List.replicate n none, G0 ns, ALaw, ?_, spec, ?_⟩
  · refine ⟨mD_ok TB dr g c _, sb, fun b hb => ?_, .refl _, fun _ _ e => .inl e, fun _ _ e _ _ => e, noT_nt H, ⟨w, t⟩, ?_, fun i x e => ?_, fun i j p xs ys _ e => ?_⟩
    · have hb : b ∈ [dr, g, c] := hb
      simp only [List.mem_cons, List.not_mem_nil, or_false] at hb
      rcases hb with rfl | rfl | rfl
      · exact f1
      · exact f2
      · exact f3
    · simp
    · match i, e with
      | 0, e =>
        cases e
        exact ⟨_, rfl, a, rfl, noT_sl hS⟩
      | 1, e =>
        cases e
        exact ⟨_, rfl, rfl⟩
      | i + 2, e =>
        have e : (List.replicate n (none : Option DV))[i]? = some (some x) := e
        have z := List.mem_of_getElem? e
        rw [List.mem_replicate] at z
        cases z.2
    · match i, e with
      | 0, e => cases e
      | 1, e => cases e
      | i + 2, e =>
        have e : (List.replicate n (none : Option DV))[i]? = some (some (.vl xs)) := e
        have z := List.mem_of_getElem? e
        rw [List.mem_replicate] at z
        cases z.2
  · refine ⟨fun _ _ _ _ _ _ _ z => z.elim, fun F2 H2 v x G _ _ rv _ hx => ?_, fun _ _ _ _ _ _ z => z.elim, fun _ _ _ _ _ _ _ z => z.elim, fun _ _ _ _ _ _ _ z => z.elim⟩
    have hx : x = .d (.bool true) := hx
    subst hx
    cases rv
    exact hQ H2
end DL

/-! mirrors that draw, computed. -/
namespace DL
open PySem PySem.Spec PyProof.Rows L2 LamX
section
variable {S : SS} {G G1 G2 G3 : DG} {a b c d : SS → M DV} {x y z w : DV}
theorem pg {α : Type} {m : M α} {x : α} (h : m = mp x) (G : DG) : m G = some (.ok x, G) := congrFun h G
theorem eg_bin {f : DV → DV → M DV} (h1 : a S G = some (.ok x, G1)) (h2 : b S G1 = some (.ok y, G2)) (h3 : f x y = mp z) : cBin f a b S G = some (.ok z, G2) := by
  unfold cBin
  rw [mb_some h1, mb_some h2, h3]
  rfl
theorem eg_un {f : DV → M DV} (h1 : a S G = some (.ok x, G1)) (h3 : f x = mp z) : cUn f a S G = some (.ok z, G1) := by
  unfold cUn
  rw [mb_some h1, h3]
  rfl
theorem eg_app {f : List DV → M DV} {e : SS → M (List DV)} {xs : List DV} (h1 : e S G = some (.ok xs, G1)) (h3 : f xs G1 = some (.ok z, G2)) : cApp f e S G = some (.ok z, G2) := by
  unfold cApp
  rw [mb_some h1, h3]
theorem eg_cons {e : SS → M (List DV)} {xs : List DV} (h1 : a S G = some (.ok x, G1)) (h2 : e S G1 = some (.ok xs, G2)) : cCons a e S G = some (.ok (x :: xs), G2) := by
  unfold cCons
  rw [mb_some h1, mb_some h2]
  rfl
theorem eg_1 (h1 : a S G = some (.ok x, G1)) : cCons a cNil S G = some (.ok [x], G1) := eg_cons h1 rfl
theorem eg_2 (h1 : a S G = some (.ok x, G1)) (h2 : b S G1 = some (.ok y, G2)) : cCons a (cCons b cNil) S G = some (.ok [x, y], G2) := eg_cons h1 (eg_1 h2)
theorem eg_call {f : List DV → M DV} {e : SS → M (List DV)} {xs : List DV} {r : Option (Rs DV × DG)} (h1 : e S G = some (.ok xs, G1)) (hv : xs.all (fun x => !isVl x) = true) (h2 : f xs G1 = r) : cCall f e S G = r := by
  unfold cCall
  rw [mb_some h1, gd_yes hv, h2]
theorem eg_fz (h : a S G = some (.ok x, G1)) : cFz a S G = some (.ok (frz x), G1) := by
  unfold cFz
  rw [mb_some h]
  rfl
theorem eg_nv (h : a S G = some (.ok x, G1)) (hv : isVl x = false) : cNv a S G = some (.ok x, G1) := by
  unfold cNv
  rw [mb_some h, hv, if_neg Bool.false_ne_true]
  rfl
theorem eg_lc {ci : SS → M (List D)} {g : D → SS → Option SS} {ct : SS → M Bool} {ce : SS → M DV} {vs : List Nat} {ds es : List D} (h1 : ci S G = some (.ok ds, G1)) (hl : ds.length ≤ 100000) (h2 : lcL g ct ce (wipeS S vs) ds [] G1 = some (.ok es, G2)) : cLc ci g ct ce vs S G = some (.ok (.vl es), G2) := by
  unfold cLc
  rw [mb_some h1, gd_yes hl, mb_some h2]
  rfl
theorem eg_caught {errs : List Str} {e : Er} (h : a S G = some (.er e, G1)) (h1 : e.fs = [] ∧ e.cls ∈ errs) : cCaught errs a S G = some (.ok (.ex e), G1) := by
  show (match a S G with | some (.ok _, G1) => some (Rs.ok (DV.d .none), G1) | some (.er e, G1) => if e.fs = [] ∧ e.cls ∈ errs then some (Rs.ok (DV.ex e), G1) else none | none => none) = _
  rw [h]
  exact if_pos h1
theorem eg_caught0 {errs : List Str} (h : a S G = some (.ok x, G1)) : cCaught errs a S G = some (.ok (.d .none), G1) := by
  show (match a S G with | some (.ok _, G1) => some (Rs.ok (DV.d .none), G1) | some (.er e, G1) => if e.fs = [] ∧ e.cls ∈ errs then some (Rs.ok (DV.ex e), G1) else none | none => none) = _
  rw [h]
theorem eg_test {k : Bool} (h : a S G = some (.ok (.d (.bool k)), G1)) : cTest a S G = some (.ok k, G1) := by
  unfold cTest
  rw [mb_some h]
  rfl
end
section
variable {S : SS} {G G1 : DG} {A : AE} {p q u : TSa} {c : SS → M DV} {t : SS → M Bool} {x : DV} {k : Bool}
theorem sq_setG {i : Nat} (h : c S G = some (.ok x, G1)) (h1 : q A (S.set i (some x)) G1) : aSeq (aSet i c) q A S G := aEv_ok h h1
theorem as_ifG (h : t S G = some (.ok k, G1)) (h1 : k = true → p A S G1) (h2 : k = false → q A S G1) : aIf t p q A S G := aEv_ok h (by
  cases k with
  | true =>
    rw [if_pos rfl]
    exact h1 rfl
  | false =>
    rw [if_neg Bool.false_ne_true]
    exact h2 rfl)
end
end DL
/-! ### what leaves the draws alone -/
namespace DL
open PySem L2
def Pu {β : Type} (m : M β) : Prop := ∀ G r G', m G = some (r, G') → G' = G
theorem pu_mp {β : Type} {x : β} : Pu (mp x) := fun G r G' e => by
  cases e
  rfl
theorem pu_mz {β : Type} : Pu (mz : M β) := fun G r G' e => by cases e
theorem pu_me {β : Type} {x : Er} : Pu (me x : M β) := fun G r G' e => by
  cases e
  rfl
theorem pu_mb {α β : Type} {m : M α} {k : α → M β} (h : Pu m) (h2 : ∀ x, Pu (k x)) : Pu (mb m k) := fun G r G' e => by
  rcases mb_cases e with ⟨x, e1, rfl⟩ | ⟨x, G1, e1, e2⟩
  · exact h _ _ _ e1
  · rw [h2 x _ _ _ e2, h _ _ _ e1]
theorem pu_mo {β : Type} {o : Option β} : Pu (mo o) := by
  cases o with
  | none => exact pu_mz
  | some x => exact pu_mp
theorem pu_gd {β : Type} {p : Prop} {inst : Decidable p} {m : M β} (h : Pu m) : Pu (@gd β p inst m) := fun G r G' e => h _ _ _ (gd_of e).2
theorem pu_ite {β : Type} {p : Prop} [Decidable p] {m n : M β} (h : Pu m) (h2 : Pu n) : Pu (if p then m else n) := by
  by_cases q : p
  · rw [if_pos q]
    exact h
  · rw [if_neg q]
    exact h2
theorem pu_on1 {β : Type} {xs : List DV} {k : DV → M β} (h : ∀ x, Pu (k x)) : Pu (on1 xs k) := fun G r G' e => by
  obtain ⟨x, rfl, e⟩ := on1_inv e
  exact h _ _ _ _ e
theorem pu_on2 {β : Type} {xs : List DV} {k : DV → DV → M β} (h : ∀ x y, Pu (k x y)) : Pu (on2 xs k) := fun G r G' e => by
  obtain ⟨x, y, rfl, e⟩ := on2_inv e
  exact h _ _ _ _ _ e
theorem pu_on3 {β : Type} {xs : List DV} {k : DV → DV → DV → M β} (h : ∀ x y z, Pu (k x y z)) : Pu (on3 xs k) := fun G r G' e => by
  obtain ⟨x, y, z, rfl, e⟩ := on3_inv e
  exact h _ _ _ _ _ _ e
theorem pu_onD {β : Type} {x : DV} {k : D → M β} (h : ∀ x, Pu (k x)) : Pu (onD x k) := fun G r G' e => by
  obtain ⟨d, rfl, e⟩ := onD_inv e
  exact h _ _ _ _ e
theorem pu_onS {β : Type} {x : DV} {k : Str → M β} (h : ∀ x, Pu (k x)) : Pu (onS x k) := fun G r G' e => by
  obtain ⟨d, rfl, e⟩ := onS_inv e
  exact h _ _ _ _ e
theorem pu_onI {β : Type} {x : DV} {k : Int → M β} (h : ∀ x, Pu (k x)) : Pu (onI x k) := fun G r G' e => by
  obtain ⟨d, rfl, e⟩ := onI_inv e
  exact h _ _ _ _ e
theorem pu_onT {β : Type} {x : DV} {k : List D → M β} (h : ∀ x, Pu (k x)) : Pu (onT x k) := fun G r G' e => by
  obtain ⟨d, rfl, e⟩ := onT_inv e
  exact h _ _ _ _ e
theorem pu_onB {β : Type} {x : DV} {k : Bool → M β} (h : ∀ x, Pu (k x)) : Pu (onB x k) := by
  cases x with
  | d x => cases x <;> first | exact h _ | exact pu_mz
  | _ => exact pu_mz
theorem pu_onTS {β : Type} {x : DV} {k : List Str → M β} (h : ∀ x, Pu (k x)) : Pu (onTS x k) := pu_onT fun _ => pu_mb pu_mo h
theorem on1_len {β : Type} {xs : List DV} {k : DV → M β} {G : DG} {r : Rs β × DG} (e : on1 xs k G = some r) : xs.length = 1 := by
  obtain ⟨_, rfl, _⟩ := on1_inv e
  rfl
theorem on2_len {β : Type} {xs : List DV} {k : DV → DV → M β} {G : DG} {r : Rs β × DG} (e : on2 xs k G = some r) : xs.length = 2 := by
  obtain ⟨_, _, rfl, _⟩ := on2_inv e
  rfl
theorem on3_len {β : Type} {xs : List DV} {k : DV → DV → DV → M β} {G : DG} {r : Rs β × DG} (e : on3 xs k G = some r) : xs.length = 3 := by
  obtain ⟨_, _, _, rfl, _⟩ := on3_inv e
  rfl
/-! ### errors' classes -/
open PySem.W in
theorem kit_self {K : Frag} {v : Value} : kitOne K v v = some true := by
  unfold kitOne
  rw [if_pos (beq_self_eq_true v)]
open PySem.W in
theorem kit_cls {K : Frag} {s S : Addr} {b : Bool} (h2 : isClsIn K S = true) (h3 : typeIn K (.ref S) = some (.type "type")) (h4 : subIn K (.ref s) (.ref S) = some b) : kitCls K (.ref s) (.ref S) = some b := by
  have e2 : ((clsIn K S).isSome && typeIn K (.ref S) == some (.type "type")) = true := by
    have h2' : (clsIn K S).isSome = true := h2
    rw [h2', h3] <;> rfl
  show (if ((clsIn K S).isSome && typeIn K (.ref S) == some (.type "type")) = true then subIn K (.ref s) (.ref S) else none) = some b
  rw [if_pos e2]
  exact h4
open PySem.W in
theorem kit_of {K : Frag} {s S : Addr} {b : Bool} (hn : (Value.ref s == Value.ref S) = false) (h2 : isClsIn K S = true) (h3 : typeIn K (.ref S) = some (.type "type")) (h4 : subIn K (.ref s) (.ref S) = some b) : kitOne K (.ref s) (.ref S) = some b := by
  unfold kitOne
  rw [hn, if_neg Bool.false_ne_true]
  exact kit_cls h2 h3 h4
open PySem.W in
theorem exm_of {K : Frag} {s S : Addr} {b : Bool} (h1 : subIn K (.ref S) (.type "BaseException") = some true) (h2 : isClsIn K S = true) (h3 : typeIn K (.ref S) = some (.type "type")) (h4 : subIn K (.ref s) (.ref S) = some b) : exmOne K (.ref s) (.ref S) = some b := by
  have e1 : (subIn K (.ref S) (.type "BaseException") == some true) = true := by rw [h1] <;> rfl
  show (if (subIn K (.ref S) (.type "BaseException") == some true) = true then kitCls K (.ref s) (.ref S) else none) = some b
  rw [if_pos e1]
  exact kit_cls h2 h3 h4
end DL

/-! any number can be drawn, some turns later. -/
namespace DL
open PySem L2
def stepA : Nat → Int
  | 0 => 48271
  | n + 1 => stepA n * 69621 + 1
def inv1 : List Int := [1205582182, 779941293, 591703458, 1502032532, 288865675, 880587422, 1352831449, 962017802, 1432699554, 927904781, 128666634, 2063716673, 1877152965, 632197543, 867546538, 638220818, 679381320, 1781127643, 605640528, 2005910369, 1586226135, 2078812342, 1214818027, 1273300047, 947589524, 763901756, 1109188843, 504948053, 1049393938, 1064720707, 802780748, 937220269, 134488313, 938179489, 1650834894, 220938279, 1030310235, 1626523555, 504514476, 361031968, 1145181942, 1867883861, 926760588, 1291869796, 1002280941, 789255486, 1780437747, 710068898, 1553164491, 137339503, 1506768713, 1180438773, 444518459, 1542741782, 1216358227, 1004919072, 66226505, 1331952165, 1913162870, 227089903, 476209765, 132778796, 1776867450, 1632882210]
def inv2 : List Int := [275025249, 1140029759, 709356420, 1725644089, 42849082, 1137780967, 545856801, 556070778, 1665992313, 2005717227, 357387723, 542361775, 1455788297, 1946898299, 1957794201, 221409741, 1935166767, 1315911684, 1184215216, 1582920764, 1892912217, 537463907, 581587346, 237745208, 1111030566, 1662203127, 38578365, 866765837, 333295158, 1366951581, 1545534075, 820580757, 1111396485, 1390543369, 1204509690, 791796526, 361742855, 590040259, 897645098, 357370255, 2037655455, 21233134, 1224694070, 1067888065, 1497828202, 1805991292, 30414441, 1146293843, 1919963558, 1784081882, 1059171993, 602173631, 1478438251, 1788902492, 1619219956, 103174550, 1556244951, 1603773266, 724851864, 284764003, 374027230, 1091836693, 551701441, 430413945]
def inv3 : List Int := [1419347343, 347557379, 1590066861, 847256278, 1462761509, 1774704950, 487534935, 1971304333, 408940469, 1302925771, 1870179674, 1631053694, 55381432, 2049974403, 667679734, 9873746, 1055874355, 781851530, 474388795, 1520512293, 652726122, 1635078249, 1404607963, 860444482, 1590609095, 1887491724, 2090243197, 112718994, 1304194969, 1093210966, 99323286, 782266491, 1448097156, 1990463639, 1070898647, 211107409, 1224110375, 418275916, 2133384192, 1100529630, 996446619, 2067029230, 1546842161, 1271545874, 297140261, 899193807, 279846889, 1493099733, 1387551531, 885615159, 814974700, 1457353183, 1443336335, 1761273202, 2088426005, 1590067037, 1935868037, 1297077803, 188786117, 25712268, 1481326497, 1260127301, 1238946965, 1915669160]
theorem inv1_ok : ∀ n < 64, 2147483579 ∣ inv1.getD n 0 * stepA n - 1 := by decide +kernel
theorem inv2_ok : ∀ n < 64, 2147483629 ∣ inv2.getD n 0 * stepA n - 1 := by decide +kernel
theorem inv3_ok : ∀ n < 64, 2147483563 ∣ inv3.getD n 0 * stepA n - 1 := by decide +kernel
theorem fmod_dvd (a p : Int) : p ∣ a.fmod p - a := by
  have h := Int.mul_fdiv_add_fmod a p
  exact ⟨- (a.fdiv p), by rw [Int.mul_neg]; omega⟩
/-- the blended number is affine in the turn, but for a multiple -/
theorem fold_aff (p : Int) : ∀ (cs : List Int) (n : Nat) (s : Int → Int) (C : Int), (∀ t, p ∣ s t - (stepA n * t + C)) → ∃ C, ∀ t, p ∣ cs.foldl (bStep t p) (s t) - (stepA (n + cs.length) * t + C)
  | [], n, s, C, h => ⟨C, h⟩
  | c :: r, n, s, C, h => by
    obtain ⟨C2, h2⟩ := fold_aff p r (n + 1) (fun t => bStep t p (s t) c) (C * 69621 + c) fun t => by
      have h1 := fmod_dvd (s t * 69621 + c + t) p
      have h3 : p ∣ (s t - (stepA n * t + C)) * 69621 := Int.dvd_trans (h t) (Int.dvd_mul_right ..)
      have h4 := Int.dvd_add h1 h3
      show p ∣ (s t * 69621 + c + t).fmod p - ((stepA n * 69621 + 1) * t + (C * 69621 + c))
      have e : (s t * 69621 + c + t).fmod p - ((stepA n * 69621 + 1) * t + (C * 69621 + c)) = (s t * 69621 + c + t).fmod p - (s t * 69621 + c + t) + (s t - (stepA n * t + C)) * 69621 := by
        simp only [Int.sub_mul, Int.add_mul, Int.mul_right_comm (stepA n) t 69621]
        omega
      rw [e]
      exact h4
    refine ⟨C2, fun t => ?_⟩
    have q := h2 t
    rw [show n + 1 + r.length = n + (c :: r).length by rw [List.length_cons]; omega] at q
    exact q
theorem blend_aff (p : Int) (cs : List Int) : ∃ C, ∀ t, p ∣ blend cs t p - (stepA cs.length * t + C) := by
  obtain ⟨C, h⟩ := fold_aff p cs 0 (fun t => 48271 * t + p.fdiv 53) (p.fdiv 53) fun t => ⟨0, by show 48271 * t + p.fdiv 53 - (48271 * t + p.fdiv 53) = p * 0; omega⟩
  refine ⟨C, fun t => ?_⟩
  have q := h t
  rw [Nat.zero_add] at q
  exact q
/-- a turn for a wanted value -/
theorem wanted (p I : Int) (cs : List Int) (hI : p ∣ I * stepA cs.length - 1) (y : Int) : ∃ a, ∀ t, p ∣ t - a → p ∣ blend cs t p - y := by
  obtain ⟨C, h⟩ := blend_aff p cs
  refine ⟨I * (y - C), fun t ht => ?_⟩
  have h1 := h t
  have h2 : p ∣ stepA cs.length * (t - I * (y - C)) := Int.dvd_trans ht (Int.dvd_mul_left ..)
  have h3 : p ∣ (I * stepA cs.length - 1) * (y - C) := Int.dvd_trans hI (Int.dvd_mul_right ..)
  have e : blend cs t p - y = (blend cs t p - (stepA cs.length * t + C)) + stepA cs.length * (t - I * (y - C)) + (I * stepA cs.length - 1) * (y - C) := by
    rw [Int.mul_sub, Int.sub_mul, Int.one_mul, ← Int.mul_assoc, Int.mul_comm (stepA cs.length) I]
    omega
  rw [e]
  exact Int.dvd_add (Int.dvd_add h1 h2) h3
theorem pow5 (p b y f : Int) (h : p ∣ b - y) (hf : 0 ≤ f ∧ f < p) (hy : p ∣ y ^ 5 - f) : (b ^ 5).fmod p = f := by
  have h1 : p ∣ b ^ 5 - y ^ 5 := by
    have e : b ^ 5 - y ^ 5 = (b - y) * (b ^ 4 + b ^ 3 * y + b ^ 2 * y ^ 2 + b * y ^ 3 + y ^ 4) := by
      simp only [Int.pow_succ, Int.pow_zero, Int.one_mul, Int.sub_mul, Int.mul_add]
      have c1 : y * (b * b * b * b) = b * b * b * b * y := Int.mul_comm ..
      have c2 : y * (b * b * b * y) = b * b * b * y * y := by rw [Int.mul_comm]
      have c3 : y * (b * b * (y * y)) = b * b * y * y * y := by rw [Int.mul_comm]; simp only [Int.mul_assoc]
      have c4 : y * (b * (y * y * y)) = b * y * y * y * y := by rw [Int.mul_comm]; simp only [Int.mul_assoc]
      have c5 : y * (y * y * y * y) = y * y * y * y * y := Int.mul_comm ..
      have d1 : b * (b * b * b * b) = b * b * b * b * b := Int.mul_comm ..
      have d2 : b * (b * b * b * y) = b * b * b * b * y := by simp only [Int.mul_assoc]
      have d3 : b * (b * b * (y * y)) = b * b * b * y * y := by simp only [Int.mul_assoc]
      have d4 : b * (b * (y * y * y)) = b * b * y * y * y := by simp only [Int.mul_assoc]
      have d5 : b * (y * y * y * y) = b * y * y * y * y := by simp only [Int.mul_assoc]
      rw [c1, c2, c3, c4, c5, d1, d2, d3, d4, d5]
      omega
    rw [e]
    exact Int.dvd_trans h (Int.dvd_mul_right ..)
  have h2 := fmod_dvd (b ^ 5) p
  have h3 : p ∣ (b ^ 5).fmod p - f := by
    have q := Int.dvd_add (Int.dvd_add h2 h1) hy
    rw [show (b ^ 5).fmod p - b ^ 5 + (b ^ 5 - y ^ 5) + (y ^ 5 - f) = (b ^ 5).fmod p - f by omega] at q
    exact q
  have n1 := Int.fmod_nonneg_of_pos (b ^ 5) (show 0 < p by omega)
  have n2 := Int.fmod_lt_of_pos (b ^ 5) (show 0 < p by omega)
  obtain ⟨k, hk⟩ := h3
  have k1 : k < 1 := by
    refine Int.not_le.mp fun hk1 => ?_
    have := Int.mul_le_mul_of_nonneg_left hk1 (show 0 ≤ p by omega)
    omega
  have k2 : -1 < k := by
    refine Int.not_le.mp fun hk1 => ?_
    have := Int.mul_le_mul_of_nonneg_left hk1 (show 0 ≤ p by omega)
    omega
  have k0 : k = 0 := by omega
  rw [k0, Int.mul_zero] at hk
  omega
abbrev p1 : Int := 2147483579
abbrev p2 : Int := 2147483629
abbrev p3 : Int := 2147483563
abbrev PP : Int := 9903519516461379889783524533
abbrev e1 : Int := 235208588510193165138497345
abbrev e2 : Int := 1293459670181656490358913329
abbrev e3 : Int := 8374851257769530234286113860
theorem three (a b c t0 : Int) : ∃ t, t0 < t ∧ t ≤ t0 + PP ∧ p1 ∣ t - a ∧ p2 ∣ t - b ∧ p3 ∣ t - c := by
  have key : ∀ z : Int, ∃ t, t0 < t ∧ t ≤ t0 + PP ∧ PP ∣ t - z := fun z => by
    refine ⟨t0 + 1 + (z - t0 - 1).emod PP, ?_, ?_, ?_⟩
    · have := Int.emod_nonneg (z - t0 - 1) (show PP ≠ 0 by decide)
      show t0 < t0 + 1 + (z - t0 - 1) % PP
      omega
    · have := Int.emod_lt_of_pos (z - t0 - 1) (show 0 < PP by decide)
      show t0 + 1 + (z - t0 - 1) % PP ≤ t0 + PP
      omega
    · have := Int.emod_add_mul_ediv (z - t0 - 1) PP
      refine ⟨-((z - t0 - 1) / PP), ?_⟩
      show t0 + 1 + (z - t0 - 1) % PP - z = PP * -((z - t0 - 1) / PP)
      rw [Int.mul_neg]
      omega
  obtain ⟨t, h1, h2, h3⟩ := key (a * e1 + b * e2 + c * e3)
  have part : ∀ p k x1 x2 x3 z1 z2 z3 : Int, PP = p * k → z1 - x1 = 0 → True := fun _ _ _ _ _ _ _ _ _ _ => trivial
  refine ⟨t, h1, h2, ?_, ?_, ?_⟩
  · have q : p1 ∣ PP := by decide +kernel
    have q1 : p1 ∣ e1 - 1 := by decide +kernel
    have q2 : p1 ∣ e2 := by decide +kernel
    have q3 : p1 ∣ e3 := by decide +kernel
    have z := Int.dvd_add (Int.dvd_add (Int.dvd_trans q h3) (Int.dvd_trans q1 (Int.dvd_mul_left a (e1 - 1)))) (Int.dvd_add (Int.dvd_trans q2 (Int.dvd_mul_left b e2)) (Int.dvd_trans q3 (Int.dvd_mul_left c e3)))
    rw [show t - a = t - (a * e1 + b * e2 + c * e3) + a * (e1 - 1) + (b * e2 + c * e3) by rw [Int.mul_sub, Int.mul_one]; omega]
    exact z
  · have q : p2 ∣ PP := by decide +kernel
    have q1 : p2 ∣ e2 - 1 := by decide +kernel
    have q2 : p2 ∣ e1 := by decide +kernel
    have q3 : p2 ∣ e3 := by decide +kernel
    have z := Int.dvd_add (Int.dvd_add (Int.dvd_trans q h3) (Int.dvd_trans q1 (Int.dvd_mul_left b (e2 - 1)))) (Int.dvd_add (Int.dvd_trans q2 (Int.dvd_mul_left a e1)) (Int.dvd_trans q3 (Int.dvd_mul_left c e3)))
    rw [show t - b = t - (a * e1 + b * e2 + c * e3) + b * (e2 - 1) + (a * e1 + c * e3) by rw [Int.mul_sub, Int.mul_one]; omega]
    exact z
  · have q : p3 ∣ PP := by decide +kernel
    have q1 : p3 ∣ e3 - 1 := by decide +kernel
    have q2 : p3 ∣ e1 := by decide +kernel
    have q3 : p3 ∣ e2 := by decide +kernel
    have z := Int.dvd_add (Int.dvd_add (Int.dvd_trans q h3) (Int.dvd_trans q1 (Int.dvd_mul_left c (e3 - 1)))) (Int.dvd_add (Int.dvd_trans q2 (Int.dvd_mul_left a e1)) (Int.dvd_trans q3 (Int.dvd_mul_left b e2)))
    rw [show t - c = t - (a * e1 + b * e2 + c * e3) + c * (e3 - 1) + (a * e1 + b * e2) by rw [Int.mul_sub, Int.mul_one]; omega]
    exact z
theorem aim (cs : List Int) (hn : cs.length < 64) (y1 y2 y3 f1 f2 f3 t0 : Int) (h1 : 0 ≤ f1 ∧ f1 < p1) (h2 : 0 ≤ f2 ∧ f2 < p2) (h3 : 0 ≤ f3 ∧ f3 < p3) (k1 : p1 ∣ y1 ^ 5 - f1) (k2 : p2 ∣ y2 ^ 5 - f2) (k3 : p3 ∣ y3 ^ 5 - f3) :
    ∃ t, t0 < t ∧ t ≤ t0 + PP ∧ blended cs t = ((0 * 2147483647 + f1) * 2147483647 + f2) * 2147483647 + f3 := by
  obtain ⟨a, ha⟩ := wanted p1 _ cs (inv1_ok _ hn) y1
  obtain ⟨b, hb⟩ := wanted p2 _ cs (inv2_ok _ hn) y2
  obtain ⟨c, hc⟩ := wanted p3 _ cs (inv3_ok _ hn) y3
  obtain ⟨t, l1, l2, q1, q2, q3⟩ := three a b c t0
  refine ⟨t, l1, l2, ?_⟩
  unfold blended fin5
  rw [pow5 _ _ _ _ (ha t q1) h1 k1, pow5 _ _ _ _ (hb t q2) h2 k2, pow5 _ _ _ _ (hc t q3) h3 k3]
/-- the number all of whose letters are this one -/
def mono (l : Int) : Int := 8 * l * 1179180408000556754576343
theorem aim_mono (cs : List Int) (hn : cs.length < 64) (t0 : Int) : ∀ l ∈ [(1 : Int), 2, 3, 4, 5], ∃ t, t0 < t ∧ t ≤ t0 + PP ∧ blended cs t = mono l := by
  intro l hl
  simp only [List.mem_cons, List.not_mem_nil, or_false] at hl
  rcases hl with rfl | rfl | rfl | rfl | rfl
  · exact aim cs hn 1250913670 551032143 434731467 2045551 2014501890 1301857355 t0 (by decide) (by decide) (by decide) (by decide +kernel) (by decide +kernel) (by decide +kernel)
  · exact aim cs hn 952367335 458324651 1138727727 4091103 1881520134 456231063 t0 (by decide) (by decide) (by decide) (by decide +kernel) (by decide +kernel) (by decide +kernel)
  · exact aim cs hn 470573317 1159615656 936179083 6136655 1748538377 1758088418 t0 (by decide) (by decide) (by decide) (by decide +kernel) (by decide +kernel) (by decide +kernel)
  · exact aim cs hn 1236049407 955834410 1867499515 8182207 1615556621 912462126 t0 (by decide) (by decide) (by decide) (by decide +kernel) (by decide +kernel) (by decide +kernel)
  · exact aim cs hn 751529387 185202117 982655102 10227759 1482574865 66835834 t0 (by decide) (by decide) (by decide) (by decide +kernel) (by decide +kernel) (by decide +kernel)
end DL

/-! words drawn until there are enough: it ends. -/
namespace DL
open PySem L2
/-- what the draws hold, before a turn -/
structure Pre (cs : List Int) (T : Int) (G : DG) : Prop where
  cells : G.cells = cs
  lo : 0 ≤ G.turn
  hi : G.turn < T
  rest : 0 ≤ G.rest
  great : ∀ x ∈ G.great, 0 ≤ x
def sz (T : Int) (G : DG) : Nat × Nat × Nat := ((T - G.turn).toNat, G.great.length, G.rest.toNat)
abbrev Less (a b : Nat × Nat × Nat) : Prop := Prod.Lex (· < ·) (Prod.Lex (· < ·) (· < ·)) a b
theorem less_wf : WellFounded Less := (Prod.lex ⟨_, Nat.lt_wfRel.wf⟩ (Prod.lex ⟨_, Nat.lt_wfRel.wf⟩ ⟨_, Nat.lt_wfRel.wf⟩)).wf
theorem less_trans {a b c : Nat × Nat × Nat} (h1 : Less a b) (h2 : Less b c) : Less a c := by
  obtain ⟨a1, a2, a3⟩ := a
  obtain ⟨b1, b2, b3⟩ := b
  obtain ⟨c1, c2, c3⟩ := c
  simp only [Less, Prod.lex_def] at *
  omega
theorem fdiv_small {q n : Int} (hq : 0 ≤ q) (hn : 2 ≤ n) : 0 ≤ q.fdiv n ∧ (q ≠ 0 → q.fdiv n < q) ∧ q.fdiv n ≤ q := by
  rw [Int.fdiv_eq_ediv_of_nonneg _ (by omega)]
  have h1 := Int.ediv_nonneg hq (show 0 ≤ n by omega)
  have h2 := Int.ediv_mul_le q (show n ≠ 0 by omega)
  have h3 : q / n * 2 ≤ q / n * n := Int.mul_le_mul_of_nonneg_left hn h1
  refine ⟨h1, fun h => ?_, ?_⟩ <;> omega
theorem blended_nn (cs : List Int) (t : Int) : 0 ≤ blended cs t := by
  unfold blended fin5
  have h1 := Int.fmod_nonneg_of_pos (blend cs t 2147483579 ^ 5) (show (0 : Int) < 2147483579 by decide)
  have h2 := Int.fmod_nonneg_of_pos (blend cs t 2147483629 ^ 5) (show (0 : Int) < 2147483629 by decide)
  have h3 := Int.fmod_nonneg_of_pos (blend cs t 2147483563 ^ 5) (show (0 : Int) < 2147483563 by decide)
  omega
/-- one draw before the turn -/
theorem draw_pre {cs : List Int} {T n : Int} {G : DG} (h : Pre cs T G) (hT : T < 2 ^ 200) (hn : 2 ≤ n) : ∃ d G', drawn G n = some (d, G') ∧ 0 ≤ d ∧ d < n ∧ ((Pre cs T G' ∧ Less (sz T G') (sz T G)) ∨ (d = (blended cs T).fmod n ∧ G' = ⟨[], cs, (blended cs T).fdiv n, T⟩)) := by
  obtain ⟨gr, c, re, tu⟩ := G
  obtain ⟨rfl, lo, hi, hr, hg⟩ := h
  have lo : 0 ≤ tu := lo
  have hi : tu < T := hi
  have hr : 0 ≤ re := hr
  have n0 : (0 : Int) < n := by omega
  by_cases hz : re = 0
  · subst hz
    cases gr with
    | cons x r =>
      have hx : 0 ≤ x := hg x (List.mem_cons_self ..)
      refine ⟨x.fmod n, ⟨r, c, x.fdiv n, tu⟩, rfl, Int.fmod_nonneg_of_pos _ n0, Int.fmod_lt_of_pos _ n0, .inl ⟨⟨rfl, lo, hi, (fdiv_small hx hn).1, fun y hy => hg y (List.mem_cons_of_mem _ hy)⟩, ?_⟩⟩
      exact Prod.Lex.right _ (Prod.Lex.left _ _ (Nat.lt_succ_self _))
    | nil =>
      have e : drawn ⟨[], c, 0, tu⟩ n = some ((blended c (tu + 1)).fmod n, ⟨[], c, (blended c (tu + 1)).fdiv n, tu + 1⟩) := by
        show (if 0 ≤ tu ∧ tu < 2 ^ 200 then some (⟨[], c, blended c (tu + 1), tu + 1⟩ : DG) else none).map (fun G1 => (G1.rest.fmod n, { G1 with rest := G1.rest.fdiv n })) = _
        rw [if_pos ⟨lo, by omega⟩]
        rfl
      refine ⟨_, _, e, Int.fmod_nonneg_of_pos _ n0, Int.fmod_lt_of_pos _ n0, ?_⟩
      by_cases ht : tu + 1 = T
      · rw [← ht]
        exact .inr ⟨rfl, rfl⟩
      · refine .inl ⟨⟨rfl, show 0 ≤ tu + 1 by omega, show tu + 1 < T by omega, (fdiv_small (blended_nn _ _) hn).1, fun _ h => absurd h List.not_mem_nil⟩, ?_⟩
        show Less ((T - (tu + 1)).toNat, 0, ((blended c (tu + 1)).fdiv n).toNat) ((T - tu).toNat, 0, (0 : Int).toNat)
        simp only [Less, sz, Prod.lex_def]
        omega
  · have e : drawn ⟨gr, c, re, tu⟩ n = some (re.fmod n, ⟨gr, c, re.fdiv n, tu⟩) := by
      unfold drawn refill
      rw [if_neg hz]
      rfl
    obtain ⟨q1, q2, q3⟩ := fdiv_small hr hn
    refine ⟨_, _, e, Int.fmod_nonneg_of_pos _ n0, Int.fmod_lt_of_pos _ n0, .inl ⟨⟨rfl, lo, hi, q1, hg⟩, ?_⟩⟩
    have := q2 hz
    exact Prod.Lex.right _ (Prod.Lex.right _ (show (re.fdiv n).toNat < re.toNat by omega))
theorem draw_rest1 {cs : List Int} {T n q : Int} (hq : q ≠ 0) : drawn ⟨[], cs, q, T⟩ n = some (q.fmod n, ⟨[], cs, q.fdiv n, T⟩) := by
  unfold drawn refill
  rw [if_neg hq]
  rfl
def letters : Nat → DG → Option (List Int × DG)
  | 0, G => some ([], G)
  | n + 1, G => (drawn G 26).bind fun p => (letters n p.2).map fun q => (p.1 :: q.1, q.2)
def wordI (G : DG) : Option (List Int × DG) := (drawn G 8).bind fun p => letters (1 + p.1).toNat p.2
/-- shifted -/
def sh (b : Int) : Nat → Int
  | 0 => b
  | n + 1 => (sh b n).fdiv 26
theorem sh_comm (b : Int) : ∀ n, sh (b.fdiv 26) n = sh b (n + 1)
  | 0 => rfl
  | n + 1 => by
    show (sh (b.fdiv 26) n).fdiv 26 = _
    rw [sh_comm b n]
    rfl
def small (ds : List Int) : Prop := ∀ d ∈ ds, 0 ≤ d ∧ d < 26
theorem small_nil : small [] := fun _ h => absurd h List.not_mem_nil
theorem letters_mid {cs : List Int} {T : Int} : ∀ (n : Nat) (b : Int), (∀ j < n, sh b j ≠ 0) → ∃ ds, letters n ⟨[], cs, b, T⟩ = some (ds, ⟨[], cs, sh b n, T⟩) ∧ ds.length = n ∧ small ds ∧ (0 < n → ds.head? = some (b.fmod 26))
  | 0, b, _ => ⟨[], rfl, rfl, small_nil, fun h => absurd h (by omega)⟩
  | n + 1, b, h => by
    obtain ⟨ds, e, l, s, _⟩ := letters_mid (cs := cs) (T := T) n (b.fdiv 26) fun j hj => by
      rw [sh_comm]
      exact h (j + 1) (by omega)
    refine ⟨b.fmod 26 :: ds, ?_, by rw [List.length_cons, l], fun d hd => ?_, fun _ => rfl⟩
    · show (drawn ⟨[], cs, b, T⟩ 26).bind (fun p => (letters n p.2).map fun q => (p.1 :: q.1, q.2)) = _
      rw [draw_rest1 (q := b) (h 0 (by omega))]
      show (letters n ⟨[], cs, b.fdiv 26, T⟩).map (fun q => (b.fmod 26 :: q.1, q.2)) = _
      rw [e, ← sh_comm]
      rfl
    · rcases List.mem_cons.mp hd with rfl | hd
      · exact ⟨Int.fmod_nonneg_of_pos _ (by decide), Int.fmod_lt_of_pos _ (by decide)⟩
      · exact s d hd
theorem letters_pre {cs : List Int} {T : Int} (hT : T < 2 ^ 200) (hb : ∀ j < 10, sh (blended cs T) j ≠ 0) : ∀ (n : Nat) (G : DG), n ≤ 8 → Pre cs T G → ∃ ds G', letters n G = some (ds, G') ∧ ds.length = n ∧ small ds ∧ ((Pre cs T G' ∧ (G' = G ∨ Less (sz T G') (sz T G))) ∨ ∃ m, m ≤ 8 ∧ G' = ⟨[], cs, sh (blended cs T) m, T⟩)
  | 0, G, _, h => ⟨[], G, rfl, rfl, small_nil, .inl ⟨h, .inl rfl⟩⟩
  | n + 1, G, hn, h => by
    obtain ⟨d, G1, e1, d0, d1, c⟩ := draw_pre h hT (show (2 : Int) ≤ 26 by decide)
    rcases c with ⟨h1, l1⟩ | ⟨_, e2⟩
    · obtain ⟨ds, G2, e3, l3, s3, c3⟩ := letters_pre hT hb n G1 (by omega) h1
      refine ⟨d :: ds, G2, ?_, by rw [List.length_cons, l3], fun x hx => ?_, ?_⟩
      · show (drawn G 26).bind (fun p => (letters n p.2).map fun q => (p.1 :: q.1, q.2)) = _
        rw [e1]
        show (letters n G1).map (fun q => (d :: q.1, q.2)) = _
        rw [e3]
        rfl
      · rcases List.mem_cons.mp hx with rfl | hx
        · exact ⟨d0, d1⟩
        · exact s3 x hx
      · rcases c3 with ⟨h2, rfl | l2⟩ | c3
        · exact .inl ⟨h2, .inr l1⟩
        · exact .inl ⟨h2, .inr (less_trans l2 l1)⟩
        · exact .inr c3
    · subst e2
      obtain ⟨ds, e3, l3, s3, _⟩ := letters_mid (cs := cs) (T := T) n ((blended cs T).fdiv 26) fun j hj => by
        rw [sh_comm]
        exact hb (j + 1) (by omega)
      rw [sh_comm] at e3
      refine ⟨d :: ds, _, ?_, by rw [List.length_cons, l3], fun x hx => ?_, .inr ⟨n + 1, hn, rfl⟩⟩
      · show (drawn G 26).bind (fun p => (letters n p.2).map fun q => (p.1 :: q.1, q.2)) = _
        rw [e1]
        show (letters n ⟨[], cs, (blended cs T).fdiv 26, T⟩).map (fun q => (d :: q.1, q.2)) = _
        rw [e3]
        rfl
      · rcases List.mem_cons.mp hx with rfl | hx
        · exact ⟨d0, d1⟩
        · exact s3 x hx
/-- a number all of whose words begin alike -/
structure Mono (b l : Int) : Prop where
  pos : ∀ j < 10, sh b j ≠ 0
  pos2 : ∀ m < 9, ∀ j < 9, 0 < sh ((sh b m).fdiv 8) j
  first : ∀ m < 9, ((sh b m).fdiv 8).fmod 26 = l
theorem mono_is : ∀ l ∈ [(1 : Int), 2, 3, 4, 5], Mono (mono l) l := by
  intro l hl
  simp only [List.mem_cons, List.not_mem_nil, or_false] at hl
  rcases hl with rfl | rfl | rfl | rfl | rfl
  · exact ⟨by decide +kernel, by decide +kernel, by decide +kernel⟩
  · exact ⟨by decide +kernel, by decide +kernel, by decide +kernel⟩
  · exact ⟨by decide +kernel, by decide +kernel, by decide +kernel⟩
  · exact ⟨by decide +kernel, by decide +kernel, by decide +kernel⟩
  · exact ⟨by decide +kernel, by decide +kernel, by decide +kernel⟩
theorem eight (b : Int) : 1 ≤ (1 + b.fmod 8).toNat ∧ (1 + b.fmod 8).toNat ≤ 8 := by
  have h1 := Int.fmod_nonneg_of_pos b (show (0 : Int) < 8 by decide)
  have h2 := Int.fmod_lt_of_pos b (show (0 : Int) < 8 by decide)
  omega
/-- a state of the draws that is at most at turn T -/
def Upto (cs : List Int) (T : Int) (G : DG) : Prop := G.cells = cs ∧ 0 ≤ G.turn ∧ G.turn ≤ T ∧ 0 ≤ G.rest ∧ ∀ x ∈ G.great, 0 ≤ x
theorem word_mid {cs : List Int} {T l : Int} (hb : Mono (blended cs T) l) (t0 : 0 ≤ T) (m : Nat) (hm : m ≤ 8) : ∃ ds G', wordI ⟨[], cs, sh (blended cs T) m, T⟩ = some (ds, G') ∧ 1 ≤ ds.length ∧ ds.length ≤ 8 ∧ small ds ∧ ds.head? = some l ∧ Upto cs T G' := by
  obtain ⟨k1, k8⟩ := eight (sh (blended cs T) m)
  obtain ⟨ds, e, ln, s, hd⟩ := letters_mid (cs := cs) (T := T) (1 + (sh (blended cs T) m).fmod 8).toNat ((sh (blended cs T) m).fdiv 8) fun j hj => by
    have := hb.pos2 m (by omega) j (by omega)
    omega
  refine ⟨ds, ⟨[], cs, sh ((sh (blended cs T) m).fdiv 8) (1 + (sh (blended cs T) m).fmod 8).toNat, T⟩, ?_, by omega, by omega, s, ?_, rfl, t0, Int.le_refl T, Int.le_of_lt (hb.pos2 m (by omega) (1 + (sh (blended cs T) m).fmod 8).toNat (by omega)), by
    intro _ h
    exact absurd h List.not_mem_nil⟩
  · unfold wordI
    rw [draw_rest1 (hb.pos m (by omega))]
    exact e
  · rw [hd (by omega), hb.first m (by omega)]
theorem word_pre {cs : List Int} {T l : Int} (hT : T < 2 ^ 200) (hb : Mono (blended cs T) l) {G : DG} (h : Pre cs T G) : ∃ ds G', wordI G = some (ds, G') ∧ 1 ≤ ds.length ∧ ds.length ≤ 8 ∧ small ds ∧ ((Pre cs T G' ∧ Less (sz T G') (sz T G)) ∨ (∃ m, m ≤ 8 ∧ G' = ⟨[], cs, sh (blended cs T) m, T⟩) ∨ (ds.head? = some l ∧ Upto cs T G')) := by
  have t0 : 0 ≤ T := Int.le_of_lt (Int.lt_of_le_of_lt h.lo h.hi)
  obtain ⟨d, G1, e1, d0, d1, c⟩ := draw_pre h hT (show (2 : Int) ≤ 8 by decide)
  rcases c with ⟨h1, l1⟩ | ⟨ed, e2⟩
  · obtain ⟨ds, G2, e3, l3, s3, c3⟩ := letters_pre hT hb.pos (1 + d).toNat G1 (by omega) h1
    refine ⟨ds, G2, ?_, by omega, by omega, s3, ?_⟩
    · unfold wordI
      rw [e1]
      exact e3
    · rcases c3 with ⟨h2, rfl | l2⟩ | c3
      · exact .inl ⟨h2, l1⟩
      · exact .inl ⟨h2, less_trans l2 l1⟩
      · exact .inr (.inl c3)
  · subst e2
    obtain ⟨ds, e, ln, s, hd⟩ := letters_mid (cs := cs) (T := T) (1 + d).toNat ((blended cs T).fdiv 8) fun j hj => by
      have := hb.pos2 0 (by omega) j (by omega)
      have q : sh (blended cs T) 0 = blended cs T := rfl
      rw [q] at this
      omega
    refine ⟨ds, ⟨[], cs, sh ((blended cs T).fdiv 8) (1 + d).toNat, T⟩, ?_, by omega, by omega, s, .inr (.inr ⟨?_, rfl, t0, Int.le_refl T, ?_, by
    intro _ h
    exact absurd h List.not_mem_nil⟩)⟩
    · unfold wordI
      rw [e1]
      exact e
    · rw [hd (by omega)]
      exact congrArg some (hb.first 0 (by omega))
    · exact Int.le_of_lt (hb.pos2 0 (by omega) (1 + d).toNat (by omega))
end DL

namespace K66
open PySem PySem.Spec PyProof.Rows L2 LamX DL
def top (i : Nat) : Stmt := PySem.Challenge.pw_choiceshown_k66_whole_duels_that_voters.main.body.getD i (.Pass ⟨0, 0, 0, 0⟩)
abbrev s_is_word : Stmt := top 7
abbrev s_are_things : Stmt := top 9
abbrev s_is_whole : Stmt := top 11
abbrev s_pairs_of : Stmt := top 15
abbrev s_is_table : Stmt := top 16
abbrev s_is_sign : Stmt := top 17
abbrev s_is_duels : Stmt := top 18
abbrev s_two_for : Stmt := top 19
abbrev s_even_voters : Stmt := top 20
abbrev s_voters_for : Stmt := top 21
abbrev s_duel_voters : Stmt := top 22
abbrev s_l_begun : Stmt := top 24
abbrev s_l_blended : Stmt := top 25
abbrev s_l_draw : Stmt := top 26
abbrev s_l_pick : Stmt := top 27
abbrev s_l_caught : Stmt := top 28
abbrev s_l_is_truth : Stmt := top 29
abbrev s_l_same : Stmt := top 30
abbrev s_l_words : Stmt := top 31
abbrev s_l_is_word : Stmt := top 32
abbrev s_l_tg_pairs : Stmt := top 33
abbrev s_l_tg_margins : Stmt := top 34
abbrev s_l_tg_are_voters : Stmt := top 35
abbrev s_l_k66_kind : Stmt := top 36
abbrev s_law : Stmt := top 37
structure AD where
  is_word : Addr
  are_things : Addr
  is_whole : Addr
  pairs_of : Addr
  is_table : Addr
  is_sign : Addr
  is_duels : Addr
  two_for : Addr
  even_voters : Addr
  voters_for : Addr
  duel_voters : Addr
  l_begun : Addr
  l_blended : Addr
  l_draw : Addr
  l_pick : Addr
  l_caught : Addr
  l_is_truth : Addr
  l_same : Addr
  l_words : Addr
  l_is_word : Addr
  l_tg_pairs : Addr
  l_tg_margins : Addr
  l_tg_are_voters : Addr
  l_k66_kind : Addr
  law : Addr
  ShownError : Addr
  BadMargins : Addr
  BadDuels : Addr
  BadOdd : Addr
structure FDS where
  is_word : FuncData
  are_things : FuncData
  is_whole : FuncData
  pairs_of : FuncData
  is_table : FuncData
  is_sign : FuncData
  is_duels : FuncData
  two_for : FuncData
  even_voters : FuncData
  voters_for : FuncData
  duel_voters : FuncData
  l_begun : FuncData
  l_blended : FuncData
  l_draw : FuncData
  l_pick : FuncData
  l_caught : FuncData
  l_is_truth : FuncData
  l_same : FuncData
  l_words : FuncData
  l_is_word : FuncData
  l_tg_pairs : FuncData
  l_tg_margins : FuncData
  l_tg_are_voters : FuncData
  l_k66_kind : FuncData
  law : FuncData
def errs : List Str := ["BadMargins", "BadDuels", "BadOdd"]
def is_BadDuels (x : Str) : Bool := decide (x = "BadDuels")
def is_BadMargins (x : Str) : Bool := decide (x = "BadMargins")
def is_BadOdd (x : Str) : Bool := decide (x = "BadOdd")
/-- what the top has written -/
structure TX (K : PySem.W.Frag) (mg : Str → Option Value) (gb : Gb) (A : AD) (D : FDS) : Prop where
  b_abs : mg "abs" = none
  b_all : mg "all" = none
  b_any : mg "any" = none
  b_bool : mg "bool" = none
  b_dict : mg "dict" = none
  b_enumerate : mg "enumerate" = none
  b_int : mg "int" = none
  b_isinstance : mg "isinstance" = none
  b_len : mg "len" = none
  b_list : mg "list" = none
  b_min : mg "min" = none
  b_range : mg "range" = none
  b_set : mg "set" = none
  b_sorted : mg "sorted" = none
  b_str : mg "str" = none
  b_sum : mg "sum" = none
  b_tuple : mg "tuple" = none
  b_zip : mg "zip" = none
  g_LEAST_THINGS : ∃ t, mg "LEAST_THINGS" = some (.int 2 t)
  g_LETTERS : ∃ t, mg "LETTERS" = some (.str "abcdefghijklmnopqrstuvwxyz" t)
  g_MOST_THINGS : ∃ t, mg "MOST_THINGS" = some (.int 5 t)
  m_is_word : mg "is_word" = some (.ref A.is_word)
  F_is_word : Fun K "is_word" "is_word" s_is_word A.is_word D.is_word
  B_is_word : Binds K D.is_word ["value"] []
  m_are_things : mg "are_things" = some (.ref A.are_things)
  F_are_things : Fun K "are_things" "are_things" s_are_things A.are_things D.are_things
  B_are_things : Binds K D.are_things ["value"] []
  m_is_whole : mg "is_whole" = some (.ref A.is_whole)
  F_is_whole : Fun K "is_whole" "is_whole" s_is_whole A.is_whole D.is_whole
  B_is_whole : Binds K D.is_whole ["value"] []
  m_pairs_of : mg "pairs_of" = some (.ref A.pairs_of)
  F_pairs_of : Fun K "pairs_of" "pairs_of" s_pairs_of A.pairs_of D.pairs_of
  B_pairs_of : Binds K D.pairs_of ["things"] []
  m_is_table : mg "is_table" = some (.ref A.is_table)
  F_is_table : Fun K "is_table" "is_table" s_is_table A.is_table D.is_table
  B_is_table : Binds K D.is_table ["value", "name", "judge"] []
  m_is_sign : mg "is_sign" = some (.ref A.is_sign)
  F_is_sign : Fun K "is_sign" "is_sign" s_is_sign A.is_sign D.is_sign
  B_is_sign : Binds K D.is_sign ["number"] []
  m_is_duels : mg "is_duels" = some (.ref A.is_duels)
  F_is_duels : Fun K "is_duels" "is_duels" s_is_duels A.is_duels D.is_duels
  B_is_duels : Binds K D.is_duels ["value"] []
  m_two_for : mg "two_for" = some (.ref A.two_for)
  F_two_for : Fun K "two_for" "two_for" s_two_for A.two_for D.two_for
  B_two_for : Binds K D.two_for ["things", "one", "other"] []
  m_even_voters : mg "even_voters" = some (.ref A.even_voters)
  F_even_voters : Fun K "even_voters" "even_voters" s_even_voters A.even_voters D.even_voters
  B_even_voters : Binds K D.even_voters ["things", "numbers"] []
  m_voters_for : mg "voters_for" = some (.ref A.voters_for)
  F_voters_for : Fun K "voters_for" "voters_for" s_voters_for A.voters_for D.voters_for
  B_voters_for : Binds K D.voters_for ["things", "numbers"] []
  m_duel_voters : mg "duel_voters" = some (.ref A.duel_voters)
  F_duel_voters : Fun K "duel_voters" "duel_voters" s_duel_voters A.duel_voters D.duel_voters
  B_duel_voters : Binds K D.duel_voters ["duels", "odd"] []
  m_l_begun : mg "_law_begun" = some (.ref A.l_begun)
  F_l_begun : Fun K "_law_begun" "_law_begun" s_l_begun A.l_begun D.l_begun
  B_l_begun : Binds K D.l_begun ["script"] []
  m_l_blended : mg "_law_blended" = some (.ref A.l_blended)
  F_l_blended : Fun K "_law_blended" "_law_blended" s_l_blended A.l_blended D.l_blended
  B_l_blended : Binds K D.l_blended ["state"] []
  m_l_draw : mg "_law_draw" = some (.ref A.l_draw)
  F_l_draw : Fun K "_law_draw" "_law_draw" s_l_draw A.l_draw D.l_draw
  B_l_draw : Binds K D.l_draw ["state", "room"] []
  m_l_pick : mg "_law_pick" = some (.ref A.l_pick)
  F_l_pick : Fun K "_law_pick" "_law_pick" s_l_pick A.l_pick D.l_pick
  B_l_pick : Binds K D.l_pick ["state", "some"] []
  m_l_caught : mg "_law_caught" = some (.ref A.l_caught)
  F_l_caught : Fun K "_law_caught" "_law_caught" s_l_caught A.l_caught D.l_caught
  B_l_caught : Binds K D.l_caught ["action"] []
  m_l_is_truth : mg "_law_is_truth" = some (.ref A.l_is_truth)
  F_l_is_truth : Fun K "_law_is_truth" "_law_is_truth" s_l_is_truth A.l_is_truth D.l_is_truth
  B_l_is_truth : Binds K D.l_is_truth ["found", "due"] []
  m_l_same : mg "_law_same" = some (.ref A.l_same)
  F_l_same : Fun K "_law_same" "_law_same" s_l_same A.l_same D.l_same
  B_l_same : Binds K D.l_same ["found", "due"] []
  m_l_words : mg "_law_words" = some (.ref A.l_words)
  F_l_words : Fun K "_law_words" "_law_words" s_l_words A.l_words D.l_words
  B_l_words : Binds K D.l_words ["draws", "many"] []
  m_l_is_word : mg "_law_is_word" = some (.ref A.l_is_word)
  F_l_is_word : Fun K "_law_is_word" "_law_is_word" s_l_is_word A.l_is_word D.l_is_word
  B_l_is_word : Binds K D.l_is_word ["value"] []
  m_l_tg_pairs : mg "_law_tg_pairs" = some (.ref A.l_tg_pairs)
  F_l_tg_pairs : Fun K "_law_tg_pairs" "_law_tg_pairs" s_l_tg_pairs A.l_tg_pairs D.l_tg_pairs
  B_l_tg_pairs : Binds K D.l_tg_pairs ["words"] []
  m_l_tg_margins : mg "_law_tg_margins" = some (.ref A.l_tg_margins)
  F_l_tg_margins : Fun K "_law_tg_margins" "_law_tg_margins" s_l_tg_margins A.l_tg_margins D.l_tg_margins
  B_l_tg_margins : Binds K D.l_tg_margins ["words", "voters"] []
  m_l_tg_are_voters : mg "_law_tg_are_voters" = some (.ref A.l_tg_are_voters)
  F_l_tg_are_voters : Fun K "_law_tg_are_voters" "_law_tg_are_voters" s_l_tg_are_voters A.l_tg_are_voters D.l_tg_are_voters
  B_l_tg_are_voters : Binds K D.l_tg_are_voters ["value"] []
  m_l_k66_kind : mg "_law_k66_kind" = some (.ref A.l_k66_kind)
  F_l_k66_kind : Fun K "_law_k66_kind" "_law_k66_kind" s_l_k66_kind A.l_k66_kind D.l_k66_kind
  B_l_k66_kind : Binds K D.l_k66_kind ["error"] []
  m_law : mg "law" = some (.ref A.law)
  F_law : Fun K "law" "law" s_law A.law D.law
  B_law : Binds K D.law ["script"] []
  K_duel_voters : KwB K D.duel_voters ["duels", "odd"] ["odd", "duels"] [1, 0]
  m_ShownError : mg "ShownError" = some (.ref A.ShownError)
  k_ShownError : PySem.W.keepIn K (.ref A.ShownError) = true
  q_ShownError : PySem.W.excIn K A.ShownError [.type "ValueError", .type "Exception", .type "BaseException", .type "object"] "ValueError.__new__" = true
  s_ShownError : PySem.W.subIn K (.ref A.ShownError) (.type "BaseException") = some true
  t_ShownError : PySem.W.typeIn K (.ref A.ShownError) = some (.type "type")
  ca_ShownError : gb.ca "ShownError" = A.ShownError
  m_BadMargins : mg "BadMargins" = some (.ref A.BadMargins)
  k_BadMargins : PySem.W.keepIn K (.ref A.BadMargins) = true
  q_BadMargins : PySem.W.excIn K A.BadMargins [.type "ValueError", .type "Exception", .type "BaseException", .type "object"] "ValueError.__new__" = true
  s_BadMargins : PySem.W.subIn K (.ref A.BadMargins) (.type "BaseException") = some true
  t_BadMargins : PySem.W.typeIn K (.ref A.BadMargins) = some (.type "type")
  ca_BadMargins : gb.ca "BadMargins" = A.BadMargins
  m_BadDuels : mg "BadDuels" = some (.ref A.BadDuels)
  k_BadDuels : PySem.W.keepIn K (.ref A.BadDuels) = true
  q_BadDuels : PySem.W.excIn K A.BadDuels [.type "ValueError", .type "Exception", .type "BaseException", .type "object"] "ValueError.__new__" = true
  s_BadDuels : PySem.W.subIn K (.ref A.BadDuels) (.type "BaseException") = some true
  t_BadDuels : PySem.W.typeIn K (.ref A.BadDuels) = some (.type "type")
  ca_BadDuels : gb.ca "BadDuels" = A.BadDuels
  m_BadOdd : mg "BadOdd" = some (.ref A.BadOdd)
  k_BadOdd : PySem.W.keepIn K (.ref A.BadOdd) = true
  q_BadOdd : PySem.W.excIn K A.BadOdd [.type "ValueError", .type "Exception", .type "BaseException", .type "object"] "ValueError.__new__" = true
  s_BadOdd : PySem.W.subIn K (.ref A.BadOdd) (.type "BaseException") = some true
  t_BadOdd : PySem.W.typeIn K (.ref A.BadOdd) = some (.type "type")
  ca_BadOdd : gb.ca "BadOdd" = A.BadOdd
  EE : Errs K gb errs
  i_BadDuels : ∀ s ∈ errs, PySem.W.kitOne K (.ref (gb.ca s)) (.ref A.BadDuels) = some (is_BadDuels s)
  i_BadMargins : ∀ s ∈ errs, PySem.W.kitOne K (.ref (gb.ca s)) (.ref A.BadMargins) = some (is_BadMargins s)
  i_BadOdd : ∀ s ∈ errs, PySem.W.kitOne K (.ref (gb.ca s)) (.ref A.BadOdd) = some (is_BadOdd s)
  x_S : ∀ s ∈ errs, PySem.W.exmOne K (.ref (gb.ca s)) (.ref A.ShownError) = some true
section
variable {P : Program} {w : World} {K : PySem.W.Frag} {mg : Str → Option Value} {base : Heap} {gb : Gb} {A : AD} {D : FDS} {TB : List (Addr × Str)} {gg gc : Addr} {cells : List Int}
abbrev N_is_word : List Str := ["value", "letter"]
theorem sc_is_word : FnScope N_is_word ["value"] (defScope s_is_word) := ⟨rfl, rfl, rfl, by decide +kernel, rfl, by decide +kernel, by decide +kernel⟩
def a_is_word (A : AD) : TSa :=
    (aRet (cAnd (cUn (isiOf "str") (cVar 0)) (cAnd (cChain fLe fLe (cK (.int 1)) (cApp fLen (cCons (cVar 0) cNil)) (cK (.int 8))) (cApp fAll (cCons (cFz (cLc (cSeqH (cVar 0)) (gN 1) tYesC (cBin fIn (cVar 1) (cK (.str "abcdefghijklmnopqrstuvwxyz"))) [1])) cNil)))))
theorem b_is_word (T : TX K mg gb A D) (cdv : Value) (A' : Around) (outer : List Env) (s : Shared) (H F0 : Hp) (E : XK) (hr : Room 0 (A'.deeper (envOfC "is_word" (defScope s_is_word) s.heap.objs.size A.is_word cdv))) :
    PSs (cxOf (L2.CX P w) P w K mg base N_is_word "is_word" (defScope s_is_word) A.is_word cdv A' outer s H E) (defBody s_is_word) (tS K ⟨gb, m0 TB, F0, H, E⟩ (a_is_word A)) := by
  have SC := sc_is_word
  have OW : PassesOwn (model P w) (cxOf (L2.CX P w) P w K mg base N_is_word "is_word" (defScope s_is_word) A.is_word cdv A' outer s H E).A (cxOf (L2.CX P w) P w K mg base N_is_word "is_word" (defScope s_is_word) A.is_word cdv A' outer s H E).env (cxOf (L2.CX P w) P w K mg base N_is_word "is_word" (defScope s_is_word) A.is_word cdv A' outer s H E).xe := passes_of rfl
  have TK : Takes (cxOf (L2.CX P w) P w K mg base N_is_word "is_word" (defScope s_is_word) A.is_word cdv A' outer s H E) (fun cls d _ H => E cls d H) := takes_of rfl rfl rfl rfl
  have PX := passT TK
  exact (ds_one (ds_ret (de_and (de_isi (T := "str") (by decide +kernel) (de_var 0) T.b_isinstance T.b_str) (de_and (de_chain op_le op_le of_le of_le de_int (de_callB call_len of_len (by rfl) T.b_len (by decide +kernel) (da_cons (de_var 0) da_nil)) de_int) (de_one (de_callB (cr_all rfl) of_all (by rfl) T.b_all (by decide +kernel) (da_cons (de_fz (dv_lc (own := [("letter", 1)]) rfl SC.nd (di_seqH (de_var 0)) (blkOk_by (N := N_is_word) (sc := defScope s_is_word) (by decide +kernel)) (by decide) (fun _ _ _ _ _ => (dg_name 1 SC.nd)) (fun _ _ _ _ _ => dts_nil) (fun _ _ _ _ _ => (de_cmp (ox_in (R65 hr)) of_in (de_var 1) (de_globS (by rfl) T.g_LETTERS.choose_spec (by decide +kernel)) (by rfl))))) da_nil)))))))
abbrev N_are_things : List Str := ["value", "word", "one", "other"]
theorem sc_are_things : FnScope N_are_things ["value"] (defScope s_are_things) := ⟨rfl, rfl, rfl, by decide +kernel, rfl, by decide +kernel, by decide +kernel⟩
def a_are_things (A : AD) (m_is_word : List DV → M DV) : TSa :=
    (aSeq (aIf (cOrT (cNotT (cTest (cUn (isiOf "tuple") (cVar 0)))) (cOrT (cTest (cBin fEq (cVar 0) (cApp fTup cNil))) (cNotT (cTest (cApp fAll (cCons (cFz (cLc (cSeqH (cVar 0)) (gN 1) tYesC (cCall m_is_word (cCons (cVar 1) cNil)) [1])) cNil)))))) ((aRet (cK (.bool false)))) (aNext))
    (aRet (cApp fAll (cCons (cFz (cLc (cItr fZip (cCons (cVar 0) (cCons (cSl (cVar 0) (cPart (cK (.int 1))) cNoP) cNil))) (gTp 2 (gsCons (gN 2) (gsCons (gN 3) gsNil))) tYesC (cBin fLt (cVar 2) (cVar 3)) [2, 3])) cNil))))
theorem b_are_things (T : TX K mg gb A D) {m_is_word : List DV → M DV} (c_is_word : FnOk P w K mg base (L2.CX P w) 1 A.is_word D.is_word ["value"] (spF K gb (m0 TB) m_is_word)) (g_is_word : ∀ xs G r G', m_is_word xs G = some (r, G') → (m0 TB).gr G G') (cdv : Value) (A' : Around) (outer : List Env) (s : Shared) (H F0 : Hp) (E : XK) (hr : Room 1 (A'.deeper (envOfC "are_things" (defScope s_are_things) s.heap.objs.size A.are_things cdv))) :
    PSs (cxOf (L2.CX P w) P w K mg base N_are_things "are_things" (defScope s_are_things) A.are_things cdv A' outer s H E) (defBody s_are_things) (tS K ⟨gb, m0 TB, F0, H, E⟩ (a_are_things A m_is_word)) := by
  have SC := sc_are_things
  have OW : PassesOwn (model P w) (cxOf (L2.CX P w) P w K mg base N_are_things "are_things" (defScope s_are_things) A.are_things cdv A' outer s H E).A (cxOf (L2.CX P w) P w K mg base N_are_things "are_things" (defScope s_are_things) A.are_things cdv A' outer s H E).env (cxOf (L2.CX P w) P w K mg base N_are_things "are_things" (defScope s_are_things) A.are_things cdv A' outer s H E).xe := passes_of rfl
  have TK : Takes (cxOf (L2.CX P w) P w K mg base N_are_things "are_things" (defScope s_are_things) A.are_things cdv A' outer s H E) (fun cls d _ H => E cls d H) := takes_of rfl rfl rfl rfl
  have PX := passT TK
  exact (ds_cons (ds_if (PW.pt (dt_or (dt_not (dt_val (de_isi (T := "tuple") (by decide +kernel) (de_var 0) T.b_isinstance T.b_tuple))) (dt_or (dt_cmp (op_eqD hr.units) of_eq (de_var 0) (de_tup da_nil) (nomark _)) (dt_or1 (dt_not (dt_val (de_callB (cr_all rfl) of_all (by rfl) T.b_all (by decide +kernel) (da_cons (de_fz (dv_lc (own := [("word", 1)]) rfl SC.nd (di_seqH (de_var 0)) (blkOk_by (N := N_are_things) (sc := defScope s_are_things) (by decide +kernel)) (by decide) (fun _ _ _ _ _ => (dg_name 1 SC.nd)) (fun _ _ _ _ _ => dts_nil) (fun _ _ _ _ _ => (de_call c_is_word (hr.mono (by decide)) T.m_is_word T.F_is_word.kp T.B_is_word passL (le00 _) g_is_word (da_cons (de_var 1) da_nil))))) da_nil)))))))) (ds_one (ds_ret de_bl)) ds_nil) (ds_one (ds_ret (de_callB (cr_all rfl) of_all (by rfl) T.b_all (by decide +kernel) (da_cons (de_fz (dv_lc (own := [("one", 2), ("other", 3)]) rfl SC.nd (di_zip T.b_zip (da_cons (de_var 0) (da_cons (de_slice (de_var 0) (do_some de_int) do_none) da_nil))) (blkOk_by (N := N_are_things) (sc := defScope s_are_things) (by decide +kernel)) (by decide) (fun _ _ _ _ _ => (dg_tup rfl (dgs_cons (dg_name 2 SC.nd) (dgs_cons (dg_name 3 SC.nd) dgs_nil)))) (fun _ _ _ _ _ => dts_nil) (fun _ _ _ _ _ => (de_cmp ox_lt of_lt (de_var 2) (de_var 3) (nomark _))))) da_nil)))))
abbrev N_is_whole : List Str := ["value"]
theorem sc_is_whole : FnScope N_is_whole ["value"] (defScope s_is_whole) := ⟨rfl, rfl, rfl, by decide +kernel, rfl, by decide +kernel, by decide +kernel⟩
def a_is_whole (A : AD) : TSa :=
    (aRet (cAnd (cUn (isiOf "int") (cVar 0)) (cUn fNot (cUn (isiOf "bool") (cVar 0)))))
theorem b_is_whole (T : TX K mg gb A D) (cdv : Value) (A' : Around) (outer : List Env) (s : Shared) (H F0 : Hp) (E : XK) (hr : Room 0 (A'.deeper (envOfC "is_whole" (defScope s_is_whole) s.heap.objs.size A.is_whole cdv))) :
    PSs (cxOf (L2.CX P w) P w K mg base N_is_whole "is_whole" (defScope s_is_whole) A.is_whole cdv A' outer s H E) (defBody s_is_whole) (tS K ⟨gb, m0 TB, F0, H, E⟩ (a_is_whole A)) := by
  have SC := sc_is_whole
  have OW : PassesOwn (model P w) (cxOf (L2.CX P w) P w K mg base N_is_whole "is_whole" (defScope s_is_whole) A.is_whole cdv A' outer s H E).A (cxOf (L2.CX P w) P w K mg base N_is_whole "is_whole" (defScope s_is_whole) A.is_whole cdv A' outer s H E).env (cxOf (L2.CX P w) P w K mg base N_is_whole "is_whole" (defScope s_is_whole) A.is_whole cdv A' outer s H E).xe := passes_of rfl
  have TK : Takes (cxOf (L2.CX P w) P w K mg base N_is_whole "is_whole" (defScope s_is_whole) A.is_whole cdv A' outer s H E) (fun cls d _ H => E cls d H) := takes_of rfl rfl rfl rfl
  have PX := passT TK
  exact (ds_one (ds_ret (de_and (de_isi (T := "int") (by decide +kernel) (de_var 0) T.b_isinstance T.b_int) (de_one (de_not (de_isi (T := "bool") (by decide +kernel) (de_var 0) T.b_isinstance T.b_bool))))))
abbrev N_pairs_of : List Str := ["things", "found", "at", "one", "other"]
theorem sc_pairs_of : FnScope N_pairs_of ["things"] (defScope s_pairs_of) := ⟨rfl, rfl, rfl, by decide +kernel, rfl, by decide +kernel, by decide +kernel⟩
def a_pairs_of (A : AD) : TSa :=
    (aSeq (aSet 1 cOwn0)
    (aSeq (aFor (cItr fEnumF (cCons (cVar 0) cNil)) (gTp 2 (gsCons (gN 2) (gsCons (gN 3) gsNil))) ((aExtend 1 (cLc (cSeqH (cSl (cVar 0) (cPart (cBin fAdd (cVar 2) (cK (.int 1)))) cNoP)) (gN 4) tYesC (cApp fTup (cCons (cVar 3) (cCons (cVar 4) cNil))) [4]))))
    (aRet (cVar 1))))
theorem b_pairs_of (T : TX K mg gb A D) (cdv : Value) (A' : Around) (outer : List Env) (s : Shared) (H F0 : Hp) (E : XK) (hr : Room 0 (A'.deeper (envOfC "pairs_of" (defScope s_pairs_of) s.heap.objs.size A.pairs_of cdv))) :
    PSs (cxOf (L2.CX P w) P w K mg base N_pairs_of "pairs_of" (defScope s_pairs_of) A.pairs_of cdv A' outer s H E) (defBody s_pairs_of) (tS K ⟨gb, m0 TB, F0, H, E⟩ (a_pairs_of A)) := by
  have SC := sc_pairs_of
  have OW : PassesOwn (model P w) (cxOf (L2.CX P w) P w K mg base N_pairs_of "pairs_of" (defScope s_pairs_of) A.pairs_of cdv A' outer s H E).A (cxOf (L2.CX P w) P w K mg base N_pairs_of "pairs_of" (defScope s_pairs_of) A.pairs_of cdv A' outer s H E).env (cxOf (L2.CX P w) P w K mg base N_pairs_of "pairs_of" (defScope s_pairs_of) A.pairs_of cdv A' outer s H E).xe := passes_of rfl
  have TK : Takes (cxOf (L2.CX P w) P w K mg base N_pairs_of "pairs_of" (defScope s_pairs_of) A.pairs_of cdv A' outer s H E) (fun cls d _ H => E cls d H) := takes_of rfl rfl rfl rfl
  have PX := passT TK
  exact (ds_cons (ds_set (i := 1) SC.nd dv_nil) (ds_cons (ds_for OW rfl (di_enumF T.b_enumerate (da_cons (de_var 0) da_nil)) (dg_tup rfl (dgs_cons (dg_name 2 SC.nd) (dgs_cons (dg_name 3 SC.nd) dgs_nil))) (ds_one (have E := (dv_lc (own := [("other", 4)]) rfl SC.nd (di_seqH (de_slice (de_var 0) (do_some (de_add (de_var 2) de_int)) do_none)) (blkOk_by (N := N_pairs_of) (sc := defScope s_pairs_of) (by decide +kernel)) (by decide) (fun _ _ _ _ _ => (dg_name 4 SC.nd)) (fun _ _ _ _ _ => dts_nil) (fun _ _ _ _ _ => (de_tup (da_cons (de_var 3) (da_cons (de_var 4) da_nil))))); ds_extend 1 E (pe_bm PySem.F.plainAttrs_list PySem.F.slot_list_extend PySem.F.type_list_extend mt_extend (pv 1) (pa_cons E pa_nil))))) (ds_one (ds_ret (de_var 1)))))
abbrev N_is_table : List Str := ["value", "name", "judge", "number"]
theorem sc_is_table : FnScope N_is_table ["value", "name", "judge"] (defScope s_is_table) := ⟨rfl, rfl, rfl, by decide +kernel, rfl, by decide +kernel, by decide +kernel⟩
def a_is_table (A : AD) (m_are_things m_is_whole m_pairs_of m_is_sign : List DV → M DV) : TSa :=
    (aSeq (aIf (cOrT (cNotT (cTest (cUn (isiOf "tuple") (cVar 0)))) (cOrT (cTest (cBin fNe (cApp fLen (cCons (cVar 0) cNil)) (cK (.int 3)))) (cOrT (cNotT (cTest (cUn (isiOf "str") (cBin fIx (cVar 0) (cK (.int 0)))))) (cTest (cBin fNe (cBin fIx (cVar 0) (cK (.int 0))) (cVar 1)))))) ((aRet (cK (.bool false)))) (aNext))
    (aSeq (aIf (cOrT (cNotT (cTest (cCall m_are_things (cCons (cBin fIx (cVar 0) (cK (.int 1))) cNil)))) (cNotT (cTest (cChain fLe fLe (cK (.int 2)) (cApp fLen (cCons (cBin fIx (cVar 0) (cK (.int 1))) cNil)) (cK (.int 5)))))) ((aRet (cK (.bool false)))) (aNext))
    (aSeq (aIf (cOrT (cNotT (cTest (cUn (isiOf "tuple") (cBin fIx (cVar 0) (cK (.int 2)))))) (cTest (cBin fNe (cApp fLen (cCons (cBin fIx (cVar 0) (cK (.int 2))) cNil)) (cApp fLen (cCons (cCall m_pairs_of (cCons (cBin fIx (cVar 0) (cK (.int 1))) cNil)) cNil))))) ((aRet (cK (.bool false)))) (aNext))
    (aRet (cApp fAll (cCons (cFz (cLc (cSeqH (cBin fIx (cVar 0) (cK (.int 2)))) (gN 3) tYesC (cAnd (cCall m_is_whole (cCons (cVar 3) cNil)) (cCallL 2 A.is_sign m_is_sign (cCons (cVar 3) cNil))) [3])) cNil))))))
theorem b_is_table (T : TX K mg gb A D) {m_are_things : List DV → M DV} (c_are_things : FnOk P w K mg base (L2.CX P w) 2 A.are_things D.are_things ["value"] (spF K gb (m0 TB) m_are_things)) (g_are_things : ∀ xs G r G', m_are_things xs G = some (r, G') → (m0 TB).gr G G') {m_is_whole : List DV → M DV} (c_is_whole : FnOk P w K mg base (L2.CX P w) 1 A.is_whole D.is_whole ["value"] (spF K gb (m0 TB) m_is_whole)) (g_is_whole : ∀ xs G r G', m_is_whole xs G = some (r, G') → (m0 TB).gr G G') {m_pairs_of : List DV → M DV} (c_pairs_of : FnOk P w K mg base (L2.CX P w) 1 A.pairs_of D.pairs_of ["things"] (spF K gb (m0 TB) m_pairs_of)) (g_pairs_of : ∀ xs G r G', m_pairs_of xs G = some (r, G') → (m0 TB).gr G G') {m_is_sign : List DV → M DV} (c_is_sign : FnOk P w K mg base (L2.CX P w) 1 A.is_sign D.is_sign ["number"] (spF K gb (m0 TB) m_is_sign)) (g_is_sign : ∀ xs G r G', m_is_sign xs G = some (r, G') → (m0 TB).gr G G') (cdv : Value) (A' : Around) (outer : List Env) (s : Shared) (H F0 : Hp) (E : XK) (hr : Room 2 (A'.deeper (envOfC "is_table" (defScope s_is_table) s.heap.objs.size A.is_table cdv))) :
    PSs (cxOf (L2.CX P w) P w K mg base N_is_table "is_table" (defScope s_is_table) A.is_table cdv A' outer s H E) (defBody s_is_table) (tS K ⟨gb, m0 TB, F0, H, E⟩ (a_is_table A m_are_things m_is_whole m_pairs_of m_is_sign)) := by
  have SC := sc_is_table
  have OW : PassesOwn (model P w) (cxOf (L2.CX P w) P w K mg base N_is_table "is_table" (defScope s_is_table) A.is_table cdv A' outer s H E).A (cxOf (L2.CX P w) P w K mg base N_is_table "is_table" (defScope s_is_table) A.is_table cdv A' outer s H E).env (cxOf (L2.CX P w) P w K mg base N_is_table "is_table" (defScope s_is_table) A.is_table cdv A' outer s H E).xe := passes_of rfl
  have TK : Takes (cxOf (L2.CX P w) P w K mg base N_is_table "is_table" (defScope s_is_table) A.is_table cdv A' outer s H E) (fun cls d _ H => E cls d H) := takes_of rfl rfl rfl rfl
  have PX := passT TK
  exact (ds_cons (ds_if (PW.pt (dt_or (dt_not (dt_val (de_isi (T := "tuple") (by decide +kernel) (de_var 0) T.b_isinstance T.b_tuple))) (dt_or (dt_cmp (op_neD hr.units) of_ne (de_callB call_len of_len (by rfl) T.b_len (by decide +kernel) (da_cons (de_var 0) da_nil)) de_int (nomark _)) (dt_or (dt_not (dt_val (de_isi (T := "str") (by decide +kernel) (de_at (de_var 0) de_int) T.b_isinstance T.b_str))) (dt_or1 (dt_cmp (op_neD hr.units) of_ne (de_at (de_var 0) de_int) (de_var 1) (nomark _))))))) (ds_one (ds_ret de_bl)) ds_nil) (ds_cons (ds_if (PW.pt (dt_or (dt_not (dt_val (de_call c_are_things (hr.mono (by decide)) T.m_are_things T.F_are_things.kp T.B_are_things PX (le00 _) g_are_things (da_cons (de_at (de_var 0) de_int) da_nil)))) (dt_or1 (dt_not (dt_chain op_le op_le of_le of_le (de_globI (by rfl) T.g_LEAST_THINGS.choose_spec) (de_callB call_len of_len (by rfl) T.b_len (by decide +kernel) (da_cons (de_at (de_var 0) de_int) da_nil)) (de_globI (by rfl) T.g_MOST_THINGS.choose_spec)))))) (ds_one (ds_ret de_bl)) ds_nil) (ds_cons (ds_if (PW.pt (dt_or (dt_not (dt_val (de_isi (T := "tuple") (by decide +kernel) (de_at (de_var 0) de_int) T.b_isinstance T.b_tuple))) (dt_or1 (dt_cmp (op_neD hr.units) of_ne (de_callB call_len of_len (by rfl) T.b_len (by decide +kernel) (da_cons (de_at (de_var 0) de_int) da_nil)) (de_callB call_len of_len (by rfl) T.b_len (by decide +kernel) (da_cons (de_call c_pairs_of (hr.mono (by decide)) T.m_pairs_of T.F_pairs_of.kp T.B_pairs_of PX (le00 _) g_pairs_of (da_cons (de_at (de_var 0) de_int) da_nil)) da_nil)) (nomark _))))) (ds_one (ds_ret de_bl)) ds_nil) (ds_one (ds_ret (de_callB (cr_all rfl) of_all (by rfl) T.b_all (by decide +kernel) (da_cons (de_fz (dv_lc (own := [("number", 3)]) rfl SC.nd (di_seqH (de_at (de_var 0) de_int)) (blkOk_by (N := N_is_table) (sc := defScope s_is_table) (by decide +kernel)) (by decide) (fun _ _ _ _ _ => (dg_name 3 SC.nd)) (fun _ _ _ _ _ => dts_nil) (fun _ _ _ _ _ => (de_and (de_call c_is_whole (hr.mono (by decide)) T.m_is_whole T.F_is_whole.kp T.B_is_whole passL (le00 _) g_is_whole (da_cons (de_var 3) da_nil)) (de_one (de_callL (i := 2) c_is_sign (hr.mono (by decide)) T.F_is_sign.kp T.B_is_sign passL (le00 _) g_is_sign (da_cons (de_var 3) da_nil))))))) da_nil)))))))
abbrev N_is_sign : List Str := ["number"]
theorem sc_is_sign : FnScope N_is_sign ["number"] (defScope s_is_sign) := ⟨rfl, rfl, rfl, by decide +kernel, rfl, by decide +kernel, by decide +kernel⟩
def a_is_sign (A : AD) : TSa :=
    (aRet (cChain fLe fLe (cUn fNeg (cK (.int 1))) (cVar 0) (cK (.int 1))))
theorem b_is_sign (T : TX K mg gb A D) (cdv : Value) (A' : Around) (outer : List Env) (s : Shared) (H F0 : Hp) (E : XK) (hr : Room 0 (A'.deeper (envOfC "is_sign" (defScope s_is_sign) s.heap.objs.size A.is_sign cdv))) :
    PSs (cxOf (L2.CX P w) P w K mg base N_is_sign "is_sign" (defScope s_is_sign) A.is_sign cdv A' outer s H E) (defBody s_is_sign) (tS K ⟨gb, m0 TB, F0, H, E⟩ (a_is_sign A)) := by
  have SC := sc_is_sign
  have OW : PassesOwn (model P w) (cxOf (L2.CX P w) P w K mg base N_is_sign "is_sign" (defScope s_is_sign) A.is_sign cdv A' outer s H E).A (cxOf (L2.CX P w) P w K mg base N_is_sign "is_sign" (defScope s_is_sign) A.is_sign cdv A' outer s H E).env (cxOf (L2.CX P w) P w K mg base N_is_sign "is_sign" (defScope s_is_sign) A.is_sign cdv A' outer s H E).xe := passes_of rfl
  have TK : Takes (cxOf (L2.CX P w) P w K mg base N_is_sign "is_sign" (defScope s_is_sign) A.is_sign cdv A' outer s H E) (fun cls d _ H => E cls d H) := takes_of rfl rfl rfl rfl
  have PX := passT TK
  exact (ds_one (ds_ret (de_chain op_le op_le of_le of_le (de_neg de_int) (de_var 0) de_int)))
abbrev N_is_duels : List Str := ["value"]
theorem sc_is_duels : FnScope N_is_duels ["value"] (defScope s_is_duels) := ⟨rfl, rfl, rfl, by decide +kernel, rfl, by decide +kernel, by decide +kernel⟩
def a_is_duels (A : AD) (m_is_table : List DV → M DV) : TSa :=
    (aRet (cCall m_is_table (cCons (cVar 0) (cCons (cK (.str "duels")) (cCons (cFn A.is_sign) cNil)))))
theorem b_is_duels (T : TX K mg gb A D) {m_is_table : List DV → M DV} (c_is_table : FnOk P w K mg base (L2.CX P w) 3 A.is_table D.is_table ["value", "name", "judge"] (spF K gb (m0 TB) m_is_table)) (g_is_table : ∀ xs G r G', m_is_table xs G = some (r, G') → (m0 TB).gr G G') (cdv : Value) (A' : Around) (outer : List Env) (s : Shared) (H F0 : Hp) (E : XK) (hr : Room 3 (A'.deeper (envOfC "is_duels" (defScope s_is_duels) s.heap.objs.size A.is_duels cdv))) :
    PSs (cxOf (L2.CX P w) P w K mg base N_is_duels "is_duels" (defScope s_is_duels) A.is_duels cdv A' outer s H E) (defBody s_is_duels) (tS K ⟨gb, m0 TB, F0, H, E⟩ (a_is_duels A m_is_table)) := by
  have SC := sc_is_duels
  have OW : PassesOwn (model P w) (cxOf (L2.CX P w) P w K mg base N_is_duels "is_duels" (defScope s_is_duels) A.is_duels cdv A' outer s H E).A (cxOf (L2.CX P w) P w K mg base N_is_duels "is_duels" (defScope s_is_duels) A.is_duels cdv A' outer s H E).env (cxOf (L2.CX P w) P w K mg base N_is_duels "is_duels" (defScope s_is_duels) A.is_duels cdv A' outer s H E).xe := passes_of rfl
  have TK : Takes (cxOf (L2.CX P w) P w K mg base N_is_duels "is_duels" (defScope s_is_duels) A.is_duels cdv A' outer s H E) (fun cls d _ H => E cls d H) := takes_of rfl rfl rfl rfl
  have PX := passT TK
  exact (ds_one (ds_ret (de_call c_is_table (hr.mono (by decide)) T.m_is_table T.F_is_table.kp T.B_is_table PX (le00 _) g_is_table (da_cons (de_var 0) (da_cons (de_str) (da_cons (de_globF (by rfl) T.m_is_sign) da_nil))))))
abbrev N_two_for : List Str := ["things", "one", "other", "rest", "word"]
theorem sc_two_for : FnScope N_two_for ["things", "one", "other"] (defScope s_two_for) := ⟨rfl, rfl, rfl, by decide +kernel, rfl, by decide +kernel, by decide +kernel⟩
def a_two_for (A : AD) : TSa :=
    (aSeq (aSet 3 (cNv (cApp fTupOf (cCons (cFz (cLc (cSeqH (cVar 0)) (gN 4) (cTest (cBin fNotIn (cVar 4) (cApp fTup (cCons (cVar 1) (cCons (cVar 2) cNil))))) (cVar 4) [4])) cNil))))
    (aRet (cApp fTup (cCons (cBin fAdd (cApp fTup (cCons (cVar 1) (cCons (cVar 2) cNil))) (cVar 3)) (cCons (cBin fAdd (cUn fBack (cVar 3)) (cApp fTup (cCons (cVar 1) (cCons (cVar 2) cNil)))) cNil)))))
theorem b_two_for (T : TX K mg gb A D) (cdv : Value) (A' : Around) (outer : List Env) (s : Shared) (H F0 : Hp) (E : XK) (hr : Room 0 (A'.deeper (envOfC "two_for" (defScope s_two_for) s.heap.objs.size A.two_for cdv))) :
    PSs (cxOf (L2.CX P w) P w K mg base N_two_for "two_for" (defScope s_two_for) A.two_for cdv A' outer s H E) (defBody s_two_for) (tS K ⟨gb, m0 TB, F0, H, E⟩ (a_two_for A)) := by
  have SC := sc_two_for
  have OW : PassesOwn (model P w) (cxOf (L2.CX P w) P w K mg base N_two_for "two_for" (defScope s_two_for) A.two_for cdv A' outer s H E).A (cxOf (L2.CX P w) P w K mg base N_two_for "two_for" (defScope s_two_for) A.two_for cdv A' outer s H E).env (cxOf (L2.CX P w) P w K mg base N_two_for "two_for" (defScope s_two_for) A.two_for cdv A' outer s H E).xe := passes_of rfl
  have TK : Takes (cxOf (L2.CX P w) P w K mg base N_two_for "two_for" (defScope s_two_for) A.two_for cdv A' outer s H E) (fun cls d _ H => E cls d H) := takes_of rfl rfl rfl rfl
  have PX := passT TK
  exact (ds_cons (ds_set (i := 3) SC.nd (dv_of (de_callT call_tupF of_tuple (by rfl) T.b_tuple (by decide +kernel) (da_cons (de_fz (dv_lc (own := [("word", 4)]) rfl SC.nd (di_seqH (de_var 0)) (blkOk_by (N := N_two_for) (sc := defScope s_two_for) (by decide +kernel)) (by decide) (fun _ _ _ _ _ => (dg_name 4 SC.nd)) (fun _ _ _ _ _ => dts_one (dt_cmp (ox_notin (R65 hr)) of_notin (de_var 4) (de_tup (da_cons (de_var 1) (da_cons (de_var 2) da_nil))) (by rfl))) (fun _ _ _ _ _ => (de_var 4)))) da_nil)))) (ds_one (ds_ret (de_tup (da_cons (de_add (de_tup (da_cons (de_var 1) (da_cons (de_var 2) da_nil))) (de_var 3)) (da_cons (de_add (de_back (de_var 3)) (de_tup (da_cons (de_var 1) (da_cons (de_var 2) da_nil)))) da_nil))))))
abbrev N_even_voters : List Str := ["things", "numbers", "found", "one", "other", "number", "pair"]
theorem sc_even_voters : FnScope N_even_voters ["things", "numbers"] (defScope s_even_voters) := ⟨rfl, rfl, rfl, by decide +kernel, rfl, by decide +kernel, by decide +kernel⟩
def a_even_voters (A : AD) (m_pairs_of m_two_for : List DV → M DV) : TSa :=
    (aSeq (aSet 2 (cNv (cApp fTup cNil)))
    (aSeq (aFor (cItr fZipF (cCons (cCall m_pairs_of (cCons (cVar 0) cNil)) (cCons (cVar 1) cNil))) (gTp 2 (gsCons (gTp 2 (gsCons (gN 3) (gsCons (gN 4) gsNil))) (gsCons (gN 5) gsNil))) ((aSeq (aSet 6 (cNv (cIf (cTest (cBin fGt (cVar 5) (cK (.int 0)))) (cCall m_two_for (cCons (cVar 0) (cCons (cVar 3) (cCons (cVar 4) cNil)))) (cCall m_two_for (cCons (cVar 0) (cCons (cVar 4) (cCons (cVar 3) cNil)))))))
    (aSet 2 (cNv (cBin fAdd (cVar 2) (cBin fMul (cVar 6) (cBin fDiv (cApp fAbs (cCons (cVar 5) cNil)) (cK (.int 2))))))))))
    (aRet (cIf (cTest (cBin fNe (cVar 2) (cApp fTup cNil))) (cVar 2) (cApp fTup (cCons (cVar 0) (cCons (cUn fBack (cVar 0)) cNil)))))))
theorem b_even_voters (T : TX K mg gb A D) {m_pairs_of : List DV → M DV} (c_pairs_of : FnOk P w K mg base (L2.CX P w) 1 A.pairs_of D.pairs_of ["things"] (spF K gb (m0 TB) m_pairs_of)) (g_pairs_of : ∀ xs G r G', m_pairs_of xs G = some (r, G') → (m0 TB).gr G G') {m_two_for : List DV → M DV} (c_two_for : FnOk P w K mg base (L2.CX P w) 1 A.two_for D.two_for ["things", "one", "other"] (spF K gb (m0 TB) m_two_for)) (g_two_for : ∀ xs G r G', m_two_for xs G = some (r, G') → (m0 TB).gr G G') (cdv : Value) (A' : Around) (outer : List Env) (s : Shared) (H F0 : Hp) (E : XK) (hr : Room 1 (A'.deeper (envOfC "even_voters" (defScope s_even_voters) s.heap.objs.size A.even_voters cdv))) :
    PSs (cxOf (L2.CX P w) P w K mg base N_even_voters "even_voters" (defScope s_even_voters) A.even_voters cdv A' outer s H E) (defBody s_even_voters) (tS K ⟨gb, m0 TB, F0, H, E⟩ (a_even_voters A m_pairs_of m_two_for)) := by
  have SC := sc_even_voters
  have OW : PassesOwn (model P w) (cxOf (L2.CX P w) P w K mg base N_even_voters "even_voters" (defScope s_even_voters) A.even_voters cdv A' outer s H E).A (cxOf (L2.CX P w) P w K mg base N_even_voters "even_voters" (defScope s_even_voters) A.even_voters cdv A' outer s H E).env (cxOf (L2.CX P w) P w K mg base N_even_voters "even_voters" (defScope s_even_voters) A.even_voters cdv A' outer s H E).xe := passes_of rfl
  have TK : Takes (cxOf (L2.CX P w) P w K mg base N_even_voters "even_voters" (defScope s_even_voters) A.even_voters cdv A' outer s H E) (fun cls d _ H => E cls d H) := takes_of rfl rfl rfl rfl
  have PX := passT TK
  exact (ds_cons (ds_set (i := 2) SC.nd (dv_of (de_tup da_nil))) (ds_cons (ds_for OW rfl (di_zipF T.b_zip (da_cons (de_call c_pairs_of (hr.mono (by decide)) T.m_pairs_of T.F_pairs_of.kp T.B_pairs_of PX (le00 _) g_pairs_of (da_cons (de_var 0) da_nil)) (da_cons (de_var 1) da_nil))) (dg_tup rfl (dgs_cons (dg_tup rfl (dgs_cons (dg_name 3 SC.nd) (dgs_cons (dg_name 4 SC.nd) dgs_nil))) (dgs_cons (dg_name 5 SC.nd) dgs_nil))) (ds_cons (ds_set (i := 6) SC.nd (dv_of (de_if (dt_cmp op_gt of_gt (de_var 5) de_int (nomark _)) (de_call c_two_for (hr.mono (by decide)) T.m_two_for T.F_two_for.kp T.B_two_for PX (le00 _) g_two_for (da_cons (de_var 0) (da_cons (de_var 3) (da_cons (de_var 4) da_nil)))) (de_call c_two_for (hr.mono (by decide)) T.m_two_for T.F_two_for.kp T.B_two_for PX (le00 _) g_two_for (da_cons (de_var 0) (da_cons (de_var 4) (da_cons (de_var 3) da_nil))))))) (ds_one (ds_set (i := 2) SC.nd (dv_of (de_add (de_var 2) (de_mul (de_var 6) (de_fdiv (de_callB call_abs of_abs (by rfl) T.b_abs (by decide +kernel) (da_cons (de_var 5) da_nil)) de_int)))))))) (ds_one (ds_ret (de_if (dt_cmp (op_neD hr.units) of_ne (de_var 2) (de_tup da_nil) (nomark _)) (de_var 2) (de_tup (da_cons (de_var 0) (da_cons (de_back (de_var 0)) da_nil))))))))
abbrev N_voters_for : List Str := ["things", "numbers", "left", "number"]
theorem sc_voters_for : FnScope N_voters_for ["things", "numbers"] (defScope s_voters_for) := ⟨rfl, rfl, rfl, by decide +kernel, rfl, by decide +kernel, by decide +kernel⟩
def a_voters_for (A : AD) (m_even_voters : List DV → M DV) : TSa :=
    (aSeq (aIf (cTest (cBin fEq (cBin fMod (cBin fIx (cVar 1) (cK (.int 0))) (cK (.int 2))) (cK (.int 0)))) ((aRet (cCall m_even_voters (cCons (cVar 0) (cCons (cVar 1) cNil))))) (aNext))
    (aSeq (aSet 2 (cNv (cApp fTupOf (cCons (cFz (cLc (cSeqH (cVar 1)) (gN 3) tYesC (cBin fSub (cVar 3) (cK (.int 1))) [3])) cNil))))
    (aRet (cBin fAdd (cApp fTup (cCons (cVar 0) cNil)) (cIf (cTest (cApp fAny (cCons (cFz (cLc (cSeqH (cVar 2)) (gN 3) tYesC (cBin fNe (cVar 3) (cK (.int 0))) [3])) cNil))) (cCall m_even_voters (cCons (cVar 0) (cCons (cVar 2) cNil))) (cApp fTup cNil))))))
theorem b_voters_for (T : TX K mg gb A D) {m_even_voters : List DV → M DV} (c_even_voters : FnOk P w K mg base (L2.CX P w) 2 A.even_voters D.even_voters ["things", "numbers"] (spF K gb (m0 TB) m_even_voters)) (g_even_voters : ∀ xs G r G', m_even_voters xs G = some (r, G') → (m0 TB).gr G G') (cdv : Value) (A' : Around) (outer : List Env) (s : Shared) (H F0 : Hp) (E : XK) (hr : Room 2 (A'.deeper (envOfC "voters_for" (defScope s_voters_for) s.heap.objs.size A.voters_for cdv))) :
    PSs (cxOf (L2.CX P w) P w K mg base N_voters_for "voters_for" (defScope s_voters_for) A.voters_for cdv A' outer s H E) (defBody s_voters_for) (tS K ⟨gb, m0 TB, F0, H, E⟩ (a_voters_for A m_even_voters)) := by
  have SC := sc_voters_for
  have OW : PassesOwn (model P w) (cxOf (L2.CX P w) P w K mg base N_voters_for "voters_for" (defScope s_voters_for) A.voters_for cdv A' outer s H E).A (cxOf (L2.CX P w) P w K mg base N_voters_for "voters_for" (defScope s_voters_for) A.voters_for cdv A' outer s H E).env (cxOf (L2.CX P w) P w K mg base N_voters_for "voters_for" (defScope s_voters_for) A.voters_for cdv A' outer s H E).xe := passes_of rfl
  have TK : Takes (cxOf (L2.CX P w) P w K mg base N_voters_for "voters_for" (defScope s_voters_for) A.voters_for cdv A' outer s H E) (fun cls d _ H => E cls d H) := takes_of rfl rfl rfl rfl
  have PX := passT TK
  exact (ds_cons (ds_if (dt_cmp (op_eqD hr.units) of_eq (de_mod (de_at (de_var 1) de_int) de_int) de_int (nomark _)) (ds_one (ds_ret (de_call c_even_voters (hr.mono (by decide)) T.m_even_voters T.F_even_voters.kp T.B_even_voters PX (le00 _) g_even_voters (da_cons (de_var 0) (da_cons (de_var 1) da_nil))))) ds_nil) (ds_cons (ds_set (i := 2) SC.nd (dv_of (de_callT call_tupF of_tuple (by rfl) T.b_tuple (by decide +kernel) (da_cons (de_fz (dv_lc (own := [("number", 3)]) rfl SC.nd (di_seqH (de_var 1)) (blkOk_by (N := N_voters_for) (sc := defScope s_voters_for) (by decide +kernel)) (by decide) (fun _ _ _ _ _ => (dg_name 3 SC.nd)) (fun _ _ _ _ _ => dts_nil) (fun _ _ _ _ _ => (de_sub (de_var 3) de_int)))) da_nil)))) (ds_one (ds_ret (de_add (de_tup (da_cons (de_var 0) da_nil)) (de_if (dt_val (de_callB (cr_any rfl) of_any (by rfl) T.b_any (by decide +kernel) (da_cons (de_fz (dv_lc (own := [("number", 3)]) rfl SC.nd (di_seqH (de_var 2)) (blkOk_by (N := N_voters_for) (sc := defScope s_voters_for) (by decide +kernel)) (by decide) (fun _ _ _ _ _ => (dg_name 3 SC.nd)) (fun _ _ _ _ _ => dts_nil) (fun _ _ _ _ _ => (de_cmp (op_neD hr.units) of_ne (de_var 3) de_int (nomark _))))) da_nil))) (de_call c_even_voters (hr.mono (by decide)) T.m_even_voters T.F_even_voters.kp T.B_even_voters PX (le00 _) g_even_voters (da_cons (de_var 0) (da_cons (de_var 2) da_nil))) (de_tup da_nil)))))))
abbrev N_duel_voters : List Str := ["duels", "odd", "sign"]
theorem sc_duel_voters : FnScope N_duel_voters ["duels", "odd"] (defScope s_duel_voters) := ⟨rfl, rfl, rfl, by decide +kernel, rfl, by decide +kernel, by decide +kernel⟩
def a_duel_voters (A : AD) (m_is_duels m_voters_for : List DV → M DV) : TSa :=
    (aSeq (aIf (cNotT (cTest (cCall m_is_duels (cCons (cVar 0) cNil)))) ((aRaise ⟨"BadDuels", []⟩)) (aNext))
    (aSeq (aIf (cNotT (cTest (cUn (isiOf "bool") (cVar 1)))) ((aRaise ⟨"BadOdd", []⟩)) (aNext))
    (aSeq (aIf (cAndT (cTest (cVar 1)) (cTest (cBin fIn (cK (.int 0)) (cBin fIx (cVar 0) (cK (.int 2)))))) ((aRet (cK .none))) (aNext))
    (aRet (cCall m_voters_for (cCons (cBin fIx (cVar 0) (cK (.int 1))) (cCons (cApp fTupOf (cCons (cFz (cLc (cSeqH (cBin fIx (cVar 0) (cK (.int 2)))) (gN 2) tYesC (cIf (cTest (cVar 1)) (cVar 2) (cBin fMul (cK (.int 2)) (cVar 2))) [2])) cNil)) cNil)))))))
theorem b_duel_voters (T : TX K mg gb A D) {m_is_duels : List DV → M DV} (c_is_duels : FnOk P w K mg base (L2.CX P w) 4 A.is_duels D.is_duels ["value"] (spF K gb (m0 TB) m_is_duels)) (g_is_duels : ∀ xs G r G', m_is_duels xs G = some (r, G') → (m0 TB).gr G G') {m_voters_for : List DV → M DV} (c_voters_for : FnOk P w K mg base (L2.CX P w) 3 A.voters_for D.voters_for ["things", "numbers"] (spF K gb (m0 TB) m_voters_for)) (g_voters_for : ∀ xs G r G', m_voters_for xs G = some (r, G') → (m0 TB).gr G G') (cdv : Value) (A' : Around) (outer : List Env) (s : Shared) (H F0 : Hp) (E : XK) (hr : Room 4 (A'.deeper (envOfC "duel_voters" (defScope s_duel_voters) s.heap.objs.size A.duel_voters cdv))) :
    PSs (cxOf (L2.CX P w) P w K mg base N_duel_voters "duel_voters" (defScope s_duel_voters) A.duel_voters cdv A' outer s H E) (defBody s_duel_voters) (tS K ⟨gb, m0 TB, F0, H, E⟩ (a_duel_voters A m_is_duels m_voters_for)) := by
  have SC := sc_duel_voters
  have OW : PassesOwn (model P w) (cxOf (L2.CX P w) P w K mg base N_duel_voters "duel_voters" (defScope s_duel_voters) A.duel_voters cdv A' outer s H E).A (cxOf (L2.CX P w) P w K mg base N_duel_voters "duel_voters" (defScope s_duel_voters) A.duel_voters cdv A' outer s H E).env (cxOf (L2.CX P w) P w K mg base N_duel_voters "duel_voters" (defScope s_duel_voters) A.duel_voters cdv A' outer s H E).xe := passes_of rfl
  have TK : Takes (cxOf (L2.CX P w) P w K mg base N_duel_voters "duel_voters" (defScope s_duel_voters) A.duel_voters cdv A' outer s H E) (fun cls d _ H => E cls d H) := takes_of rfl rfl rfl rfl
  have PX := passT TK
  exact (ds_cons (ds_if (dt_not (dt_val (de_call c_is_duels (hr.mono (by decide)) T.m_is_duels T.F_is_duels.kp T.B_is_duels PX (le00 _) g_is_duels (da_cons (de_var 0) da_nil)))) (ds_one (ds_raise rfl TK PySem.F.excBase_ValueError T.q_BadDuels T.m_BadDuels T.k_BadDuels (raises_own T.s_BadDuels T.t_BadDuels) T.ca_BadDuels)) ds_nil) (ds_cons (ds_if (dt_not (dt_val (de_isi (T := "bool") (by decide +kernel) (de_var 1) T.b_isinstance T.b_bool))) (ds_one (ds_raise rfl TK PySem.F.excBase_ValueError T.q_BadOdd T.m_BadOdd T.k_BadOdd (raises_own T.s_BadOdd T.t_BadOdd) T.ca_BadOdd)) ds_nil) (ds_cons (ds_if (PW.pt (dt_and (dt_val (de_var 1)) (dt_and1 (dt_cmp (ox_in (R65 hr)) of_in de_int (de_at (de_var 0) de_int) (by rfl))))) (ds_one (ds_ret de_non)) ds_nil) (ds_one (ds_ret (de_call c_voters_for (hr.mono (by decide)) T.m_voters_for T.F_voters_for.kp T.B_voters_for PX (le00 _) g_voters_for (da_cons (de_at (de_var 0) de_int) (da_cons (de_callT call_tupF of_tuple (by rfl) T.b_tuple (by decide +kernel) (da_cons (de_fz (dv_lc (own := [("sign", 2)]) rfl SC.nd (di_seqH (de_at (de_var 0) de_int)) (blkOk_by (N := N_duel_voters) (sc := defScope s_duel_voters) (by decide +kernel)) (by decide) (fun _ _ _ _ _ => (dg_name 2 SC.nd)) (fun _ _ _ _ _ => dts_nil) (fun _ _ _ _ _ => (de_if (dt_val (de_var 1)) (de_var 2) (de_mul de_int (de_var 2)))))) da_nil)) da_nil))))))))
abbrev N_l_blended : List Str := ["state", "turn", "found", "prime", "blend", "cell"]
theorem sc_l_blended : FnScope N_l_blended ["state"] (defScope s_l_blended) := ⟨rfl, rfl, rfl, by decide +kernel, rfl, by decide +kernel, by decide +kernel⟩
def a_l_blended (A : AD) : TSa :=
    (aSeq (aPar 1 2 (cNv (cBin fAdd (cDrI (fun G => G.turn) (cVar 0)) (cK (.int 1)))) (cNv (cK (.int 0))))
    (aSeq (aDrSet (fun n G => { G with turn := n }) (cVar 0) (cVar 1))
    (aSeq (aFor (cSeq (cApp fLst (cCons (cK (.int 2147483579)) (cCons (cK (.int 2147483629)) (cCons (cK (.int 2147483563)) cNil))))) (gN 3) ((aSeq (aSet 4 (cNv (cBin fAdd (cBin fMul (cK (.int 48271)) (cVar 1)) (cBin fDiv (cVar 3) (cK (.int 53))))))
    (aSeq (aFor (cDrC (cVar 0)) (gN 5) ((aSet 4 (cNv (cBin fMod (cApp fIntOf (cCons (cBin fAdd (cBin fAdd (cBin fMul (cVar 4) (cK (.int 69621))) (cVar 5)) (cVar 1)) cNil)) (cVar 3))))))
    (aSet 2 (cNv (cBin fAdd (cBin fMul (cVar 2) (cK (.int 2147483647))) (cBin fMod (cApp fIntOf (cCons (cBin fPow (cVar 4) (cK (.int 5))) cNil)) (cVar 3)))))))))
    (aRet (cVar 2)))))
theorem b_l_blended (T : TX K mg gb A D) (n1 : gb.dr ≠ gg) (n2 : gb.dr ≠ gc) (n3 : gg ≠ gc) (cdv : Value) (A' : Around) (outer : List Env) (s : Shared) (H F0 : Hp) (E : XK) (hr : Room 0 (A'.deeper (envOfC "_law_blended" (defScope s_l_blended) s.heap.objs.size A.l_blended cdv))) :
    PSs (cxOf (L2.CX P w) P w K mg base N_l_blended "_law_blended" (defScope s_l_blended) A.l_blended cdv A' outer s H E) (defBody s_l_blended) (tS K ⟨gb, mD TB gb.dr gg gc cells, F0, H, E⟩ (a_l_blended A)) := by
  have SC := sc_l_blended
  have OW : PassesOwn (model P w) (cxOf (L2.CX P w) P w K mg base N_l_blended "_law_blended" (defScope s_l_blended) A.l_blended cdv A' outer s H E).A (cxOf (L2.CX P w) P w K mg base N_l_blended "_law_blended" (defScope s_l_blended) A.l_blended cdv A' outer s H E).env (cxOf (L2.CX P w) P w K mg base N_l_blended "_law_blended" (defScope s_l_blended) A.l_blended cdv A' outer s H E).xe := passes_of rfl
  have TK : Takes (cxOf (L2.CX P w) P w K mg base N_l_blended "_law_blended" (defScope s_l_blended) A.l_blended cdv A' outer s H E) (fun cls d _ H => E cls d H) := takes_of rfl rfl rfl rfl
  have PX := passT TK
  have DF := mD_dr (gb := gb) (T := TB) (cells := cells) (F0 := F0) (H0 := H) (E := E) n1 n2 n3
  exact (ds_cons (ds_par (i := 1) (j := 2) rfl SC.nd (by decide) (dv_of (de_add (de_drI (f := fun G => G.turn) DF (R1 hr) (fun _ => by rfl) (de_var 0)) de_int)) (dv_of de_int) (by rfl)) (ds_cons (ds_drset (f := fun n G => { G with turn := n }) DF (R1 hr) (fun _ _ => ⟨by rfl, rfl⟩) (de_var 0) (de_var 1)) (ds_cons (ds_for OW rfl (di_seq (de_lst (da_cons de_int (da_cons de_int (da_cons de_int da_nil))))) (dg_name 3 SC.nd) (ds_cons (ds_set (i := 4) SC.nd (dv_of (de_add (de_mul de_int (de_var 1)) (de_fdiv (de_var 3) de_int)))) (ds_cons (ds_for OW rfl (di_drc DF (R1 hr) (de_var 0)) (dg_name 5 SC.nd) (ds_one (ds_set (i := 4) SC.nd (dv_of (de_mod (de_callT call_int1 of_int (by rfl) T.b_int (by decide +kernel) (da_cons (de_add (de_add (de_mul (de_var 4) de_int) (de_var 5)) (de_var 1)) da_nil)) (de_var 3)))))) (ds_one (ds_set (i := 2) SC.nd (dv_of (de_add (de_mul (de_var 2) de_int) (de_mod (de_callT call_int1 of_int (by rfl) T.b_int (by decide +kernel) (da_cons (de_pow (de_var 4) de_int) da_nil)) (de_var 3))))))))) (ds_one (ds_ret (de_var 2))))))
abbrev N_l_draw : List Str := ["state", "room", "found"]
theorem sc_l_draw : FnScope N_l_draw ["state", "room"] (defScope s_l_draw) := ⟨rfl, rfl, rfl, by decide +kernel, rfl, by decide +kernel, by decide +kernel⟩
def a_l_draw (A : AD) (m_l_blended : List DV → M DV) : TSa :=
    (aSeq (aIf (cTest (cBin fEq (cDrI (fun G => G.rest) (cVar 0)) (cK (.int 0)))) ((aDrSet (fun n G => { G with rest := n }) (cVar 0) (cIf (cDrNe (cVar 0)) (cDrPop (cVar 0)) (cCall m_l_blended (cCons (cVar 0) cNil))))) (aNext))
    (aSeq (aSet 2 (cNv (cBin fMod (cApp fIntOf (cCons (cDrI (fun G => G.rest) (cVar 0)) cNil)) (cVar 1))))
    (aSeq (aDrSet (fun n G => { G with rest := n }) (cVar 0) (cBin fDiv (cDrI (fun G => G.rest) (cVar 0)) (cVar 1)))
    (aRet (cVar 2)))))
theorem b_l_draw (T : TX K mg gb A D) (n1 : gb.dr ≠ gg) (n2 : gb.dr ≠ gc) (n3 : gg ≠ gc) {m_l_blended : List DV → M DV} (c_l_blended : FnOk P w K mg base (L2.CX P w) 1 A.l_blended D.l_blended ["state"] (spF K gb (mD TB gb.dr gg gc cells) m_l_blended)) (g_l_blended : ∀ xs G r G', m_l_blended xs G = some (r, G') → (mD TB gb.dr gg gc cells).gr G G') (cdv : Value) (A' : Around) (outer : List Env) (s : Shared) (H F0 : Hp) (E : XK) (hr : Room 1 (A'.deeper (envOfC "_law_draw" (defScope s_l_draw) s.heap.objs.size A.l_draw cdv))) :
    PSs (cxOf (L2.CX P w) P w K mg base N_l_draw "_law_draw" (defScope s_l_draw) A.l_draw cdv A' outer s H E) (defBody s_l_draw) (tS K ⟨gb, mD TB gb.dr gg gc cells, F0, H, E⟩ (a_l_draw A m_l_blended)) := by
  have SC := sc_l_draw
  have OW : PassesOwn (model P w) (cxOf (L2.CX P w) P w K mg base N_l_draw "_law_draw" (defScope s_l_draw) A.l_draw cdv A' outer s H E).A (cxOf (L2.CX P w) P w K mg base N_l_draw "_law_draw" (defScope s_l_draw) A.l_draw cdv A' outer s H E).env (cxOf (L2.CX P w) P w K mg base N_l_draw "_law_draw" (defScope s_l_draw) A.l_draw cdv A' outer s H E).xe := passes_of rfl
  have TK : Takes (cxOf (L2.CX P w) P w K mg base N_l_draw "_law_draw" (defScope s_l_draw) A.l_draw cdv A' outer s H E) (fun cls d _ H => E cls d H) := takes_of rfl rfl rfl rfl
  have PX := passT TK
  have DF := mD_dr (gb := gb) (T := TB) (cells := cells) (F0 := F0) (H0 := H) (E := E) n1 n2 n3
  exact (ds_cons (ds_if (dt_cmp (op_eqD hr.units) of_eq (de_drI (f := fun G => G.rest) DF (R1 hr) (fun _ => by rfl) (de_var 0)) de_int (nomark _)) (ds_one (ds_drset (f := fun n G => { G with rest := n }) DF (R1 hr) (fun _ _ => ⟨by rfl, rfl⟩) (de_var 0) (de_if (dt_drne DF hr.units (de_var 0)) (de_drpop DF (R1 hr) (de_var 0) (fun h => pe_bm PySem.F.plainAttrs_list PySem.F.slot_list_pop PySem.F.type_list_pop mt_popAt h (pa_cons pe_int pa_nil))) (de_call c_l_blended (hr.mono (by decide)) T.m_l_blended T.F_l_blended.kp T.B_l_blended PX (leD _ _ _ _ _) g_l_blended (da_cons (de_var 0) da_nil))))) ds_nil) (ds_cons (ds_set (i := 2) SC.nd (dv_of (de_mod (de_callT call_int1 of_int (by rfl) T.b_int (by decide +kernel) (da_cons (de_drI (f := fun G => G.rest) DF (R1 hr) (fun _ => by rfl) (de_var 0)) da_nil)) (de_var 1)))) (ds_cons (ds_drset (f := fun n G => { G with rest := n }) DF (R1 hr) (fun _ _ => ⟨by rfl, rfl⟩) (de_var 0) (de_fdiv (de_drI (f := fun G => G.rest) DF (R1 hr) (fun _ => by rfl) (de_var 0)) (de_var 1))) (ds_one (ds_ret (de_var 2))))))
abbrev N_l_pick : List Str := ["state", "some"]
theorem sc_l_pick : FnScope N_l_pick ["state", "some"] (defScope s_l_pick) := ⟨rfl, rfl, rfl, by decide +kernel, rfl, by decide +kernel, by decide +kernel⟩
def a_l_pick (A : AD) (m_l_draw : List DV → M DV) : TSa :=
    (aRet (cBin fIx (cVar 1) (cCall m_l_draw (cCons (cVar 0) (cCons (cApp fLen (cCons (cVar 1) cNil)) cNil)))))
theorem b_l_pick (T : TX K mg gb A D) (n1 : gb.dr ≠ gg) (n2 : gb.dr ≠ gc) (n3 : gg ≠ gc) {m_l_draw : List DV → M DV} (c_l_draw : FnOk P w K mg base (L2.CX P w) 2 A.l_draw D.l_draw ["state", "room"] (spF K gb (mD TB gb.dr gg gc cells) m_l_draw)) (g_l_draw : ∀ xs G r G', m_l_draw xs G = some (r, G') → (mD TB gb.dr gg gc cells).gr G G') (cdv : Value) (A' : Around) (outer : List Env) (s : Shared) (H F0 : Hp) (E : XK) (hr : Room 2 (A'.deeper (envOfC "_law_pick" (defScope s_l_pick) s.heap.objs.size A.l_pick cdv))) :
    PSs (cxOf (L2.CX P w) P w K mg base N_l_pick "_law_pick" (defScope s_l_pick) A.l_pick cdv A' outer s H E) (defBody s_l_pick) (tS K ⟨gb, mD TB gb.dr gg gc cells, F0, H, E⟩ (a_l_pick A m_l_draw)) := by
  have SC := sc_l_pick
  have OW : PassesOwn (model P w) (cxOf (L2.CX P w) P w K mg base N_l_pick "_law_pick" (defScope s_l_pick) A.l_pick cdv A' outer s H E).A (cxOf (L2.CX P w) P w K mg base N_l_pick "_law_pick" (defScope s_l_pick) A.l_pick cdv A' outer s H E).env (cxOf (L2.CX P w) P w K mg base N_l_pick "_law_pick" (defScope s_l_pick) A.l_pick cdv A' outer s H E).xe := passes_of rfl
  have TK : Takes (cxOf (L2.CX P w) P w K mg base N_l_pick "_law_pick" (defScope s_l_pick) A.l_pick cdv A' outer s H E) (fun cls d _ H => E cls d H) := takes_of rfl rfl rfl rfl
  have PX := passT TK
  have DF := mD_dr (gb := gb) (T := TB) (cells := cells) (F0 := F0) (H0 := H) (E := E) n1 n2 n3
  exact (ds_one (ds_ret (de_at (de_var 1) (de_call c_l_draw (hr.mono (by decide)) T.m_l_draw T.F_l_draw.kp T.B_l_draw PX (leD _ _ _ _ _) g_l_draw (da_cons (de_var 0) (da_cons (de_callB call_len of_len (by rfl) T.b_len (by decide +kernel) (da_cons (de_var 1) da_nil)) da_nil))))))
abbrev N_l_is_truth : List Str := ["found", "due"]
theorem sc_l_is_truth : FnScope N_l_is_truth ["found", "due"] (defScope s_l_is_truth) := ⟨rfl, rfl, rfl, by decide +kernel, rfl, by decide +kernel, by decide +kernel⟩
def a_l_is_truth (A : AD) : TSa :=
    (aRet (cIf (cTest (cVar 1)) (cBin fIs (cVar 0) (cK (.bool true))) (cBin fIs (cVar 0) (cK (.bool false)))))
theorem b_l_is_truth (T : TX K mg gb A D) (cdv : Value) (A' : Around) (outer : List Env) (s : Shared) (H F0 : Hp) (E : XK) (hr : Room 0 (A'.deeper (envOfC "_law_is_truth" (defScope s_l_is_truth) s.heap.objs.size A.l_is_truth cdv))) :
    PSs (cxOf (L2.CX P w) P w K mg base N_l_is_truth "_law_is_truth" (defScope s_l_is_truth) A.l_is_truth cdv A' outer s H E) (defBody s_l_is_truth) (tS K ⟨gb, m0 TB, F0, H, E⟩ (a_l_is_truth A)) := by
  have SC := sc_l_is_truth
  have OW : PassesOwn (model P w) (cxOf (L2.CX P w) P w K mg base N_l_is_truth "_law_is_truth" (defScope s_l_is_truth) A.l_is_truth cdv A' outer s H E).A (cxOf (L2.CX P w) P w K mg base N_l_is_truth "_law_is_truth" (defScope s_l_is_truth) A.l_is_truth cdv A' outer s H E).env (cxOf (L2.CX P w) P w K mg base N_l_is_truth "_law_is_truth" (defScope s_l_is_truth) A.l_is_truth cdv A' outer s H E).xe := passes_of rfl
  have TK : Takes (cxOf (L2.CX P w) P w K mg base N_l_is_truth "_law_is_truth" (defScope s_l_is_truth) A.l_is_truth cdv A' outer s H E) (fun cls d _ H => E cls d H) := takes_of rfl rfl rfl rfl
  have PX := passT TK
  exact (ds_one (ds_ret (de_if (dt_val (de_var 1)) (de_cmp ox_is of_is (de_var 0) de_bl (nomark _)) (de_cmp ox_is of_is (de_var 0) de_bl (nomark _)))))
abbrev N_l_same : List Str := ["found", "due", "waiting", "one", "other", "alike", "key", "left", "right"]
theorem sc_l_same : FnScope N_l_same ["found", "due"] (defScope s_l_same) := ⟨rfl, rfl, rfl, by decide +kernel, rfl, by decide +kernel, by decide +kernel⟩
def a_l_same (A : AD) (m_l_is_truth : List DV → M DV) : TSa :=
    (aSeq (aSet 2 (cApp fOwn (cCons (cApp fTup (cCons (cVar 0) (cCons (cVar 1) cNil))) cNil)))
    (aSeq (aWh (cTest (cBin fNe (cVar 2) (cApp fLst cNil))) ((aSeq (aPopTo 2 (gTp 2 (gsCons (gN 3) (gsCons (gN 4) gsNil))))
    (aIf (cOrT (cTest (cBin fIs (cVar 4) (cK .none))) (cTest (cUn (isiOf "bool") (cVar 4)))) ((aIf (cIfT (cTest (cBin fIs (cVar 4) (cK .none))) (cTest (cBin fIsnt (cVar 3) (cK .none))) (cNotT (cTest (cCall m_l_is_truth (cCons (cVar 3) (cCons (cVar 4) cNil)))))) ((aRet (cK (.bool false)))) (aNext))) ((aIf (cTest (cUn (isiOf2 "int" "str") (cVar 4))) ((aIf (cOrT (cTest (cUn (isiOf "bool") (cVar 3))) (cOrT (cTest (cBin fNe (cUn (isiOf "int") (cVar 3)) (cUn (isiOf "int") (cVar 4)))) (cTest (cBin fNe (cVar 3) (cVar 4))))) ((aRet (cK (.bool false)))) (aNext))) ((aIf (cTest (cUn (isiOf "dict") (cVar 4))) (aNever) ((aSeq (aSet 5 (cNv (cApp fLst (cCons (cAnd (cUn (isiOf "tuple") (cVar 3)) (cUn (isiOf "tuple") (cVar 4))) (cCons (cAnd (cUn (isiOf "list") (cVar 3)) (cUn (isiOf "list") (cVar 4))) cNil)))))
    (aSeq (aIf (cOrT (cTest (cBin fNotIn (cK (.bool true)) (cVar 5))) (cTest (cBin fNe (cApp fLen (cCons (cVar 3) cNil)) (cApp fLen (cCons (cVar 4) cNil))))) ((aRet (cK (.bool false)))) (aNext))
    (aExtend 2 (cLc (cItr fZip (cCons (cVar 3) (cCons (cVar 4) cNil))) (gTp 2 (gsCons (gN 7) (gsCons (gN 8) gsNil))) tYesC (cApp fTup (cCons (cVar 7) (cCons (cVar 8) cNil))) [7, 8])))))))))))))
    (aRet (cK (.bool true)))))
theorem b_l_same (T : TX K mg gb A D) {m_l_is_truth : List DV → M DV} (c_l_is_truth : FnOk P w K mg base (L2.CX P w) 1 A.l_is_truth D.l_is_truth ["found", "due"] (spF K gb (m0 TB) m_l_is_truth)) (g_l_is_truth : ∀ xs G r G', m_l_is_truth xs G = some (r, G') → (m0 TB).gr G G') (cdv : Value) (A' : Around) (outer : List Env) (s : Shared) (H F0 : Hp) (E : XK) (hr : Room 1 (A'.deeper (envOfC "_law_same" (defScope s_l_same) s.heap.objs.size A.l_same cdv))) :
    PSs (cxOf (L2.CX P w) P w K mg base N_l_same "_law_same" (defScope s_l_same) A.l_same cdv A' outer s H E) (defBody s_l_same) (tS K ⟨gb, m0 TB, F0, H, E⟩ (a_l_same A m_l_is_truth)) := by
  have SC := sc_l_same
  have OW : PassesOwn (model P w) (cxOf (L2.CX P w) P w K mg base N_l_same "_law_same" (defScope s_l_same) A.l_same cdv A' outer s H E).A (cxOf (L2.CX P w) P w K mg base N_l_same "_law_same" (defScope s_l_same) A.l_same cdv A' outer s H E).env (cxOf (L2.CX P w) P w K mg base N_l_same "_law_same" (defScope s_l_same) A.l_same cdv A' outer s H E).xe := passes_of rfl
  have TK : Takes (cxOf (L2.CX P w) P w K mg base N_l_same "_law_same" (defScope s_l_same) A.l_same cdv A' outer s H E) (fun cls d _ H => E cls d H) := takes_of rfl rfl rfl rfl
  have PX := passT TK
  exact (ds_cons (ds_set (i := 2) SC.nd (dv_lst (da_cons (de_tup (da_cons (de_var 0) (da_cons (de_var 1) da_nil))) da_nil))) (ds_cons (ds_while OW (dt_cmp (op_neD hr.units) of_ne (de_var 2) (de_lst da_nil) (nomark _)) (ds_cons (ds_popto 2 (pe_bm0 PySem.F.plainAttrs_list PySem.F.slot_list_pop PySem.F.type_list_pop mt_pop (pv 2)) (dg_tup rfl (dgs_cons (dg_name 3 SC.nd) (dgs_cons (dg_name 4 SC.nd) dgs_nil)))) (ds_one (ds_if (PW.pt (dt_or (dt_cmp ox_is of_is (de_var 4) de_non (nomark _)) (dt_or1 (dt_val (de_isi (T := "bool") (by decide +kernel) (de_var 4) T.b_isinstance T.b_bool))))) (ds_one (ds_if (dt_ifX (dt_cmp ox_is of_is (de_var 4) de_non (nomark _)) (dt_cmp ox_isnt of_isnt (de_var 3) de_non (nomark _)) (dt_not (dt_val (de_call c_l_is_truth (hr.mono (by decide)) T.m_l_is_truth T.F_l_is_truth.kp T.B_l_is_truth PX (le00 _) g_l_is_truth (da_cons (de_var 3) (da_cons (de_var 4) da_nil)))))) (ds_one (ds_ret de_bl)) ds_nil)) (ds_one (ds_if (dt_val (de_isi2 (T := "int") (U := "str") (by decide +kernel) (by decide +kernel) (de_var 4) T.b_isinstance T.b_int T.b_str)) (ds_one (ds_if (PW.pt (dt_or (dt_val (de_isi (T := "bool") (by decide +kernel) (de_var 3) T.b_isinstance T.b_bool)) (dt_or (dt_cmp (op_neD hr.units) of_ne (de_isi (T := "int") (by decide +kernel) (de_var 3) T.b_isinstance T.b_int) (de_isi (T := "int") (by decide +kernel) (de_var 4) T.b_isinstance T.b_int) (nomark _)) (dt_or1 (dt_cmp (op_neD hr.units) of_ne (de_var 3) (de_var 4) (nomark _)))))) (ds_one (ds_ret de_bl)) ds_nil)) (ds_one (ds_if (dt_val (de_isi (T := "dict") (by decide +kernel) (de_var 4) T.b_isinstance T.b_dict)) dss_never (ds_cons (ds_set (i := 5) SC.nd (dv_of (de_lst (da_cons (de_and (de_isi (T := "tuple") (by decide +kernel) (de_var 3) T.b_isinstance T.b_tuple) (de_one (de_isi (T := "tuple") (by decide +kernel) (de_var 4) T.b_isinstance T.b_tuple))) (da_cons (de_and (de_isi (T := "list") (by decide +kernel) (de_var 3) T.b_isinstance T.b_list) (de_one (de_isi (T := "list") (by decide +kernel) (de_var 4) T.b_isinstance T.b_list))) da_nil))))) (ds_cons (ds_if (PW.pt (dt_or (dt_cmp (ox_notin (R65 hr)) of_notin de_bl (de_var 5) (by rfl)) (dt_or1 (dt_cmp (op_neD hr.units) of_ne (de_callB call_len of_len (by rfl) T.b_len (by decide +kernel) (da_cons (de_var 3) da_nil)) (de_callB call_len of_len (by rfl) T.b_len (by decide +kernel) (da_cons (de_var 4) da_nil)) (nomark _))))) (ds_one (ds_ret de_bl)) ds_nil) (ds_one (have E := (dv_lc (own := [("left", 7), ("right", 8)]) rfl SC.nd (di_zip T.b_zip (da_cons (de_var 3) (da_cons (de_var 4) da_nil))) (blkOk_by (N := N_l_same) (sc := defScope s_l_same) (by decide +kernel)) (by decide) (fun _ _ _ _ _ => (dg_tup rfl (dgs_cons (dg_name 7 SC.nd) (dgs_cons (dg_name 8 SC.nd) dgs_nil)))) (fun _ _ _ _ _ => dts_nil) (fun _ _ _ _ _ => (de_tup (da_cons (de_var 7) (da_cons (de_var 8) da_nil))))); ds_extend 2 E (pe_bm PySem.F.plainAttrs_list PySem.F.slot_list_extend PySem.F.type_list_extend mt_extend (pv 2) (pa_cons E pa_nil)))))))))))))) (ds_one (ds_ret de_bl))))
abbrev N_l_words : List Str := ["draws", "many", "found", "word", "lap"]
theorem sc_l_words : FnScope N_l_words ["draws", "many"] (defScope s_l_words) := ⟨rfl, rfl, rfl, by decide +kernel, rfl, by decide +kernel, by decide +kernel⟩
def a_l_words (A : AD) (m_l_draw m_l_pick : List DV → M DV) : TSa :=
    (aSeq (aSet 2 (cNv (cApp fLst cNil)))
    (aSeq (aWh (cTest (cBin fLt (cApp fLen (cCons (cVar 2) cNil)) (cVar 1))) ((aSeq (aSet 3 (cNv (cSm fJoin (cK (.str "")) (cFz (cLc (cItr fRng1 (cCons (cBin fAdd (cK (.int 1)) (cCall m_l_draw (cCons (cVar 0) (cCons (cK (.int 8)) cNil)))) cNil)) (gN 4) tYesC (cCall m_l_pick (cCons (cVar 0) (cCons (cApp fListOf (cCons (cK (.str "abcdefghijklmnopqrstuvwxyz")) cNil)) cNil))) [4])))))
    (aSet 2 (cNv (cBin fAdd (cVar 2) (cIf (cTest (cBin fNotIn (cVar 3) (cVar 2))) (cApp fLst (cCons (cVar 3) cNil)) (cIf (cAndT (cTest (cBin fNotIn (cBin fAdd (cSl (cVar 3) cNoP (cPart (cK (.int 1)))) (cBin fMul (cK (.str "q")) (cApp fLen (cCons (cVar 2) cNil)))) (cVar 2))) (cTest (cBin fLt (cApp fLen (cCons (cVar 2) cNil)) (cK (.int 8))))) (cApp fLst (cCons (cBin fAdd (cSl (cVar 3) cNoP (cPart (cK (.int 1)))) (cBin fMul (cK (.str "q")) (cApp fLen (cCons (cVar 2) cNil)))) cNil)) (cApp fLst cNil)))))))))
    (aRet (cApp fSorted (cCons (cVar 2) cNil)))))
theorem b_l_words (T : TX K mg gb A D) (n1 : gb.dr ≠ gg) (n2 : gb.dr ≠ gc) (n3 : gg ≠ gc) {m_l_draw : List DV → M DV} (c_l_draw : FnOk P w K mg base (L2.CX P w) 2 A.l_draw D.l_draw ["state", "room"] (spF K gb (mD TB gb.dr gg gc cells) m_l_draw)) (g_l_draw : ∀ xs G r G', m_l_draw xs G = some (r, G') → (mD TB gb.dr gg gc cells).gr G G') {m_l_pick : List DV → M DV} (c_l_pick : FnOk P w K mg base (L2.CX P w) 3 A.l_pick D.l_pick ["state", "some"] (spF K gb (mD TB gb.dr gg gc cells) m_l_pick)) (g_l_pick : ∀ xs G r G', m_l_pick xs G = some (r, G') → (mD TB gb.dr gg gc cells).gr G G') (cdv : Value) (A' : Around) (outer : List Env) (s : Shared) (H F0 : Hp) (E : XK) (hr : Room 3 (A'.deeper (envOfC "_law_words" (defScope s_l_words) s.heap.objs.size A.l_words cdv))) :
    PSs (cxOf (L2.CX P w) P w K mg base N_l_words "_law_words" (defScope s_l_words) A.l_words cdv A' outer s H E) (defBody s_l_words) (tS K ⟨gb, mD TB gb.dr gg gc cells, F0, H, E⟩ (a_l_words A m_l_draw m_l_pick)) := by
  have SC := sc_l_words
  have OW : PassesOwn (model P w) (cxOf (L2.CX P w) P w K mg base N_l_words "_law_words" (defScope s_l_words) A.l_words cdv A' outer s H E).A (cxOf (L2.CX P w) P w K mg base N_l_words "_law_words" (defScope s_l_words) A.l_words cdv A' outer s H E).env (cxOf (L2.CX P w) P w K mg base N_l_words "_law_words" (defScope s_l_words) A.l_words cdv A' outer s H E).xe := passes_of rfl
  have TK : Takes (cxOf (L2.CX P w) P w K mg base N_l_words "_law_words" (defScope s_l_words) A.l_words cdv A' outer s H E) (fun cls d _ H => E cls d H) := takes_of rfl rfl rfl rfl
  have PX := passT TK
  have DF := mD_dr (gb := gb) (T := TB) (cells := cells) (F0 := F0) (H0 := H) (E := E) n1 n2 n3
  exact (ds_cons (ds_set (i := 2) SC.nd (dv_of (de_lst da_nil))) (ds_cons (ds_while OW (dt_cmp ox_lt of_lt (de_callB call_len of_len (by rfl) T.b_len (by decide +kernel) (da_cons (de_var 2) da_nil)) (de_var 1) (nomark _)) (ds_cons (ds_set (i := 3) SC.nd (dv_of (de_join (de_str) (de_fz (dv_lc (own := [("lap", 4)]) rfl SC.nd (di_fh (di_rng1 T.b_range (da_cons (de_add de_int (de_call c_l_draw (hr.mono (by decide)) T.m_l_draw T.F_l_draw.kp T.B_l_draw PX (leD _ _ _ _ _) g_l_draw (da_cons (de_var 0) (da_cons de_int da_nil)))) da_nil))) (blkOk_by (N := N_l_words) (sc := defScope s_l_words) (by decide +kernel)) (by decide) (fun _ _ _ _ _ => (dg_name 4 SC.nd)) (fun _ _ _ _ _ => dts_nil) (fun _ _ _ _ _ => (de_call c_l_pick (hr.mono (by decide)) T.m_l_pick T.F_l_pick.kp T.B_l_pick passL (leD _ _ _ _ _) g_l_pick (da_cons (de_var 0) (da_cons (de_callT (call_listX rfl) of_list (by rfl) T.b_list (by decide +kernel) (da_cons (de_str) da_nil)) da_nil))))))))) (ds_one (ds_set (i := 2) SC.nd (dv_of (de_add (de_var 2) (de_if (dt_cmp (ox_notin (R65 hr)) of_notin (de_var 3) (de_var 2) (by rfl)) (de_lst (da_cons (de_var 3) da_nil)) (de_if (PW.pt (dt_and (dt_cmp (ox_notin (R65 hr)) of_notin (de_add (de_slice (de_var 3) do_none (do_some de_int)) (de_mul (de_str) (de_callB call_len of_len (by rfl) T.b_len (by decide +kernel) (da_cons (de_var 2) da_nil)))) (de_var 2) (by rfl)) (dt_and1 (dt_cmp ox_lt of_lt (de_callB call_len of_len (by rfl) T.b_len (by decide +kernel) (da_cons (de_var 2) da_nil)) de_int (nomark _))))) (de_lst (da_cons (de_add (de_slice (de_var 3) do_none (do_some de_int)) (de_mul (de_str) (de_callB call_len of_len (by rfl) T.b_len (by decide +kernel) (da_cons (de_var 2) da_nil)))) da_nil)) (de_lst da_nil))))))))) (ds_one (ds_ret (de_callB (ox_sorted hr.units) of_sorted (by rfl) T.b_sorted (by decide +kernel) (da_cons (de_var 2) da_nil))))))
abbrev N_l_is_word : List Str := ["value", "letter"]
theorem sc_l_is_word : FnScope N_l_is_word ["value"] (defScope s_l_is_word) := ⟨rfl, rfl, rfl, by decide +kernel, rfl, by decide +kernel, by decide +kernel⟩
def a_l_is_word (A : AD) : TSa :=
    (aSeq (aIf (cOrT (cNotT (cTest (cUn (isiOf "str") (cVar 0)))) (cNotT (cTest (cChain fLe fLe (cK (.int 1)) (cApp fLen (cCons (cVar 0) cNil)) (cK (.int 8)))))) ((aRet (cK (.bool false)))) (aNext))
    (aRet (cBin fEq (cFz (cLc (cSeqH (cVar 0)) (gN 1) (cTest (cBin fNotIn (cVar 1) (cK (.str "abcdefghijklmnopqrstuvwxyz")))) (cVar 1) [1])) (cApp fLst cNil))))
theorem b_l_is_word (T : TX K mg gb A D) (cdv : Value) (A' : Around) (outer : List Env) (s : Shared) (H F0 : Hp) (E : XK) (hr : Room 0 (A'.deeper (envOfC "_law_is_word" (defScope s_l_is_word) s.heap.objs.size A.l_is_word cdv))) :
    PSs (cxOf (L2.CX P w) P w K mg base N_l_is_word "_law_is_word" (defScope s_l_is_word) A.l_is_word cdv A' outer s H E) (defBody s_l_is_word) (tS K ⟨gb, m0 TB, F0, H, E⟩ (a_l_is_word A)) := by
  have SC := sc_l_is_word
  have OW : PassesOwn (model P w) (cxOf (L2.CX P w) P w K mg base N_l_is_word "_law_is_word" (defScope s_l_is_word) A.l_is_word cdv A' outer s H E).A (cxOf (L2.CX P w) P w K mg base N_l_is_word "_law_is_word" (defScope s_l_is_word) A.l_is_word cdv A' outer s H E).env (cxOf (L2.CX P w) P w K mg base N_l_is_word "_law_is_word" (defScope s_l_is_word) A.l_is_word cdv A' outer s H E).xe := passes_of rfl
  have TK : Takes (cxOf (L2.CX P w) P w K mg base N_l_is_word "_law_is_word" (defScope s_l_is_word) A.l_is_word cdv A' outer s H E) (fun cls d _ H => E cls d H) := takes_of rfl rfl rfl rfl
  have PX := passT TK
  exact (ds_cons (ds_if (PW.pt (dt_or (dt_not (dt_val (de_isi (T := "str") (by decide +kernel) (de_var 0) T.b_isinstance T.b_str))) (dt_or1 (dt_not (dt_chain op_le op_le of_le of_le de_int (de_callB call_len of_len (by rfl) T.b_len (by decide +kernel) (da_cons (de_var 0) da_nil)) de_int))))) (ds_one (ds_ret de_bl)) ds_nil) (ds_one (ds_ret (de_cmp (op_eqD hr.units) of_eq (de_fz (dv_lc (own := [("letter", 1)]) rfl SC.nd (di_seqH (de_var 0)) (blkOk_by (N := N_l_is_word) (sc := defScope s_l_is_word) (by decide +kernel)) (by decide) (fun _ _ _ _ _ => (dg_name 1 SC.nd)) (fun _ _ _ _ _ => dts_one (dt_cmp (ox_notin (R65 hr)) of_notin (de_var 1) (de_str) (by rfl))) (fun _ _ _ _ _ => (de_var 1)))) (de_lst da_nil) (nomark _)))))
abbrev N_l_tg_pairs : List Str := ["words", "found", "at", "one", "other"]
theorem sc_l_tg_pairs : FnScope N_l_tg_pairs ["words"] (defScope s_l_tg_pairs) := ⟨rfl, rfl, rfl, by decide +kernel, rfl, by decide +kernel, by decide +kernel⟩
def a_l_tg_pairs (A : AD) : TSa :=
    (aSeq (aSet 1 cOwn0)
    (aSeq (aFor (cItr fEnumF (cCons (cVar 0) cNil)) (gTp 2 (gsCons (gN 2) (gsCons (gN 3) gsNil))) ((aExtend 1 (cLc (cSeqH (cSl (cVar 0) (cPart (cBin fAdd (cVar 2) (cK (.int 1)))) cNoP)) (gN 4) tYesC (cApp fTup (cCons (cVar 3) (cCons (cVar 4) cNil))) [4]))))
    (aRet (cVar 1))))
theorem b_l_tg_pairs (T : TX K mg gb A D) (cdv : Value) (A' : Around) (outer : List Env) (s : Shared) (H F0 : Hp) (E : XK) (hr : Room 0 (A'.deeper (envOfC "_law_tg_pairs" (defScope s_l_tg_pairs) s.heap.objs.size A.l_tg_pairs cdv))) :
    PSs (cxOf (L2.CX P w) P w K mg base N_l_tg_pairs "_law_tg_pairs" (defScope s_l_tg_pairs) A.l_tg_pairs cdv A' outer s H E) (defBody s_l_tg_pairs) (tS K ⟨gb, m0 TB, F0, H, E⟩ (a_l_tg_pairs A)) := by
  have SC := sc_l_tg_pairs
  have OW : PassesOwn (model P w) (cxOf (L2.CX P w) P w K mg base N_l_tg_pairs "_law_tg_pairs" (defScope s_l_tg_pairs) A.l_tg_pairs cdv A' outer s H E).A (cxOf (L2.CX P w) P w K mg base N_l_tg_pairs "_law_tg_pairs" (defScope s_l_tg_pairs) A.l_tg_pairs cdv A' outer s H E).env (cxOf (L2.CX P w) P w K mg base N_l_tg_pairs "_law_tg_pairs" (defScope s_l_tg_pairs) A.l_tg_pairs cdv A' outer s H E).xe := passes_of rfl
  have TK : Takes (cxOf (L2.CX P w) P w K mg base N_l_tg_pairs "_law_tg_pairs" (defScope s_l_tg_pairs) A.l_tg_pairs cdv A' outer s H E) (fun cls d _ H => E cls d H) := takes_of rfl rfl rfl rfl
  have PX := passT TK
  exact (ds_cons (ds_set (i := 1) SC.nd dv_nil) (ds_cons (ds_for OW rfl (di_enumF T.b_enumerate (da_cons (de_var 0) da_nil)) (dg_tup rfl (dgs_cons (dg_name 2 SC.nd) (dgs_cons (dg_name 3 SC.nd) dgs_nil))) (ds_one (have E := (dv_lc (own := [("other", 4)]) rfl SC.nd (di_seqH (de_slice (de_var 0) (do_some (de_add (de_var 2) de_int)) do_none)) (blkOk_by (N := N_l_tg_pairs) (sc := defScope s_l_tg_pairs) (by decide +kernel)) (by decide) (fun _ _ _ _ _ => (dg_name 4 SC.nd)) (fun _ _ _ _ _ => dts_nil) (fun _ _ _ _ _ => (de_tup (da_cons (de_var 3) (da_cons (de_var 4) da_nil))))); ds_extend 1 E (pe_bm PySem.F.plainAttrs_list PySem.F.slot_list_extend PySem.F.type_list_extend mt_extend (pv 1) (pa_cons E pa_nil))))) (ds_one (ds_ret (de_var 1)))))
abbrev N_l_tg_margins : List Str := ["words", "voters", "found", "one", "other", "voter"]
theorem sc_l_tg_margins : FnScope N_l_tg_margins ["words", "voters"] (defScope s_l_tg_margins) := ⟨rfl, rfl, rfl, by decide +kernel, rfl, by decide +kernel, by decide +kernel⟩
def a_l_tg_margins (A : AD) (m_l_tg_pairs : List DV → M DV) : TSa :=
    (aSeq (aSet 2 cOwn0)
    (aSeq (aFor (cSeq (cCall m_l_tg_pairs (cCons (cVar 0) cNil))) (gTp 2 (gsCons (gN 3) (gsCons (gN 4) gsNil))) ((aAppend 2 (cApp fSum (cCons (cFz (cLc (cSeqH (cVar 1)) (gN 5) tYesC (cIf (cTest (cBin fLt (cTm fTIdx (cVar 5) (cVar 3)) (cTm fTIdx (cVar 5) (cVar 4)))) (cK (.int 1)) (cUn fNeg (cK (.int 1)))) [5])) cNil)))))
    (aRet (cApp fTupOf (cCons (cVar 2) cNil)))))
theorem b_l_tg_margins (T : TX K mg gb A D) {m_l_tg_pairs : List DV → M DV} (c_l_tg_pairs : FnOk P w K mg base (L2.CX P w) 1 A.l_tg_pairs D.l_tg_pairs ["words"] (spF K gb (m0 TB) m_l_tg_pairs)) (g_l_tg_pairs : ∀ xs G r G', m_l_tg_pairs xs G = some (r, G') → (m0 TB).gr G G') (cdv : Value) (A' : Around) (outer : List Env) (s : Shared) (H F0 : Hp) (E : XK) (hr : Room 1 (A'.deeper (envOfC "_law_tg_margins" (defScope s_l_tg_margins) s.heap.objs.size A.l_tg_margins cdv))) :
    PSs (cxOf (L2.CX P w) P w K mg base N_l_tg_margins "_law_tg_margins" (defScope s_l_tg_margins) A.l_tg_margins cdv A' outer s H E) (defBody s_l_tg_margins) (tS K ⟨gb, m0 TB, F0, H, E⟩ (a_l_tg_margins A m_l_tg_pairs)) := by
  have SC := sc_l_tg_margins
  have OW : PassesOwn (model P w) (cxOf (L2.CX P w) P w K mg base N_l_tg_margins "_law_tg_margins" (defScope s_l_tg_margins) A.l_tg_margins cdv A' outer s H E).A (cxOf (L2.CX P w) P w K mg base N_l_tg_margins "_law_tg_margins" (defScope s_l_tg_margins) A.l_tg_margins cdv A' outer s H E).env (cxOf (L2.CX P w) P w K mg base N_l_tg_margins "_law_tg_margins" (defScope s_l_tg_margins) A.l_tg_margins cdv A' outer s H E).xe := passes_of rfl
  have TK : Takes (cxOf (L2.CX P w) P w K mg base N_l_tg_margins "_law_tg_margins" (defScope s_l_tg_margins) A.l_tg_margins cdv A' outer s H E) (fun cls d _ H => E cls d H) := takes_of rfl rfl rfl rfl
  have PX := passT TK
  exact (ds_cons (ds_set (i := 2) SC.nd dv_nil) (ds_cons (ds_for OW rfl (di_seq (de_call c_l_tg_pairs (hr.mono (by decide)) T.m_l_tg_pairs T.F_l_tg_pairs.kp T.B_l_tg_pairs PX (le00 _) g_l_tg_pairs (da_cons (de_var 0) da_nil))) (dg_tup rfl (dgs_cons (dg_name 3 SC.nd) (dgs_cons (dg_name 4 SC.nd) dgs_nil))) (ds_one (have E := (de_callB (cr_sum rfl) of_sum (by rfl) T.b_sum (by decide +kernel) (da_cons (de_fz (dv_lc (own := [("voter", 5)]) rfl SC.nd (di_seqH (de_var 1)) (blkOk_by (N := N_l_tg_margins) (sc := defScope s_l_tg_margins) (by decide +kernel)) (by decide) (fun _ _ _ _ _ => (dg_name 5 SC.nd)) (fun _ _ _ _ _ => dts_nil) (fun _ _ _ _ _ => (de_if (dt_cmp ox_lt of_lt (de_tidx (de_var 5) (de_var 3)) (de_tidx (de_var 5) (de_var 4)) (nomark _)) de_int (de_neg de_int))))) da_nil)); ds_append 2 E (hm := (pe_bm PySem.F.plainAttrs_list PySem.F.slot_list_append PySem.F.type_list_append mt_append (pv 2) (pa_cons E pa_nil)))))) (ds_one (ds_ret (de_callT call_tupF of_tuple (by rfl) T.b_tuple (by decide +kernel) (da_cons (de_var 2) da_nil))))))
abbrev N_l_tg_are_voters : List Str := ["value", "voter", "word"]
theorem sc_l_tg_are_voters : FnScope N_l_tg_are_voters ["value"] (defScope s_l_tg_are_voters) := ⟨rfl, rfl, rfl, by decide +kernel, rfl, by decide +kernel, by decide +kernel⟩
def a_l_tg_are_voters (A : AD) (m_l_is_word : List DV → M DV) : TSa :=
    (aSeq (aIf (cOrT (cNotT (cTest (cUn (isiOf "tuple") (cVar 0)))) (cNotT (cTest (cChain fLe fLe (cK (.int 1)) (cApp fLen (cCons (cVar 0) cNil)) (cK (.int 300)))))) ((aRet (cK (.bool false)))) (aNext))
    (aSeq (aFor (cSeq (cVar 0)) (gN 1) ((aSeq (aIf (cOrT (cNotT (cTest (cUn (isiOf "tuple") (cVar 1)))) (cOrT (cTest (cBin fNe (cFz (cLc (cSeqH (cVar 1)) (gN 2) (cNotT (cTest (cCall m_l_is_word (cCons (cVar 2) cNil)))) (cK (.int 1)) [2])) (cApp fLst cNil))) (cTest (cBin fNe (cUn fLenSet (cVar 1)) (cApp fLen (cCons (cVar 1) cNil)))))) ((aRet (cK (.bool false)))) (aNext))
    (aIf (cTest (cBin fNe (cApp fSorted (cCons (cVar 1) cNil)) (cApp fSorted (cCons (cBin fIx (cVar 0) (cK (.int 0))) cNil)))) ((aRet (cK (.bool false)))) (aNext)))))
    (aRet (cChain fLe fLe (cK (.int 2)) (cApp fLen (cCons (cBin fIx (cVar 0) (cK (.int 0))) cNil)) (cK (.int 5))))))
theorem b_l_tg_are_voters (T : TX K mg gb A D) {m_l_is_word : List DV → M DV} (c_l_is_word : FnOk P w K mg base (L2.CX P w) 1 A.l_is_word D.l_is_word ["value"] (spF K gb (m0 TB) m_l_is_word)) (g_l_is_word : ∀ xs G r G', m_l_is_word xs G = some (r, G') → (m0 TB).gr G G') (cdv : Value) (A' : Around) (outer : List Env) (s : Shared) (H F0 : Hp) (E : XK) (hr : Room 1 (A'.deeper (envOfC "_law_tg_are_voters" (defScope s_l_tg_are_voters) s.heap.objs.size A.l_tg_are_voters cdv))) :
    PSs (cxOf (L2.CX P w) P w K mg base N_l_tg_are_voters "_law_tg_are_voters" (defScope s_l_tg_are_voters) A.l_tg_are_voters cdv A' outer s H E) (defBody s_l_tg_are_voters) (tS K ⟨gb, m0 TB, F0, H, E⟩ (a_l_tg_are_voters A m_l_is_word)) := by
  have SC := sc_l_tg_are_voters
  have OW : PassesOwn (model P w) (cxOf (L2.CX P w) P w K mg base N_l_tg_are_voters "_law_tg_are_voters" (defScope s_l_tg_are_voters) A.l_tg_are_voters cdv A' outer s H E).A (cxOf (L2.CX P w) P w K mg base N_l_tg_are_voters "_law_tg_are_voters" (defScope s_l_tg_are_voters) A.l_tg_are_voters cdv A' outer s H E).env (cxOf (L2.CX P w) P w K mg base N_l_tg_are_voters "_law_tg_are_voters" (defScope s_l_tg_are_voters) A.l_tg_are_voters cdv A' outer s H E).xe := passes_of rfl
  have TK : Takes (cxOf (L2.CX P w) P w K mg base N_l_tg_are_voters "_law_tg_are_voters" (defScope s_l_tg_are_voters) A.l_tg_are_voters cdv A' outer s H E) (fun cls d _ H => E cls d H) := takes_of rfl rfl rfl rfl
  have PX := passT TK
  exact (ds_cons (ds_if (PW.pt (dt_or (dt_not (dt_val (de_isi (T := "tuple") (by decide +kernel) (de_var 0) T.b_isinstance T.b_tuple))) (dt_or1 (dt_not (dt_chain op_le op_le of_le of_le de_int (de_callB call_len of_len (by rfl) T.b_len (by decide +kernel) (da_cons (de_var 0) da_nil)) de_int))))) (ds_one (ds_ret de_bl)) ds_nil) (ds_cons (ds_for OW rfl (di_seq (de_var 0)) (dg_name 1 SC.nd) (ds_cons (ds_if (PW.pt (dt_or (dt_not (dt_val (de_isi (T := "tuple") (by decide +kernel) (de_var 1) T.b_isinstance T.b_tuple))) (dt_or (dt_cmp (op_neD hr.units) of_ne (de_fz (dv_lc (own := [("word", 2)]) rfl SC.nd (di_seqH (de_var 1)) (blkOk_by (N := N_l_tg_are_voters) (sc := defScope s_l_tg_are_voters) (by decide +kernel)) (by decide) (fun _ _ _ _ _ => (dg_name 2 SC.nd)) (fun _ _ _ _ _ => dts_one (dt_not (dt_val (de_call c_l_is_word (hr.mono (by decide)) T.m_l_is_word T.F_l_is_word.kp T.B_l_is_word passL (le00 _) g_l_is_word (da_cons (de_var 2) da_nil))))) (fun _ _ _ _ _ => de_int))) (de_lst da_nil) (nomark _)) (dt_or1 (dt_cmp (op_neD hr.units) of_ne (de_lenSet rfl T.b_len T.b_set (de_var 1)) (de_callB call_len of_len (by rfl) T.b_len (by decide +kernel) (da_cons (de_var 1) da_nil)) (nomark _)))))) (ds_one (ds_ret de_bl)) ds_nil) (ds_one (ds_if (dt_cmp (op_neD hr.units) of_ne (de_callB (ox_sorted hr.units) of_sorted (by rfl) T.b_sorted (by decide +kernel) (da_cons (de_var 1) da_nil)) (de_callB (ox_sorted hr.units) of_sorted (by rfl) T.b_sorted (by decide +kernel) (da_cons (de_at (de_var 0) de_int) da_nil)) (nomark _)) (ds_one (ds_ret de_bl)) ds_nil)))) (ds_one (ds_ret (de_chain op_le op_le of_le of_le de_int (de_callB call_len of_len (by rfl) T.b_len (by decide +kernel) (da_cons (de_at (de_var 0) de_int) da_nil)) de_int)))))
abbrev N_l_k66_kind : List Str := ["error", "told", "at", "here"]
theorem sc_l_k66_kind : FnScope N_l_k66_kind ["error"] (defScope s_l_k66_kind) := ⟨rfl, rfl, rfl, by decide +kernel, rfl, by decide +kernel, by decide +kernel⟩
def a_l_k66_kind (A : AD) : TSa :=
    (aSeq (aSet 1 (cNv (cApp fLst (cCons (cUn (fIsE errs is_BadDuels) (cVar 0)) (cCons (cUn (fIsE errs is_BadOdd) (cVar 0)) (cCons (cUn (fIsE errs is_BadMargins) (cVar 0)) cNil))))))
    (aRet (cFz (cLc (cItr fEnum (cCons (cVar 1) cNil)) (gTp 2 (gsCons (gN 2) (gsCons (gN 3) gsNil))) (cTest (cVar 3)) (cVar 2) [2, 3]))))
theorem b_l_k66_kind (T : TX K mg gb A D) (cdv : Value) (A' : Around) (outer : List Env) (s : Shared) (H F0 : Hp) (E : XK) (hr : Room 0 (A'.deeper (envOfC "_law_k66_kind" (defScope s_l_k66_kind) s.heap.objs.size A.l_k66_kind cdv))) :
    PSs (cxOf (L2.CX P w) P w K mg base N_l_k66_kind "_law_k66_kind" (defScope s_l_k66_kind) A.l_k66_kind cdv A' outer s H E) (defBody s_l_k66_kind) (tS K ⟨gb, m0 TB, F0, H, E⟩ (a_l_k66_kind A)) := by
  have SC := sc_l_k66_kind
  have OW : PassesOwn (model P w) (cxOf (L2.CX P w) P w K mg base N_l_k66_kind "_law_k66_kind" (defScope s_l_k66_kind) A.l_k66_kind cdv A' outer s H E).A (cxOf (L2.CX P w) P w K mg base N_l_k66_kind "_law_k66_kind" (defScope s_l_k66_kind) A.l_k66_kind cdv A' outer s H E).env (cxOf (L2.CX P w) P w K mg base N_l_k66_kind "_law_k66_kind" (defScope s_l_k66_kind) A.l_k66_kind cdv A' outer s H E).xe := passes_of rfl
  have TK : Takes (cxOf (L2.CX P w) P w K mg base N_l_k66_kind "_law_k66_kind" (defScope s_l_k66_kind) A.l_k66_kind cdv A' outer s H E) (fun cls d _ H => E cls d H) := takes_of rfl rfl rfl rfl
  have PX := passT TK
  exact (ds_cons (ds_set (i := 1) SC.nd (dv_of (de_lst (da_cons (de_isE T.EE T.i_BadDuels (de_var 0) T.b_isinstance T.m_BadDuels) (da_cons (de_isE T.EE T.i_BadOdd (de_var 0) T.b_isinstance T.m_BadOdd) (da_cons (de_isE T.EE T.i_BadMargins (de_var 0) T.b_isinstance T.m_BadMargins) da_nil)))))) (ds_one (ds_ret (de_fz (dv_lc (own := [("at", 2), ("here", 3)]) rfl SC.nd (di_enum T.b_enumerate (da_cons (de_var 1) da_nil)) (blkOk_by (N := N_l_k66_kind) (sc := defScope s_l_k66_kind) (by decide +kernel)) (by decide) (fun _ _ _ _ _ => (dg_tup rfl (dgs_cons (dg_name 2 SC.nd) (dgs_cons (dg_name 3 SC.nd) dgs_nil)))) (fun _ _ _ _ _ => dts_one (dt_val (de_var 3))) (fun _ _ _ _ _ => (de_var 2)))))))
abbrev N_law : List Str := ["script", "draws", "turn", "words", "pool", "signs", "told", "odd", "found", "numbers", "some", "wrong", "pair", "number"]
theorem sc_law : FnScope N_law ["script"] (defScope s_law) := ⟨rfl, rfl, rfl, by decide +kernel, rfl, by decide +kernel, by decide +kernel⟩
def a_law (A : AD) (m_duel_voters m_l_draw m_l_pick m_l_same m_l_words m_l_tg_pairs m_l_tg_margins m_l_tg_are_voters m_l_k66_kind : List DV → M DV) : TSa :=
    (aSeq (aFor (cItr fRng1 (cCons (cBin fAdd (cK (.int 5)) (cApp fMin2 (cCons (cApp fLen (cCons (cVar 0) cNil)) (cCons (cK (.int 6)) cNil)))) cNil)) (gN 2) ((aSeq (aSet 3 (cNv (cApp fTupOf (cCons (cCall m_l_words (cCons (cVar 1) (cCons (cBin fAdd (cK (.int 2)) (cCall m_l_draw (cCons (cVar 1) (cCons (cK (.int 4)) cNil)))) cNil))) cNil))))
    (aSeq (aSet 4 (cNv (cCall m_l_pick (cCons (cVar 1) (cCons (cApp fLst (cCons (cApp fLst (cCons (cUn fNeg (cK (.int 1))) (cCons (cK (.int 1)) cNil))) (cCons (cApp fLst (cCons (cUn fNeg (cK (.int 1))) (cCons (cK (.int 0)) (cCons (cK (.int 1)) cNil)))) (cCons (cApp fLst (cCons (cK (.int 0)) cNil)) (cCons (cApp fLst (cCons (cK (.int 1)) cNil)) cNil))))) cNil)))))
    (aSeq (aSet 5 (cNv (cApp fTupOf (cCons (cFz (cLc (cSeqH (cCall m_l_tg_pairs (cCons (cVar 3) cNil))) (gN 12) tYesC (cCall m_l_pick (cCons (cVar 1) (cCons (cVar 4) cNil))) [12])) cNil))))
    (aSeq (aSet 6 (cNv (cApp fTup (cCons (cK (.str "duels")) (cCons (cVar 3) (cCons (cVar 5) cNil))))))
    (aSeq (aFor (cSeq (cApp fLst (cCons (cK (.bool true)) (cCons (cK (.bool false)) cNil)))) (gN 7) ((aSeq (aSet 8 (cNv (cCall m_duel_voters (cCons (cVar 6) (cCons (cVar 7) cNil)))))
    (aSeq (aIf (cOrT (cNotT (cTest (cCall m_l_same (cCons (cKw m_duel_voters [1, 0] 2 (cCons (cVar 7) (cCons (cVar 6) cNil))) (cCons (cVar 8) cNil))))) (cTest (cBin fNe (cBin fIs (cVar 8) (cK .none)) (cAnd (cVar 7) (cBin fIn (cK (.int 0)) (cVar 5)))))) ((aRet (cK (.bool false)))) (aNext))
    (aIf (cTest (cBin fIsnt (cVar 8) (cK .none))) ((aSeq (aSet 9 (cNv (cIf (cAndT (cTest (cCall m_l_tg_are_voters (cCons (cVar 8) cNil))) (cTest (cBin fEq (cApp fTupOf (cCons (cApp fSorted (cCons (cBin fIx (cVar 8) (cK (.int 0))) cNil)) cNil)) (cVar 3)))) (cCall m_l_tg_margins (cCons (cVar 3) (cCons (cVar 8) cNil))) (cApp fTup cNil))))
    (aIf (cOrT (cTest (cBin fNe (cApp fTupOf (cCons (cFz (cLc (cSeqH (cVar 9)) (gN 13) tYesC (cIf (cTest (cBin fEq (cVar 13) (cK (.int 0)))) (cK (.int 0)) (cIf (cTest (cBin fGt (cVar 13) (cK (.int 0)))) (cK (.int 1)) (cUn fNeg (cK (.int 1))))) [13])) cNil)) (cVar 5))) (cAndT (cTest (cVar 7)) (cTest (cBin fNe (cBin fMod (cApp fLen (cCons (cVar 8) cNil)) (cK (.int 2))) (cK (.int 1)))))) ((aRet (cK (.bool false)))) (aNext)))) (aNext))))))
    (aSeq (aSet 10 (cNv (cApp fLst (cCons (cK .none) (cCons (cApp fTup (cCons (cK (.str "margins")) (cCons (cVar 3) (cCons (cVar 5) cNil)))) (cCons (cApp fTup (cCons (cK (.str "duels")) (cCons (cVar 3) (cCons (cBin fAdd (cVar 5) (cApp fTup (cCons (cK (.int 0)) cNil))) cNil)))) (cCons (cApp fTup (cCons (cK (.str "duels")) (cCons (cVar 3) (cCons (cBin fAdd (cApp fTup (cCons (cK (.int 2)) cNil)) (cSl (cVar 5) (cPart (cK (.int 1))) cNoP)) cNil)))) (cCons (cApp fTup (cCons (cK (.str "duels")) (cCons (cUn fBack (cVar 3)) (cCons (cVar 5) cNil)))) cNil))))))))
    (aSeq (aSet 11 (cNv (cCall m_l_pick (cCons (cVar 1) (cCons (cBin fAdd (cVar 10) (cApp fLst (cCons (cApp fTup (cCons (cK (.str "duels")) (cCons (cVar 3) (cCons (cBin fAdd (cApp fTup (cCons (cK (.bool true)) cNil)) (cSl (cVar 5) (cPart (cK (.int 1))) cNoP)) cNil)))) cNil))) cNil)))))
    (aSeq (aIf (cTest (cBin fNe (cCall m_l_k66_kind (cCons (cCaught errs (cCall m_duel_voters (cCons (cVar 11) (cCons (cK .none) cNil)))) cNil)) (cApp fLst (cCons (cK (.int 0)) cNil)))) ((aRet (cK (.bool false)))) (aNext))
    (aIf (cTest (cBin fNe (cCall m_l_k66_kind (cCons (cCaught errs (cCall m_duel_voters (cCons (cVar 6) (cCons (cCall m_l_pick (cCons (cVar 1) (cCons (cApp fLst (cCons (cK .none) (cCons (cK (.int 0)) (cCons (cK (.int 1)) (cCons (cK (.str "True")) (cCons (cApp fTup cNil) cNil)))))) cNil))) cNil)))) cNil)) (cApp fLst (cCons (cK (.int 1)) cNil)))) ((aRet (cK (.bool false)))) (aNext))))))))))))
    (aRet (cK (.bool true))))
abbrev N_l_caught : List Str := ["action", "found", "error"]
theorem sc_l_caught : FnScope N_l_caught ["action"] (defScope s_l_caught) := ⟨rfl, rfl, rfl, by decide +kernel, rfl, by decide +kernel, by decide +kernel⟩
def qLam (A : AD) (lcc : Addr) : Str := (envOfC "law" (defScope s_law) 0 A.law (.ref lcc)).qual ++ "<lambda>"
theorem b_law {lcc lP : Addr} (T : TX K mg gb A D) (n1 : gb.dr ≠ gg) (n2 : gb.dr ≠ gc) (n3 : gg ≠ gc) {m_duel_voters : List DV → M DV} (c_duel_voters : FnOk P w K mg base (L2.CX P w) 5 A.duel_voters D.duel_voters ["duels", "odd"] (spF K gb (m0 TB) m_duel_voters)) (g_duel_voters : ∀ xs G r G', m_duel_voters xs G = some (r, G') → (m0 TB).gr G G') {m_l_draw : List DV → M DV} (c_l_draw : FnOk P w K mg base (L2.CX P w) 2 A.l_draw D.l_draw ["state", "room"] (spF K gb (mD TB gb.dr gg gc cells) m_l_draw)) (g_l_draw : ∀ xs G r G', m_l_draw xs G = some (r, G') → (mD TB gb.dr gg gc cells).gr G G') {m_l_pick : List DV → M DV} (c_l_pick : FnOk P w K mg base (L2.CX P w) 3 A.l_pick D.l_pick ["state", "some"] (spF K gb (mD TB gb.dr gg gc cells) m_l_pick)) (g_l_pick : ∀ xs G r G', m_l_pick xs G = some (r, G') → (mD TB gb.dr gg gc cells).gr G G') {m_l_same : List DV → M DV} (c_l_same : FnOk P w K mg base (L2.CX P w) 2 A.l_same D.l_same ["found", "due"] (spF K gb (m0 TB) m_l_same)) (g_l_same : ∀ xs G r G', m_l_same xs G = some (r, G') → (m0 TB).gr G G') {m_l_words : List DV → M DV} (c_l_words : FnOk P w K mg base (L2.CX P w) 4 A.l_words D.l_words ["draws", "many"] (spF K gb (mD TB gb.dr gg gc cells) m_l_words)) (g_l_words : ∀ xs G r G', m_l_words xs G = some (r, G') → (mD TB gb.dr gg gc cells).gr G G') {m_l_tg_pairs : List DV → M DV} (c_l_tg_pairs : FnOk P w K mg base (L2.CX P w) 1 A.l_tg_pairs D.l_tg_pairs ["words"] (spF K gb (m0 TB) m_l_tg_pairs)) (g_l_tg_pairs : ∀ xs G r G', m_l_tg_pairs xs G = some (r, G') → (m0 TB).gr G G') {m_l_tg_margins : List DV → M DV} (c_l_tg_margins : FnOk P w K mg base (L2.CX P w) 2 A.l_tg_margins D.l_tg_margins ["words", "voters"] (spF K gb (m0 TB) m_l_tg_margins)) (g_l_tg_margins : ∀ xs G r G', m_l_tg_margins xs G = some (r, G') → (m0 TB).gr G G') {m_l_tg_are_voters : List DV → M DV} (c_l_tg_are_voters : FnOk P w K mg base (L2.CX P w) 2 A.l_tg_are_voters D.l_tg_are_voters ["value"] (spF K gb (m0 TB) m_l_tg_are_voters)) (g_l_tg_are_voters : ∀ xs G r G', m_l_tg_are_voters xs G = some (r, G') → (m0 TB).gr G G') {m_l_k66_kind : List DV → M DV} (c_l_k66_kind : FnOk P w K mg base (L2.CX P w) 1 A.l_k66_kind D.l_k66_kind ["error"] (spF K gb (m0 TB) m_l_k66_kind)) (g_l_k66_kind : ∀ xs G r G', m_l_k66_kind xs G = some (r, G') → (m0 TB).gr G G') (TBB : TabB base mg lcc lP) (hmT : (lP, qLam A lcc) ∈ TB) (huT : ∀ p ∈ TB, p.1 = lP → p.2 = qLam A lcc) (A' : Around) (outer : List Env) (s : Shared) (H F0 H0 : Hp) (E : XK) (hr : Room 7 (A'.deeper (envOfC "law" (defScope s_law) s.heap.objs.size A.law (.ref lcc)))) :
    PSs (cxOf (L2.CX P w) P w K mg base N_law "law" (defScope s_law) A.law (.ref lcc) A' outer s H E) ((defBody s_law).drop 1) (tS K ⟨gb, mD TB gb.dr gg gc cells, F0, H0, E⟩ (a_law A m_duel_voters m_l_draw m_l_pick m_l_same m_l_words m_l_tg_pairs m_l_tg_margins m_l_tg_are_voters m_l_k66_kind)) := by
  have SC := sc_law
  have OW : PassesOwn (model P w) (cxOf (L2.CX P w) P w K mg base N_law "law" (defScope s_law) A.law (.ref lcc) A' outer s H E).A (cxOf (L2.CX P w) P w K mg base N_law "law" (defScope s_law) A.law (.ref lcc) A' outer s H E).env (cxOf (L2.CX P w) P w K mg base N_law "law" (defScope s_law) A.law (.ref lcc) A' outer s H E).xe := passes_of rfl
  have TK : Takes (cxOf (L2.CX P w) P w K mg base N_law "law" (defScope s_law) A.law (.ref lcc) A' outer s H E) (fun cls d _ H => E cls d H) := takes_of rfl rfl rfl rfl
  have PX := passT TK
  have TW := mD_tab TB gb.dr gg gc cells
  obtain ⟨ocC, odC, kVC, docC, pmC, anC, cdvC, ctC, oslC, eDC, lkC, hcdC⟩ := T.F_l_caught.ex
  have hbC := T.B_l_caught
  rw [eDC] at hbC lkC
  exact (ds_cons (ds_for OW rfl (di_rng1 T.b_range (da_cons (de_add de_int (de_callB (call_min2 rfl) of_2n (by rfl) T.b_min (by decide +kernel) (da_cons (de_callB call_len of_len (by rfl) T.b_len (by decide +kernel) (da_cons (de_var 0) da_nil)) (da_cons de_int da_nil)))) da_nil)) (dg_name 2 SC.nd) (ds_cons (ds_set (i := 3) SC.nd (dv_of (de_callT call_tupF of_tuple (by rfl) T.b_tuple (by decide +kernel) (da_cons (de_call c_l_words (hr.mono (by decide)) T.m_l_words T.F_l_words.kp T.B_l_words PX (leD _ _ _ _ _) g_l_words (da_cons (de_var 1) (da_cons (de_add de_int (de_call c_l_draw (hr.mono (by decide)) T.m_l_draw T.F_l_draw.kp T.B_l_draw PX (leD _ _ _ _ _) g_l_draw (da_cons (de_var 1) (da_cons de_int da_nil)))) da_nil))) da_nil)))) (ds_cons (ds_set (i := 4) SC.nd (dv_of (de_call c_l_pick (hr.mono (by decide)) T.m_l_pick T.F_l_pick.kp T.B_l_pick PX (leD _ _ _ _ _) g_l_pick (da_cons (de_var 1) (da_cons (de_lst (da_cons (de_lst (da_cons (de_neg de_int) (da_cons de_int da_nil))) (da_cons (de_lst (da_cons (de_neg de_int) (da_cons de_int (da_cons de_int da_nil)))) (da_cons (de_lst (da_cons de_int da_nil)) (da_cons (de_lst (da_cons de_int da_nil)) da_nil))))) da_nil))))) (ds_cons (ds_set (i := 5) SC.nd (dv_of (de_callT call_tupF of_tuple (by rfl) T.b_tuple (by decide +kernel) (da_cons (de_fz (dv_lc (own := [("pair", 12)]) rfl SC.nd (di_seqH (de_call c_l_tg_pairs (hr.mono (by decide)) T.m_l_tg_pairs T.F_l_tg_pairs.kp T.B_l_tg_pairs PX (le0 _ _ _ _ _) g_l_tg_pairs (da_cons (de_var 3) da_nil))) (blkOk_by (N := N_law) (sc := defScope s_law) (by decide +kernel)) (by decide) (fun _ _ _ _ _ => (dg_name 12 SC.nd)) (fun _ _ _ _ _ => dts_nil) (fun _ _ _ _ _ => (de_call c_l_pick (hr.mono (by decide)) T.m_l_pick T.F_l_pick.kp T.B_l_pick passL (leD _ _ _ _ _) g_l_pick (da_cons (de_var 1) (da_cons (de_var 4) da_nil)))))) da_nil)))) (ds_cons (ds_set (i := 6) SC.nd (dv_of (de_tup (da_cons (de_str) (da_cons (de_var 3) (da_cons (de_var 5) da_nil)))))) (ds_cons (ds_for OW rfl (di_seq (de_lst (da_cons de_bl (da_cons de_bl da_nil)))) (dg_name 7 SC.nd) (ds_cons (ds_set (i := 8) SC.nd (dv_of (de_call c_duel_voters (hr.mono (by decide)) T.m_duel_voters T.F_duel_voters.kp T.B_duel_voters PX (le0 _ _ _ _ _) g_duel_voters (da_cons (de_var 6) (da_cons (de_var 7) da_nil))))) (ds_cons (ds_if (PW.pt (dt_or (dt_not (dt_val (de_call c_l_same (hr.mono (by decide)) T.m_l_same T.F_l_same.kp T.B_l_same PX (le0 _ _ _ _ _) g_l_same (da_cons (de_kw0 (ks := ["odd", "duels"]) (perm := [1, 0]) c_duel_voters (hr.mono (by decide)) T.m_duel_voters T.F_duel_voters.kp T.K_duel_voters PX (le0 _ _ _ _ _) g_duel_voters (dk_cons (de_var 7) (dk_cons (de_var 6) dk_nil))) (da_cons (de_var 8) da_nil))))) (dt_or1 (dt_cmp (op_neD hr.units) of_ne (de_cmp ox_is of_is (de_var 8) de_non (nomark _)) (de_and (de_var 7) (de_one (de_cmp (ox_in (R65 hr)) of_in de_int (de_var 5) (by rfl)))) (nomark _))))) (ds_one (ds_ret de_bl)) ds_nil) (ds_one (ds_if (dt_cmp ox_isnt of_isnt (de_var 8) de_non (nomark _)) (ds_cons (ds_set (i := 9) SC.nd (dv_of (de_if (PW.pt (dt_and (dt_val (de_call c_l_tg_are_voters (hr.mono (by decide)) T.m_l_tg_are_voters T.F_l_tg_are_voters.kp T.B_l_tg_are_voters PX (le0 _ _ _ _ _) g_l_tg_are_voters (da_cons (de_var 8) da_nil))) (dt_and1 (dt_cmp (op_eqD hr.units) of_eq (de_callT call_tupF of_tuple (by rfl) T.b_tuple (by decide +kernel) (da_cons (de_callB (ox_sorted hr.units) of_sorted (by rfl) T.b_sorted (by decide +kernel) (da_cons (de_at (de_var 8) de_int) da_nil)) da_nil)) (de_var 3) (nomark _))))) (de_call c_l_tg_margins (hr.mono (by decide)) T.m_l_tg_margins T.F_l_tg_margins.kp T.B_l_tg_margins PX (le0 _ _ _ _ _) g_l_tg_margins (da_cons (de_var 3) (da_cons (de_var 8) da_nil))) (de_tup da_nil)))) (ds_one (ds_if (PW.pt (dt_or (dt_cmp (op_neD hr.units) of_ne (de_callT call_tupF of_tuple (by rfl) T.b_tuple (by decide +kernel) (da_cons (de_fz (dv_lc (own := [("number", 13)]) rfl SC.nd (di_seqH (de_var 9)) (blkOk_by (N := N_law) (sc := defScope s_law) (by decide +kernel)) (by decide) (fun _ _ _ _ _ => (dg_name 13 SC.nd)) (fun _ _ _ _ _ => dts_nil) (fun _ _ _ _ _ => (de_if (dt_cmp (op_eqD hr.units) of_eq (de_var 13) de_int (nomark _)) de_int (de_if (dt_cmp op_gt of_gt (de_var 13) de_int (nomark _)) de_int (de_neg de_int)))))) da_nil)) (de_var 5) (nomark _)) (dt_or1 (PW.pt (dt_and (dt_val (de_var 7)) (dt_and1 (dt_cmp (op_neD hr.units) of_ne (de_mod (de_callB call_len of_len (by rfl) T.b_len (by decide +kernel) (da_cons (de_var 8) da_nil)) de_int) de_int (nomark _)))))))) (ds_one (ds_ret de_bl)) ds_nil))) ds_nil))))) (ds_cons (ds_set (i := 10) SC.nd (dv_of (de_lst (da_cons de_non (da_cons (de_tup (da_cons (de_str) (da_cons (de_var 3) (da_cons (de_var 5) da_nil)))) (da_cons (de_tup (da_cons (de_str) (da_cons (de_var 3) (da_cons (de_add (de_var 5) (de_tup (da_cons de_int da_nil))) da_nil)))) (da_cons (de_tup (da_cons (de_str) (da_cons (de_var 3) (da_cons (de_add (de_tup (da_cons de_int da_nil)) (de_slice (de_var 5) (do_some de_int) do_none)) da_nil)))) (da_cons (de_tup (da_cons (de_str) (da_cons (de_back (de_var 3)) (da_cons (de_var 5) da_nil)))) da_nil)))))))) (ds_cons (ds_set (i := 11) SC.nd (dv_of (de_call c_l_pick (hr.mono (by decide)) T.m_l_pick T.F_l_pick.kp T.B_l_pick PX (leD _ _ _ _ _) g_l_pick (da_cons (de_var 1) (da_cons (de_add (de_var 10) (de_lst (da_cons (de_tup (da_cons (de_str) (da_cons (de_var 3) (da_cons (de_add (de_tup (da_cons de_bl da_nil)) (de_slice (de_var 5) (do_some de_int) do_none)) da_nil)))) da_nil))) da_nil))))) (ds_cons (ds_if (dt_cmp (op_neD hr.units) of_ne (de_call c_l_k66_kind (hr.mono (by decide)) T.m_l_k66_kind T.F_l_k66_kind.kp T.B_l_k66_kind PX (le0 _ _ _ _ _) g_l_k66_kind (da_cons (de_caught (T := TB) (k := 5) T.EE T.x_S TW T.m_l_caught T.F_l_caught.kp lkC hcdC hbC sc_l_caught (by rfl) (by first | exact Or.inl rfl | exact Or.inr (Or.inl rfl)) (caught_gives sc_l_caught.nd rfl rfl rfl rfl rfl rfl rfl T.m_ShownError (by decide) (by decide) (by decide) (by decide) (by decide)) TBB rfl hmT huT (hr.mono (by decide)) (show LamS (defScope s_law) _ from lamS_by (by decide +kernel)) rfl (fun _ _ _ _ _ => rfl) (fun A2 o2 s2 H2 E2 f2 c2 hr => (have PX := passT (takes_of rfl rfl rfl rfl); (de_call c_duel_voters (hr.mono (by decide)) T.m_duel_voters T.F_duel_voters.kp T.B_duel_voters PX (le0 _ _ _ _ _) g_duel_voters (da_cons (de_var 11) (da_cons de_non da_nil)))))) da_nil)) (de_lst (da_cons de_int da_nil)) (nomark _)) (ds_one (ds_ret de_bl)) ds_nil) (ds_one (ds_if (dt_cmp (op_neD hr.units) of_ne (de_call c_l_k66_kind (hr.mono (by decide)) T.m_l_k66_kind T.F_l_k66_kind.kp T.B_l_k66_kind PX (le0 _ _ _ _ _) g_l_k66_kind (da_cons (de_caught (T := TB) (k := 5) T.EE T.x_S TW T.m_l_caught T.F_l_caught.kp lkC hcdC hbC sc_l_caught (by rfl) (by first | exact Or.inl rfl | exact Or.inr (Or.inl rfl)) (caught_gives sc_l_caught.nd rfl rfl rfl rfl rfl rfl rfl T.m_ShownError (by decide) (by decide) (by decide) (by decide) (by decide)) TBB rfl hmT huT (hr.mono (by decide)) (show LamS (defScope s_law) _ from lamS_by (by decide +kernel)) rfl (fun _ _ _ _ _ => rfl) (fun A2 o2 s2 H2 E2 f2 c2 hr => (have PX := passT (takes_of rfl rfl rfl rfl); (de_call c_duel_voters (hr.mono (by decide)) T.m_duel_voters T.F_duel_voters.kp T.B_duel_voters PX (le0 _ _ _ _ _) g_duel_voters (da_cons (de_var 6) (da_cons (de_call c_l_pick (hr.mono (by decide)) T.m_l_pick T.F_l_pick.kp T.B_l_pick PX (leD _ _ _ _ _) g_l_pick (da_cons (de_var 1) (da_cons (de_lst (da_cons de_non (da_cons de_int (da_cons de_int (da_cons (de_str) (da_cons (de_tup da_nil) da_nil)))))) da_nil))) da_nil)))))) da_nil)) (de_lst (da_cons de_int da_nil)) (nomark _)) (ds_one (ds_ret de_bl)) ds_nil))))))))))) (ds_one (ds_ret de_bl)))
abbrev N_l_begun : List Str := ["script", "great", "cell"]
theorem sc_l_begun : FnScope N_l_begun ["script"] (defScope s_l_begun) := ⟨rfl, rfl, rfl, by decide +kernel, rfl, by decide +kernel, by decide +kernel⟩
theorem ok_l_begun (T : TX K mg gb A D) : FnOk P w K mg base (L2.CX P w) 1 A.l_begun D.l_begun ["script"] (spBegun K TB) := by
  have SC := sc_l_begun
  refine T.F_l_begun.okX SC (fun vs H Q E ⟨a, ns, e, _⟩ => by rw [e]; rfl) (fun cdv A' outer s H vs Q E hr ⟨a, ns, e, hS, hl, hT, q⟩ => ?_)
  subst e
  refine ⟨tBeg K ⟨gb, m0 TB, noT H, H, E⟩, ?_, begun_read hS hl hT q⟩
  exact (pss_cons (ds_setLc (i := 1) (own := [("cell", 2)]) rfl SC.nd (by rfl) (di_fh (di_sc (de_var 0))) (blkOk_by (N := N_l_begun) (sc := defScope s_l_begun) (by decide +kernel)) (by decide) (fun _ _ _ _ _ => (dg_name 2 SC.nd)) (fun _ _ _ _ _ => dts_one (dt_cmp op_ge of_ge (de_callB call_abs of_abs (by rfl) T.b_abs (by decide +kernel) (da_cons (de_var 2) da_nil)) (de_pow de_int de_int) (nomark _))) (fun _ _ _ _ _ => (de_sub (de_callB call_abs of_abs (by rfl) T.b_abs (by decide +kernel) (da_cons (de_var 2) da_nil)) (de_pow de_int de_int)))) (pss_one (ps_ret (pe_disp (pps_cons pe_str (pv 1) (pps_cons pe_str (dv_lc (own := [("cell", 2)]) rfl SC.nd (di_fh (di_sc (de_var 0))) (blkOk_by (N := N_l_begun) (sc := defScope s_l_begun) (by decide +kernel)) (by decide) (fun _ _ _ _ _ => (dg_name 2 SC.nd)) (fun _ _ _ _ _ => dts_nil) (fun _ _ _ _ _ => (de_callB call_abs of_abs (by rfl) T.b_abs (by decide +kernel) (da_cons (de_var 2) da_nil)))) (pps_cons pe_str pe_int (pps_cons pe_str pe_int pps_nil)))) rfl rfl (by simp) (by decide)))))
end
end K66

namespace K66
open PySem PySem.Spec PyProof.Rows L2 LamX DL
abbrev ABC : Str := "abcdefghijklmnopqrstuvwxyz"
/-! ### is_word -/
/-- a word: one to eight small letters -/
def wordB (z : Str) : Bool := decide (1 ≤ (z.length : Int)) && decide ((z.length : Int) ≤ 8) && z.cps.toList.all fun c => decide (c ∈ ABC.cps.toList)
theorem signs_len (z : Str) : (DL.signs z).length = z.length := by
  unfold DL.signs
  rw [List.length_map, Array.length_toList]
  rfl
def inABC : D → D
  | .str w => .bool ((sign1 w).any fun c => decide (c ∈ ABC.cps.toList))
  | _ => .none
theorem signs_in (z : Str) : (DL.signs z).map inABC = (z.cps.toList.map fun c => decide (c ∈ ABC.cps.toList)).map .bool := by
  unfold DL.signs
  rw [List.map_map, List.map_map]
  rfl
def m_is_word (xs : List DV) : M DV := on1 xs fun x => onS x fun z => gd (z.length ≤ 100000) (mp (.d (.bool (wordB z))))
theorem is_word_is {z : Str} (h : z.length ≤ 100000) : m_is_word [.d (.str z)] = mp (.d (.bool (wordB z))) := gd_yes h
theorem spec_is_word (A : AD) (xs : List DV) (G : DG) (r : Rs DV) (G' : DG) (e : m_is_word xs G = some (r, G')) : a_is_word A (AEof r G') (xs.map some ++ List.replicate (2 - xs.length) none) G := by
  obtain ⟨x, rfl, e1⟩ := on1_inv e
  obtain ⟨z, rfl, e2⟩ := onS_inv e1
  obtain ⟨hz, e3⟩ := gd_of e2
  cases e3
  show a_is_word A _ [some (.d (.str z)), none] G
  have hc : cLc (cSeqH (cVar 0)) (gN 1) tYesC (cBin fIn (cVar 1) (cK (.str ABC))) [1] [some (.d (.str z)), none] = mp (.vl ((DL.signs z).map inABC)) := by
    refine cLc_all (ds := DL.signs z) inABC rfl (by rw [signs_len]; exact hz) fun d hd => ?_
    obtain ⟨c, hc, rfl⟩ := List.mem_map.mp hd
    exact ⟨_, rfl, rfl⟩
  refine aRet_is (x := .d (.bool (wordB z))) ?_ ⟨rfl, rfl⟩
  have e : wordB z = (true && ((decide (1 ≤ (z.length : Int)) && decide ((z.length : Int) ≤ 8)) && ((z.cps.toList.map fun c => decide (c ∈ ABC.cps.toList)).all id))) := by
    unfold wordB
    rw [Bool.true_and, List.all_map]
    rfl
  rw [e]
  refine ev_and (ev_un rfl rfl) fun _ => ev_and (ev_chain rfl (ev_app (ev_1 rfl) (fLen_s hz)) rfl fun _ => ⟨rfl, rfl⟩) fun _ => ev_app (ev_1 (ev_fz hc)) ?_
  rw [← fAll_l, ← signs_in]
  rfl
/-! ### are_things -/
def things : List Str → Bool
  | [] => true
  | [_] => true
  | a :: b :: r => decide (a.cps.toList < b.cps.toList) && things (b :: r)
def areB (zs : List Str) : Bool := !zs.isEmpty && zs.all wordB && things zs
def ltP : D → D
  | .tuple [.str a, .str b] => .bool (decide (a.cps.toList < b.cps.toList))
  | _ => .none
theorem things_eq : ∀ zs : List Str, (zipDs (zs.map .str) ((zs.map PyData.str).drop 1)).map ltP = ((List.zipWith (fun a b : Str => decide (a.cps.toList < b.cps.toList)) zs (zs.drop 1)).map .bool)
  | [] => rfl
  | [_] => rfl
  | a :: b :: r => by
    have h := things_eq (b :: r)
    unfold zipDs at h ⊢
    simp only [List.map_cons, List.drop_succ_cons, List.drop_zero, List.zipWith_cons_cons] at h ⊢
    rw [h]
    rfl
theorem things_all : ∀ zs : List Str, (List.zipWith (fun a b : Str => decide (a.cps.toList < b.cps.toList)) zs (zs.drop 1)).all id = things zs
  | [] => rfl
  | [_] => rfl
  | a :: b :: r => by
    have h := things_all (b :: r)
    simp only [List.drop_succ_cons, List.drop_zero, List.zipWith_cons_cons, List.all_cons] at h ⊢
    rw [h]
    rfl
def m_are_things (xs : List DV) : M DV := on1 xs fun x => onTS x fun zs => gd (zs.length ≤ 1000 ∧ ∀ z ∈ zs, z.length ≤ 100000) (mp (.d (.bool (areB zs))))
def isW : D → D
  | .str z => .bool (wordB z)
  | _ => .none
theorem eqv_nil (zs : List Str) : PyData.eqv (txs zs) (.tuple []) = zs.isEmpty := by
  cases zs with
  | nil => simp [PyData.eqv, PyData.eqvAll]
  | cons a r => simp [PyData.eqv, PyData.eqvAll]
theorem spec_are_things (A : AD) (xs : List DV) (G : DG) (r : Rs DV) (G' : DG) (e : m_are_things xs G = some (r, G')) : a_are_things A m_is_word (AEof r G') (xs.map some ++ List.replicate (4 - xs.length) none) G := by
  obtain ⟨x, rfl, e1⟩ := on1_inv e
  obtain ⟨zs, rfl, e2⟩ := onTS_inv e1
  obtain ⟨⟨hl, hz⟩, e3⟩ := gd_of e2
  cases e3
  show a_are_things A m_is_word _ [some (.d (txs zs)), none, none, none] G
  have hl2 : (zs.map PyData.str).length ≤ 100000 := by
    rw [List.length_map]
    omega
  have hc : cLc (cSeqH (cVar 0)) (gN 1) tYesC (cCall m_is_word (cCons (cVar 1) cNil)) [1] [some (.d (txs zs)), none, none, none] = mp (.vl ((zs.map PyData.str).map isW)) := by
    refine cLc_all (ds := zs.map PyData.str) isW rfl hl2 fun d hd => ?_
    obtain ⟨z, hz1, rfl⟩ := List.mem_map.mp hd
    refine ⟨_, rfl, ?_⟩
    rw [ev_call (ev_1 rfl) rfl]
    exact is_word_is (hz z hz1)
  have ew : (zs.map PyData.str).map isW = (zs.map wordB).map .bool := by
    rw [List.map_map, List.map_map]
    rfl
  have hc2 : cLc (cItr fZip (cCons (cVar 0) (cCons (cSl (cVar 0) (cPart (cK (.int 1))) cNoP) cNil))) (gTp 2 (gsCons (gN 2) (gsCons (gN 3) gsNil))) tYesC (cBin fLt (cVar 2) (cVar 3)) [2, 3] [some (.d (txs zs)), none, none, none] = mp (.vl ((zipDs (zs.map .str) ((zs.map PyData.str).drop 1)).map ltP)) := by
    refine cLc_all (ds := zipDs (zs.map .str) ((zs.map PyData.str).drop 1)) ltP (ev_itr (ev_2 rfl (ev_sl (x := .d (txs zs)) rfl (ev_part rfl) rfl rfl)) ?_) ?_ fun d hd => ?_
    · show mp (zipDs (zs.map .str) (cut (zs.map PyData.str) (some 1) none)) = _
      rw [show cut (zs.map PyData.str) (some 1) none = (zs.map PyData.str).drop 1 from cut_from _ 1]
    · unfold zipDs
      rw [List.length_zipWith]
      exact Nat.le_trans (Nat.min_le_left _ _) hl2
    · unfold zipDs at hd
      obtain ⟨i, hi⟩ := List.mem_iff_getElem?.mp hd
      rw [List.getElem?_zipWith] at hi
      cases h1 : (zs.map PyData.str)[i]? with
      | none =>
        rw [h1] at hi
        cases hi
      | some a =>
        cases h2 : ((zs.map PyData.str).drop 1)[i]? with
        | none =>
          rw [h1, h2] at hi
          cases hi
        | some b =>
          rw [h1, h2] at hi
          cases hi
          obtain ⟨a, _, rfl⟩ := List.mem_map.mp (List.mem_of_getElem? h1)
          obtain ⟨b, _, rfl⟩ := List.mem_map.mp (List.mem_of_mem_drop (List.mem_of_getElem? h2))
          exact ⟨_, rfl, rfl⟩
  refine as_if (k := (!true) || (zs.isEmpty || !(zs.map wordB).all id)) (et_or (et_not (et_val rfl)) fun _ => et_or (et_val (ev_bin (y := .d (.tuple [])) rfl (ev_app rfl (fTup_d rfl (Nat.zero_le _))) ?_)) fun _ => et_not (et_val (ev_app (ev_1 (ev_fz hc)) ?_))) (fun h => ?_) fun h => ?_
  · rw [fEq_d (eqOk_txs zs) rfl, eqv_nil]
  · rw [ew]
    exact fAll_l _
  · refine aRet_is (x := .d (.bool false)) rfl ⟨?_, rfl⟩
    have q : areB zs = false := by
      unfold areB
      rw [List.all_map] at h
      have h : (zs.isEmpty || !zs.all wordB) = true := h
      revert h
      cases zs.isEmpty <;> cases zs.all wordB <;> intro h <;> first | rfl | cases h
    rw [q]
    rfl
  · refine aRet_is (x := .d (.bool (things zs))) (ev_app (ev_1 (ev_fz hc2)) ?_) ⟨?_, rfl⟩
    · rw [things_eq, ← things_all]
      exact fAll_l _
    · have q : areB zs = things zs := by
        unfold areB
        rw [List.all_map] at h
        have h : (zs.isEmpty || !zs.all wordB) = false := h
        revert h
        cases zs.isEmpty <;> cases zs.all wordB <;> intro h <;> first | rfl | cases h
      rw [q]
      rfl
end K66

namespace K66
open PySem PySem.Spec PyProof.Rows L2 LamX DL
/-! ### is_whole, is_sign -/
def wholeB (d : D) : Bool := isiD "int" d && !isiD "bool" d
def m_is_whole (xs : List DV) : M DV := on1 xs fun x => onD x fun d => mp (.d (.bool (wholeB d)))
theorem spec_is_whole (A : AD) (xs : List DV) (G : DG) (r : Rs DV) (G' : DG) (e : m_is_whole xs G = some (r, G')) : a_is_whole A (AEof r G') (xs.map some ++ List.replicate (1 - xs.length) none) G := by
  obtain ⟨x, rfl, e1⟩ := on1_inv e
  obtain ⟨d, rfl, e2⟩ := onD_inv e1
  cases e2
  exact aRet_is (x := .d (.bool (wholeB d))) (ev_and (ev_un (x := .d d) rfl rfl) fun _ => ev_not (ev_un (x := .d d) rfl rfl)) ⟨rfl, rfl⟩
def signB (n : Int) : Bool := decide (-1 ≤ n) && decide (n ≤ 1)
def m_is_sign (xs : List DV) : M DV := on1 xs fun x => onI x fun n => mp (.d (.bool (signB n)))
theorem spec_is_sign (A : AD) (xs : List DV) (G : DG) (r : Rs DV) (G' : DG) (e : m_is_sign xs G = some (r, G')) : a_is_sign A (AEof r G') (xs.map some ++ List.replicate (1 - xs.length) none) G := by
  obtain ⟨x, rfl, e1⟩ := on1_inv e
  obtain ⟨n, rfl, e2⟩ := onI_inv e1
  cases e2
  exact aRet_is (x := .d (.bool (signB n))) (ev_chain (x := .d (.int (-1))) (y := .d (.int n)) rfl rfl rfl fun _ => ⟨rfl, rfl⟩) ⟨rfl, rfl⟩
/-! ### pairs_of -/
def pairsS {α : Type} : List α → List (α × α)
  | [] => []
  | a :: r => r.map (fun b => (a, b)) ++ pairsS r
def pairD (p : Str × Str) : D := .tuple [.str p.1, .str p.2]
theorem pairs_len {α : Type} : ∀ zs : List α, (pairsS zs).length ≤ zs.length * zs.length
  | [] => Nat.le_refl 0
  | a :: r => by
    have h := pairs_len r
    show (r.map (fun b => (a, b)) ++ pairsS r).length ≤ _
    rw [List.length_append, List.length_map, List.length_cons, Nat.add_mul, Nat.mul_add]
    omega
def m_pairs (xs : List DV) : M DV := on1 xs fun x => onTS x fun zs => gd (zs.length ≤ 100) (mp (.d (.list ((pairsS zs).map pairD))))
def a_pairs : TSa := (aSeq (aSet 1 cOwn0) (aSeq (aFor (cItr fEnumF (cCons (cVar 0) cNil)) (gTp 2 (gsCons (gN 2) (gsCons (gN 3) gsNil))) ((aExtend 1 (cLc (cSeqH (cSl (cVar 0) (cPart (cBin fAdd (cVar 2) (cK (.int 1)))) cNoP)) (gN 4) tYesC (cApp fTup (cCons (cVar 3) (cCons (cVar 4) cNil))) [4])))) (aRet (cVar 1))))
def withA (a : Str) : D → D
  | .str b => .tuple [.str a, .str b]
  | _ => .none
theorem spec_pairs (xs : List DV) (G : DG) (r : Rs DV) (G' : DG) (e : m_pairs xs G = some (r, G')) : a_pairs (AEof r G') (xs.map some ++ List.replicate (5 - xs.length) none) G := by
  obtain ⟨x, rfl, e1⟩ := on1_inv e
  obtain ⟨zs, rfl, e2⟩ := onTS_inv e1
  obtain ⟨hl, e3⟩ := gd_of e2
  cases e3
  have tot : (pairsS zs).length ≤ 10000 := Nat.le_trans (pairs_len zs) (Nat.mul_le_mul hl hl)
  show a_pairs _ [some (.d (txs zs)), none, none, none, none] G
  unfold a_pairs
  refine sq_set (x := .vl []) rfl (sq_for (ds := enDs 0 (zs.map .str)) rfl ?_)
  refine for_inv (fun ds S G1 => G1 = G ∧ ∃ pre rest acc u v w, zs = pre ++ rest ∧ ds = enDs pre.length (rest.map .str) ∧ S = [some (.d (txs zs)), some (.vl (acc.map pairD)), u, v, w] ∧ acc ++ pairsS rest = pairsS zs) ?_ ?_ _ _ _ ⟨rfl, [], zs, [], none, none, none, rfl, rfl, rfl, rfl⟩
  · rintro d r S G1 A' ⟨rfl, pre, rest, acc, u, v, w, hz, hd, rfl, hp⟩ hn _ _ _ _
    cases rest with
    | nil => cases hd
    | cons a rest =>
      cases hd
      refine ⟨_, rfl, ?_⟩
      have hcut : cut (zs.map PyData.str) (some ((pre.length : Int) + 1)) none = rest.map PyData.str := by
        rw [show ((pre.length : Int) + 1) = ((pre.length + 1 : Nat) : Int) by omega, cut_from, hz, ← List.map_drop, drop_pre]
      have hw : (rest.map PyData.str).map (withA a) = (rest.map fun b => (a, b)).map pairD := by
        rw [List.map_map, List.map_map]
        rfl
      have few : acc.length + (rest.map fun b => (a, b)).length ≤ 10000 := by
        have q := congrArg List.length hp
        rw [List.length_append] at q
        have q2 : (pairsS (a :: rest)).length = (rest.map fun b => (a, b)).length + (pairsS rest).length := by
          show (rest.map (fun b => (a, b)) ++ pairsS rest).length = _
          rw [List.length_append]
        omega
      refine as_ext (xs := acc.map pairD) (ds := (rest.map PyData.str).map (withA a)) rfl ?_ ?_ (hn _ _ ⟨rfl, pre ++ [a], rest, acc ++ rest.map fun b => (a, b), some (.d (.int (pre.length : Int))), some (.d (.str a)), w, ?_, ?_, ?_, ?_⟩)
      · refine cLc_all (ds := rest.map PyData.str) (withA a) (ev_seqH (x := .d (.tuple (rest.map PyData.str))) (ev_sl (x := .d (txs zs)) rfl (ev_part (i := (pre.length : Int) + 1) rfl) rfl ?_) rfl) ?_ fun d hd => ?_
        · show some (DV.d (.tuple (cut (zs.map PyData.str) (some ((pre.length : Int) + 1)) none))) = _
          rw [hcut]
        · rw [List.length_map]
          rw [List.length_map] at few
          omega
        · obtain ⟨b, _, rfl⟩ := List.mem_map.mp hd
          exact ⟨_, rfl, rfl⟩
      · rw [hw, List.length_map, List.length_map]
        omega
      · rw [hz, List.append_assoc]
        rfl
      · rw [List.length_append]
        rfl
      · rw [hw, ← List.map_append]
        rfl
      · rw [List.append_assoc]
        exact hp
  · rintro S G1 ⟨rfl, pre, rest, acc, u, v, w, hz, hd, rfl, hp⟩
    cases rest with
    | nil =>
      have hp : acc = pairsS zs := by
        rw [← hp]
        show acc = acc ++ []
        rw [List.append_nil]
      subst hp
      show aRet (cVar 1) (AEof (.ok (.d (.list ((pairsS zs).map pairD)))) G1) [some (.d (txs zs)), some (.vl ((pairsS zs).map pairD)), u, v, w] G1
      exact aRet_is (x := .vl ((pairsS zs).map pairD)) rfl ⟨rfl, rfl⟩
    | cons a rest => cases hd
/-! ### is_table, is_duels -/
/-- a whole number that is a sign -/
def okN (d : D) : Bool := wholeB d && match d with
  | .int n => signB n
  | _ => false
theorem okN_is (d : D) : okN d = (wholeB d && match d with | .int n => signB n | _ => false) := rfl
theorem wholeB_int {d : D} (h : wholeB d = true) : ∃ n, d = .int n := by
  cases d with
  | int n => exact ⟨n, rfl⟩
  | none => cases h
  | bool => cases h
  | str => cases h
  | list => cases h
  | tuple => cases h
  | dict => cases h
def tableB (nm nm2 : Str) (zs : List Str) (ns : List D) : Bool := decide (nm = nm2) && (areB zs && (decide ((2 : Int) ≤ (zs.length : Int)) && decide ((zs.length : Int) ≤ 5))) && (decide (ns.length = (pairsS zs).length) && ns.all okN)
/-- what a table may look like here -/
def onTab {β : Type} (x : DV) (k : Str → List Str → List D → M β) : M β := onT x fun ds => match ds with
  | [.str nm, .tuple ws, .tuple ns] => mb (mo (toSs ws)) fun zs => gd (zs.length ≤ 100 ∧ (∀ z ∈ zs, z.length ≤ 100000) ∧ ns.length ≤ 100000) (k nm zs ns)
  | _ => mz
end K66

namespace K66
open PySem PySem.Spec PyProof.Rows L2 LamX DL
theorem ev_callL {S : SS} {i : Nat} {fa : Addr} {f : List DV → M DV} {e : SS → M (List DV)} {xs : List DV} (h0 : cVar i S = mp (.fn fa)) (h1 : e S = mp xs) (hv : xs.all (fun x => !isVl x) = true) : cCallL i fa f e S = f xs := by
  unfold cCallL
  rw [h0, mb_mp]
  show gd (fa = fa) (mb (e S) fun xs => gd (xs.all (fun x => !isVl x) = true) (f xs)) = _
  rw [gd_yes rfl, h1, mb_mp, gd_yes hv]
theorem are_is {zs : List Str} (hl : zs.length ≤ 1000) (hz : ∀ z ∈ zs, z.length ≤ 100000) : m_are_things [.d (txs zs)] = mp (.d (.bool (areB zs))) := by
  show onTS (.d (txs zs)) _ = _
  rw [onTS_is, gd_yes ⟨hl, hz⟩]
theorem pairs_is {zs : List Str} (hl : zs.length ≤ 100) : m_pairs [.d (txs zs)] = mp (.d (.list ((pairsS zs).map pairD))) := by
  show onTS (.d (txs zs)) _ = _
  rw [onTS_is, gd_yes hl]
def m_is_table (A : AD) (xs : List DV) : M DV := on3 xs fun v n j => onS n fun nm2 => match j with
  | .fn a => gd (a = A.is_sign) (onD v fun d => match d with
    | .none => mp (.d (.bool false))
    | d => onTab (.d d) fun nm zs ns => mp (.d (.bool (tableB nm nm2 zs ns))))
  | _ => mz
theorem eqv_int (i j : Int) : PyData.eqv (.int i) (.int j) = (i == j) := by simp [PyData.eqv]
theorem eqv_str (i j : Str) : PyData.eqv (.str i) (.str j) = (i == j) := by simp [PyData.eqv]
/-- the whole of a table that looks like one -/
theorem table_run (A : AD) (nm nm2 : Str) (zs : List Str) (ns : List D) (G : DG) (h1 : zs.length ≤ 100) (h2 : ∀ z ∈ zs, z.length ≤ 100000) (h3 : ns.length ≤ 100000) :
    a_is_table A m_are_things m_is_whole m_pairs m_is_sign (AEof (.ok (.d (.bool (tableB nm nm2 zs ns)))) G) [some (.d (.tuple [.str nm, txs zs, .tuple ns])), some (.d (.str nm2)), some (.fn A.is_sign), none] G := by
  have v1 : cBin fIx (cVar 0) (cK (.int 1)) [some (.d (.tuple [.str nm, txs zs, .tuple ns])), some (.d (.str nm2)), some (.fn A.is_sign), none] = mp (.d (txs zs)) := rfl
  have v2 : cBin fIx (cVar 0) (cK (.int 2)) [some (.d (.tuple [.str nm, txs zs, .tuple ns])), some (.d (.str nm2)), some (.fn A.is_sign), none] = mp (.d (.tuple ns)) := rfl
  unfold a_is_table
  refine sq_if (k := (!true) || ((!PyData.eqv (.int 3) (.int 3)) || ((!true) || (!PyData.eqv (.str nm) (.str nm2))))) (et_or (et_not (et_val rfl)) fun _ => et_or (et_val (ev_bin (x := .d (.int 3)) (y := .d (.int 3)) rfl rfl (fNe_d rfl rfl))) fun _ => et_or (et_not (et_val rfl)) fun _ => et_val (ev_bin (x := .d (.str nm)) (y := .d (.str nm2)) rfl rfl (fNe_d rfl rfl))) (fun h => ?_) fun h => ?_
  · have hn : nm ≠ nm2 := fun q => by
      rw [q, eqv_int, eqv_str] at h
      simp at h
    refine sq_ret (x := .d (.bool false)) rfl ⟨?_, rfl⟩
    unfold tableB
    rw [decide_eq_false hn]
    rfl
  · have hn : nm = nm2 := by
      rw [eqv_int, eqv_str] at h
      simpa using h
    refine sq_nx (sq_if (k := (!areB zs) || !(decide ((2 : Int) ≤ (zs.length : Int)) && decide ((zs.length : Int) ≤ 5))) (et_or (et_not (et_val ?_)) fun _ => et_not (et_val (ev_chain (y := .d (.int (zs.length : Int))) rfl (ev_app (ev_1 v1) ?_) rfl fun _ => ⟨rfl, rfl⟩))) (fun h => ?_) fun h => ?_)
    · rw [ev_call (ev_1 v1) rfl, are_is (Nat.le_trans h1 (by decide)) h2]
    · show mp (DV.d (.int (((zs.map PyData.str).length : Nat) : Int))) = _
      rw [List.length_map]
    · refine sq_ret (x := .d (.bool false)) rfl ⟨?_, rfl⟩
      unfold tableB
      revert h
      cases areB zs <;> cases (decide ((2 : Int) ≤ (zs.length : Int)) && decide ((zs.length : Int) ≤ 5)) <;> intro h <;> first | (cases h; done) | (simp [frz])
    · have h2' : areB zs = true ∧ (decide ((2 : Int) ≤ (zs.length : Int)) && decide ((zs.length : Int) ≤ 5)) = true := by
        revert h
        cases areB zs <;> cases (decide ((2 : Int) ≤ (zs.length : Int)) && decide ((zs.length : Int) ≤ 5)) <;> intro h <;> first | (cases h; done) | exact ⟨rfl, rfl⟩
      refine sq_nx (sq_if (k := (!true) || (!PyData.eqv (.int (ns.length : Int)) (.int ((pairsS zs).length : Int)))) (et_or (et_not (et_val (ev_un v2 rfl))) fun _ => et_val (ev_bin (x := .d (.int (ns.length : Int))) (y := .d (.int ((pairsS zs).length : Int))) (ev_app (ev_1 v2) rfl) (ev_app (ev_1 (x := .d (.list ((pairsS zs).map pairD))) ?_) ?_) (fNe_d rfl rfl))) (fun h => ?_) fun h => ?_)
      · rw [ev_call (ev_1 v1) rfl, pairs_is h1]
      · show mp (DV.d (.int ((((pairsS zs).map pairD).length : Nat) : Int))) = _
        rw [List.length_map]
      · refine sq_ret (x := .d (.bool false)) rfl ⟨?_, rfl⟩
        have hq : ¬ ns.length = (pairsS zs).length := fun q => by
          rw [q, eqv_int] at h
          simp at h
        unfold tableB
        rw [decide_eq_false hq]
        simp [frz]
      · have hq : ns.length = (pairsS zs).length := by
          rw [eqv_int] at h
          have h : (ns.length : Int) = ((pairsS zs).length : Int) := by simpa using h
          omega
        have hc : cLc (cSeqH (cBin fIx (cVar 0) (cK (.int 2)))) (gN 3) tYesC (cAnd (cCall m_is_whole (cCons (cVar 3) cNil)) (cCallL 2 A.is_sign m_is_sign (cCons (cVar 3) cNil))) [3] [some (.d (.tuple [.str nm, txs zs, .tuple ns])), some (.d (.str nm2)), some (.fn A.is_sign), none] = mp (.vl (ns.map fun d => .bool (okN d))) := by
          refine cLc_all (ds := ns) (fun d => .bool (okN d)) (ev_seqH v2 rfl) h3 fun d hd => ⟨_, rfl, ?_⟩
          rw [okN_is]
          refine ev_and ?_ fun hw => ?_
          · rw [ev_call (ev_1 (x := .d d) rfl) rfl]
            rfl
          · obtain ⟨n, rfl⟩ := wholeB_int hw
            rw [ev_callL rfl (ev_1 (x := .d (.int n)) rfl) rfl]
            rfl
        have e : tableB nm nm2 zs ns = (ns.map okN).all id := by
          unfold tableB
          rw [decide_eq_true hn, decide_eq_true hq, h2'.1, h2'.2, List.all_map]
          rfl
        have e2 : (ns.map fun d => PyData.bool (okN d)) = (ns.map okN).map .bool := by
          rw [List.map_map]
          rfl
        refine sq_nx ?_
        refine aRet_is (x := .d (.bool (tableB nm nm2 zs ns))) (ev_app (ev_1 (ev_fz hc)) ?_) ⟨rfl, rfl⟩
        rw [e, e2]
        exact fAll_l _
theorem onTab_inv {β : Type} {x : DV} {G : DG} {r : Rs β} {G' : DG} {k : Str → List Str → List D → M β} (e : onTab x k G = some (r, G')) : ∃ nm zs ns, x = .d (.tuple [.str nm, txs zs, .tuple ns]) ∧ zs.length ≤ 100 ∧ (∀ z ∈ zs, z.length ≤ 100000) ∧ ns.length ≤ 100000 ∧ k nm zs ns G = some (r, G') := by
  obtain ⟨ds, rfl, e1⟩ := onT_inv e
  split at e1
  · rename_i nm ws ns
    obtain ⟨zs, ez, e2⟩ := mb_mo_of e1
    obtain ⟨⟨h1, h2, h3⟩, e3⟩ := gd_of e2
    rw [toSs_eq ez]
    exact ⟨nm, zs, ns, rfl, h1, h2, h3, e3⟩
  · cases e1
theorem spec_is_table (A : AD) (xs : List DV) (G : DG) (r : Rs DV) (G' : DG) (e : m_is_table A xs G = some (r, G')) : a_is_table A m_are_things m_is_whole m_pairs m_is_sign (AEof r G') (xs.map some ++ List.replicate (4 - xs.length) none) G := by
  obtain ⟨v, n, j, rfl, e1⟩ := on3_inv e
  obtain ⟨nm2, rfl, e2⟩ := onS_inv e1
  cases j with
  | fn a =>
    obtain ⟨rfl, e3⟩ := gd_of e2
    obtain ⟨d, rfl, e4⟩ := onD_inv e3
    cases d with
    | none =>
      cases e4
      show a_is_table A m_are_things m_is_whole m_pairs m_is_sign _ [some (.d .none), some (.d (.str nm2)), some (.fn A.is_sign), none] G
      unfold a_is_table
      exact sq_if (k := (!false) || true) (et_or (et_not (et_val rfl)) fun z => nomatch z) (fun _ => sq_ret (x := .d (.bool false)) rfl ⟨rfl, rfl⟩) fun z => nomatch z
    | tuple ds =>
      obtain ⟨nm, zs, ns, ex, h1, h2, h3, e5⟩ := onTab_inv e4
      cases ex
      cases e5
      exact table_run A nm nm2 zs ns G h1 h2 h3
    | bool => cases e4
    | int => cases e4
    | str => cases e4
    | list => cases e4
    | dict => cases e4
  | d => cases e2
  | vl => cases e2
  | sc => cases e2
  | dr => cases e2
  | ex => cases e2
abbrev duels : Str := "duels"
def m_is_duels (xs : List DV) : M DV := on1 xs fun v => onD v fun d => match d with
  | .none => mp (.d (.bool false))
  | d => onTab (.d d) fun nm zs ns => mp (.d (.bool (tableB nm duels zs ns)))
theorem onTab_is {β : Type} {nm : Str} {zs : List Str} {ns : List D} {k : Str → List Str → List D → M β} (h1 : zs.length ≤ 100) (h2 : ∀ z ∈ zs, z.length ≤ 100000) (h3 : ns.length ≤ 100000) : onTab (.d (.tuple [.str nm, txs zs, .tuple ns])) k = k nm zs ns := by
  show mb (mo (toSs (zs.map .str))) (fun zs => gd (zs.length ≤ 100 ∧ (∀ z ∈ zs, z.length ≤ 100000) ∧ ns.length ≤ 100000) (k nm zs ns)) = _
  rw [toSs_map]
  exact gd_yes ⟨h1, h2, h3⟩
theorem table_none (A : AD) (nm2 : Str) : m_is_table A [.d .none, .d (.str nm2), .fn A.is_sign] = mp (.d (.bool false)) := gd_yes rfl
theorem table_is (A : AD) {nm nm2 : Str} {zs : List Str} {ns : List D} (h1 : zs.length ≤ 100) (h2 : ∀ z ∈ zs, z.length ≤ 100000) (h3 : ns.length ≤ 100000) : m_is_table A [.d (.tuple [.str nm, txs zs, .tuple ns]), .d (.str nm2), .fn A.is_sign] = mp (.d (.bool (tableB nm nm2 zs ns))) := by
  show gd (A.is_sign = A.is_sign) (onTab (.d (.tuple [.str nm, txs zs, .tuple ns])) fun nm zs ns => mp (DV.d (.bool (tableB nm nm2 zs ns)))) = _
  rw [gd_yes rfl, onTab_is h1 h2 h3]
theorem spec_is_duels (A : AD) (xs : List DV) (G : DG) (r : Rs DV) (G' : DG) (e : m_is_duels xs G = some (r, G')) : a_is_duels A (m_is_table A) (AEof r G') (xs.map some ++ List.replicate (1 - xs.length) none) G := by
  obtain ⟨v, rfl, e1⟩ := on1_inv e
  obtain ⟨d, rfl, e2⟩ := onD_inv e1
  have key : ∀ d : D, cCall (m_is_table A) (cCons (cVar 0) (cCons (cK (.str duels)) (cCons (cFn A.is_sign) cNil))) [some (.d d)] = m_is_table A [.d d, .d (.str duels), .fn A.is_sign] := fun d => ev_call (ev_3 rfl rfl rfl) rfl
  show a_is_duels A (m_is_table A) (AEof r G') [some (.d d)] G
  unfold a_is_duels
  cases d with
  | none =>
    cases e2
    exact aRet_is (x := .d (.bool false)) (by rw [key, table_none]) ⟨rfl, rfl⟩
  | tuple ds =>
    obtain ⟨nm, zs, ns, ex, h1, h2, h3, e5⟩ := onTab_inv e2
    cases ex
    cases e5
    exact aRet_is (x := .d (.bool (tableB nm duels zs ns))) (by rw [key, table_is A h1 h2 h3]) ⟨rfl, rfl⟩
  | bool => cases e2
  | int => cases e2
  | str => cases e2
  | list => cases e2
  | dict => cases e2
theorem duels_none : m_is_duels [.d .none] = mp (.d (.bool false)) := rfl
theorem duels_is {nm : Str} {zs : List Str} {ns : List D} (h1 : zs.length ≤ 100) (h2 : ∀ z ∈ zs, z.length ≤ 100000) (h3 : ns.length ≤ 100000) : m_is_duels [.d (.tuple [.str nm, txs zs, .tuple ns])] = mp (.d (.bool (tableB nm duels zs ns))) := by
  show onTab (.d (.tuple [.str nm, txs zs, .tuple ns])) (fun nm zs ns => mp (DV.d (.bool (tableB nm duels zs ns)))) = _
  rw [onTab_is h1 h2 h3]
/-! ### two_for -/
def restS (zs : List Str) (a b : Str) : List Str := zs.filter fun z => !((a == z) || (b == z))
def twoS (zs : List Str) (a b : Str) : List (List Str) := [a :: b :: restS zs a b, (restS zs a b).reverse ++ [a, b]]
/-- voters as data -/
def vot (vs : List (List Str)) : D := .tuple (vs.map txs)
def m_two_for (xs : List DV) : M DV := on3 xs fun t x y => onTS t fun zs => onS x fun a => onS y fun b => gd (zs.length ≤ 100) (mp (.d (vot (twoS zs a b))))
theorem fTupOf_l (ds : List D) : fTupOf [.d (.list ds)] = mp (.d (.tuple ds)) := rfl
theorem filter_str (p : D → Bool) (q : Str → Bool) (h : ∀ z, p (.str z) = q z) : ∀ zs : List Str, (zs.map PyData.str).filter p = (zs.filter q).map .str
  | [] => rfl
  | z :: r => by
    have ih := filter_str p q h r
    rw [List.map_cons, List.filter_cons, List.filter_cons, h z, ih]
    cases q z <;> rfl
theorem fAdd_t {xs ys : List D} (h : xs.length + ys.length ≤ 100000) : fAdd (.d (.tuple xs)) (.d (.tuple ys)) = mp (.d (.tuple (xs ++ ys))) := by
  show mo ((if xs.length + ys.length ≤ 100000 then some (PyData.tuple (xs ++ ys)) else none).map DV.d) = _
  rw [if_pos h]
  rfl
theorem spec_two_for (A : AD) (xs : List DV) (G : DG) (r : Rs DV) (G' : DG) (e : m_two_for xs G = some (r, G')) : a_two_for A (AEof r G') (xs.map some ++ List.replicate (5 - xs.length) none) G := by
  obtain ⟨t, x, y, rfl, e1⟩ := on3_inv e
  obtain ⟨zs, rfl, e2⟩ := onTS_inv e1
  obtain ⟨a, rfl, e3⟩ := onS_inv e2
  obtain ⟨b, rfl, e4⟩ := onS_inv e3
  obtain ⟨hl, e5⟩ := gd_of e4
  cases e5
  have lz : (zs.map PyData.str).length ≤ 100000 := by
    rw [List.length_map]
    omega
  show a_two_for A _ [some (.d (txs zs)), some (.d (.str a)), some (.d (.str b)), none, none] G
  have hc : cLc (cSeqH (cVar 0)) (gN 4) (cTest (cBin fNotIn (cVar 4) (cApp fTup (cCons (cVar 1) (cCons (cVar 2) cNil))))) (cVar 4) [4] [some (.d (txs zs)), some (.d (.str a)), some (.d (.str b)), none, none] = mp (.vl (((zs.map PyData.str).filter fun d => !(([.str a, .str b] : List D).any fun z => PyData.eqv z d)).map id)) := by
    refine cLc_map (ds := zs.map PyData.str) (fun d => !(([.str a, .str b] : List D).any fun z => PyData.eqv z d)) id rfl lz fun d hd => ?_
    obtain ⟨z, _, rfl⟩ := List.mem_map.mp hd
    exact ⟨_, rfl, et_val (ev_bin (x := .d (.str z)) (y := .d (.tuple [.str a, .str b])) rfl rfl rfl), fun _ => rfl⟩
  have hr : ((zs.map PyData.str).filter fun d => !(([.str a, .str b] : List D).any fun z => PyData.eqv z d)).map id = (restS zs a b).map .str := by
    rw [List.map_id, filter_str _ (fun z => !((a == z) || (b == z)))]
    · rfl
    · intro z
      simp [eqv_str]
  rw [hr] at hc
  have lr : (restS zs a b).length ≤ 100 := Nat.le_trans (List.length_filter_le _ _) hl
  unfold a_two_for
  refine sq_set (x := .d (txs (restS zs a b))) (ev_nv (ev_app (ev_1 (ev_fz hc)) (fTupOf_l _)) rfl) ?_
  refine aRet_is (x := .d (vot (twoS zs a b))) (ev_app (ev_2 (x := .d (txs (a :: b :: restS zs a b))) (y := .d (txs ((restS zs a b).reverse ++ [a, b]))) (ev_bin (x := .d (.tuple [.str a, .str b])) (y := .d (txs (restS zs a b))) rfl rfl ?_) (ev_bin (x := .d (.tuple ((restS zs a b).map PyData.str).reverse)) (y := .d (.tuple [.str a, .str b])) rfl rfl ?_)) (fTup_d rfl (show 2 ≤ 100000 by decide))) ⟨rfl, rfl⟩
  · rw [fAdd_t (by rw [List.length_map]; show 2 + _ ≤ _; omega)]
    rfl
  · rw [fAdd_t (by rw [List.length_reverse, List.length_map]; show _ + 2 ≤ _; omega), ← List.map_reverse]
    show mp (DV.d (.tuple ((restS zs a b).reverse.map PyData.str ++ [a, b].map PyData.str))) = _
    rw [← List.map_append]
theorem two_is {zs : List Str} {a b : Str} (hl : zs.length ≤ 100) : m_two_for [.d (txs zs), .d (.str a), .d (.str b)] = mp (.d (vot (twoS zs a b))) := by
  show onTS (.d (txs zs)) (fun zs => gd (zs.length ≤ 100) (mp (DV.d (vot (twoS zs a b))))) = _
  rw [onTS_is, gd_yes hl]
end K66

namespace K66
open PySem PySem.Spec PyProof.Rows L2 LamX DL
/-! ### even_voters -/
def half (n : Int) : Nat := ((if n < 0 then -n else n).fdiv 2).toNat
def addS (zs : List Str) (p : Str × Str) (n : Int) : List (List Str) := (List.replicate (half n) (if 0 < n then twoS zs p.1 p.2 else twoS zs p.2 p.1)).flatten
def sumS (zs : List Str) : List ((Str × Str) × Int) → List (List Str)
  | [] => []
  | q :: r => addS zs q.1 q.2 ++ sumS zs r
def evenS (zs : List Str) (ns : List Int) : List (List Str) := if (sumS zs ((pairsS zs).zip ns)).isEmpty = true then [zs, zs.reverse] else sumS zs ((pairsS zs).zip ns)
def onNs {β : Type} (x : DV) (k : List Int → M β) : M β := onT x fun ds => mb (mo (toIs ds)) k
abbrev ins (ns : List Int) : D := .tuple (ns.map .int)
theorem onNs_inv {β : Type} {x : DV} {G : DG} {r : Rs β} {G' : DG} {k : List Int → M β} (e : onNs x k G = some (r, G')) : ∃ ns, x = .d (ins ns) ∧ k ns G = some (r, G') := by
  obtain ⟨ds, rfl, e1⟩ := onT_inv e
  obtain ⟨ns, en, e2⟩ := mb_mo_of e1
  rw [toIs_eq en]
  exact ⟨ns, rfl, e2⟩
theorem onNs_is {β : Type} {ns : List Int} {k : List Int → M β} : onNs (.d (ins ns)) k = k ns := by
  show mb (mo (toIs (ns.map .int))) k = _
  rw [toIs_map]
  rfl
def okE (zs : List Str) (ns : List Int) : Prop := zs.length ≤ 10 ∧ ns.length ≤ 100 ∧ ∀ n ∈ ns, n.natAbs ≤ 100
instance (zs : List Str) (ns : List Int) : Decidable (okE zs ns) := by unfold okE; infer_instance
def m_even (xs : List DV) : M DV := on2 xs fun t u => onTS t fun zs => onNs u fun ns => gd (okE zs ns) (mp (.d (vot (evenS zs ns))))
theorem half_le {n : Int} (h : n.natAbs ≤ 100) : half n ≤ 50 ∧ ((half n : Nat) : Int) = (if n < 0 then -n else n).fdiv 2 := by
  unfold half
  have e : (if n < 0 then -n else n) = (n.natAbs : Int) := by
    by_cases h0 : n < 0
    · rw [if_pos h0]
      omega
    · rw [if_neg h0]
      omega
  rw [e, Int.fdiv_eq_ediv_of_nonneg _ (by decide)]
  constructor
  · omega
  · omega
theorem twoS_len (zs : List Str) (a b : Str) : (twoS zs a b).length = 2 := rfl
theorem addS_len {zs : List Str} {p : Str × Str} {n : Int} (h : n.natAbs ≤ 100) : (addS zs p n).length ≤ 100 := by
  unfold addS
  rw [PyProof.Rows.lm_len_rep_flat]
  have q := (half_le h).1
  by_cases h0 : 0 < n
  · rw [if_pos h0, twoS_len]
    omega
  · rw [if_neg h0, twoS_len]
    omega
theorem sumS_len {zs : List Str} : ∀ {qs : List ((Str × Str) × Int)}, (∀ q ∈ qs, q.2.natAbs ≤ 100) → (sumS zs qs).length ≤ 100 * qs.length
  | [], _ => Nat.le_refl 0
  | q :: r, h => by
    have h1 := addS_len (zs := zs) (p := q.1) (h q (List.mem_cons_self ..))
    have h2 := sumS_len (zs := zs) (qs := r) fun x hx => h x (List.mem_cons_of_mem _ hx)
    show (addS zs q.1 q.2 ++ sumS zs r).length ≤ _
    rw [List.length_append, List.length_cons]
    omega
def numP (q : (Str × Str) × Int) : D := .tuple [pairD q.1, .int q.2]
theorem zip_pn : ∀ (ps : List (Str × Str)) (ns : List Int), zipDs (ps.map pairD) (ns.map .int) = (ps.zip ns).map numP
  | [], _ => rfl
  | _ :: _, [] => rfl
  | p :: r, n :: t => by
    have h := zip_pn r t
    unfold zipDs at h ⊢
    simp only [List.map_cons, List.zipWith_cons_cons, List.zip_cons_cons]
    rw [h]
    rfl
theorem plain_vot : ∀ vs : List (List Str), plainAll (vs.map txs) = true
  | [] => rfl
  | v :: r => by
    show (plainAll (v.map .str) && plainAll (r.map txs)) = true
    rw [plain_strs, plain_vot r]
    rfl
theorem depth_vot : ∀ vs : List (List Str), PyData.depthAll (vs.map txs) ≤ 1
  | [] => by simp [PyData.depthAll]
  | v :: r => by
    have h := depth_vot r
    simp only [List.map_cons, PyData.depthAll, PyData.depth, depth_strs]
    omega
theorem eqOk_vot (vs : List (List Str)) : eqOk (vot vs) = true := by
  show (plainAll (vs.map txs) && decide (PyData.depth (vot vs) ≤ 64)) = true
  rw [plain_vot, Bool.true_and]
  refine decide_eq_true ?_
  have h := depth_vot vs
  show PyData.depth (.tuple (vs.map txs)) ≤ 64
  simp only [PyData.depth]
  omega
theorem eqv_vot0 (vs : List (List Str)) : PyData.eqv (vot vs) (.tuple []) = vs.isEmpty := by
  unfold vot
  cases vs with
  | nil => simp [PyData.eqv, PyData.eqvAll]
  | cons a r => simp [PyData.eqv, PyData.eqvAll]
theorem fMul_t {ds : List D} {k : Nat} (h1 : k ≤ 100000) (h2 : ds.length * k ≤ 100000) : fMul (.d (.tuple ds)) (.d (.int (k : Int))) = mp (.d (.tuple (List.replicate k ds).flatten)) := by
  show mo ((if (k : Int).natAbs ≤ 100000 ∧ ds.length * (k : Int).toNat ≤ 100000 then some (PyData.tuple (List.replicate (k : Int).toNat ds).flatten) else none).map DV.d) = _
  have e : (k : Int).toNat = k := Int.toNat_natCast k
  rw [if_pos ⟨by omega, by rw [e]; exact h2⟩, e]
  rfl
theorem rep_txs (k : Nat) (vs : List (List Str)) : (List.replicate k (vs.map txs)).flatten = ((List.replicate k vs).flatten).map txs := by
  rw [List.map_flatten, List.map_replicate]
theorem even_run (A : AD) (zs : List Str) (ns : List Int) (G : DG) (ok : okE zs ns) : a_even_voters A m_pairs m_two_for (AEof (.ok (.d (vot (evenS zs ns)))) G) [some (.d (txs zs)), some (.d (ins ns)), none, none, none, none, none] G := by
  obtain ⟨h1, h2, h3⟩ := ok
  have hq : ∀ q ∈ (pairsS zs).zip ns, q.2.natAbs ≤ 100 := fun q hq => h3 _ (List.of_mem_zip hq).2
  have hz : ((pairsS zs).zip ns).length ≤ 100 := by
    rw [List.length_zip]
    omega
  have tot : (sumS zs ((pairsS zs).zip ns)).length ≤ 10000 := Nat.le_trans (sumS_len hq) (by omega)
  unfold a_even_voters
  refine sq_set (x := .d (.tuple [])) rfl (sq_for (ds := ((pairsS zs).zip ns).map numP) (ev_itr (ev_2 (x := .d (.list ((pairsS zs).map pairD))) (y := .d (ins ns)) ?_ rfl) ?_) ?_)
  · rw [ev_call (ev_1 (x := .d (txs zs)) rfl) rfl, pairs_is (by omega)]
  · show mp (zipDs ((pairsS zs).map pairD) (ns.map .int)) = _
    rw [zip_pn]
  · refine for_inv (fun ds S G1 => G1 = G ∧ ∃ qs acc u v w y, ds = qs.map numP ∧ (∀ q ∈ qs, q.2.natAbs ≤ 100) ∧ S = [some (.d (txs zs)), some (.d (ins ns)), some (.d (vot acc)), u, v, w, y] ∧ acc ++ sumS zs qs = sumS zs ((pairsS zs).zip ns)) ?_ ?_ _ _ _ ⟨rfl, (pairsS zs).zip ns, [], none, none, none, none, rfl, hq, rfl, rfl⟩
    · rintro d r S G1 A' ⟨rfl, qs, acc, u, v, w, y, hd, hq1, rfl, hp⟩ hn _ _ _ _
      cases qs with
      | nil => cases hd
      | cons q qs =>
        obtain ⟨⟨a, b⟩, n⟩ := q
        cases hd
        have hn100 : n.natAbs ≤ 100 := hq1 _ (List.mem_cons_self ..)
        obtain ⟨hh, he⟩ := half_le hn100
        have few : acc.length + (addS zs (a, b) n).length ≤ 10000 := by
          have q := congrArg List.length hp
          rw [List.length_append] at q
          have q2 : (sumS zs (((a, b), n) :: qs)).length = (addS zs (a, b) n).length + (sumS zs qs).length := by
            show (addS zs (a, b) n ++ sumS zs qs).length = _
            rw [List.length_append]
          omega
        refine ⟨_, rfl, ?_⟩
        refine sq_set (x := .d (vot (if 0 < n then twoS zs a b else twoS zs b a))) (ev_nv ?_ rfl) ?_
        · by_cases h0 : 0 < n
          · rw [if_pos h0]
            refine ev_ifT (et_val (k := true) (ev_bin (x := .d (.int n)) (y := .d (.int 0)) rfl rfl ?_)) ?_
            · show mp (DV.d (.bool (decide (0 < n)))) = _
              rw [decide_eq_true h0]
            · rw [ev_call (ev_3 (x := .d (txs zs)) (y := .d (.str a)) (z := .d (.str b)) rfl rfl rfl) rfl, two_is (by omega)]
          · rw [if_neg h0]
            refine ev_ifF (et_val (k := false) (ev_bin (x := .d (.int n)) (y := .d (.int 0)) rfl rfl ?_)) ?_
            · show mp (DV.d (.bool (decide (0 < n)))) = _
              rw [decide_eq_false h0]
            · rw [ev_call (ev_3 (x := .d (txs zs)) (y := .d (.str b)) (z := .d (.str a)) rfl rfl rfl) rfl, two_is (by omega)]
        · have l2 : ((if 0 < n then twoS zs a b else twoS zs b a).map txs).length = 2 := by
            rw [List.length_map]
            by_cases h0 : 0 < n
            · rw [if_pos h0]
              rfl
            · rw [if_neg h0]
              rfl
          refine as_set (x := .d (vot (acc ++ addS zs (a, b) n))) (ev_nv (ev_bin (x := .d (vot acc)) (y := .d (vot (addS zs (a, b) n))) rfl (ev_bin (x := .d (vot (if 0 < n then twoS zs a b else twoS zs b a))) (y := .d (.int ((half n : Nat) : Int))) rfl (ev_bin (x := .d (.int (if n < 0 then -n else n))) (y := .d (.int 2)) (ev_app (ev_1 (x := .d (.int n)) rfl) rfl) rfl ?_) ?_) ?_) rfl) (hn _ _ ⟨rfl, qs, acc ++ addS zs (a, b) n, _, _, _, _, rfl, fun x hx => hq1 x (List.mem_cons_of_mem _ hx), rfl, ?_⟩)
          · rw [he]
            rfl
          · show fMul (.d (.tuple ((if 0 < n then twoS zs a b else twoS zs b a).map txs))) (.d (.int ((half n : Nat) : Int))) = _
            rw [fMul_t (by omega) (by rw [l2]; omega), rep_txs]
            rfl
          · show fAdd (.d (.tuple (acc.map txs))) (.d (.tuple ((addS zs (a, b) n).map txs))) = _
            rw [fAdd_t (by rw [List.length_map, List.length_map]; omega), ← List.map_append]
            rfl
          · rw [List.append_assoc]
            exact hp
    · rintro S G1 ⟨rfl, qs, acc, u, v, w, y, hd, hq1, rfl, hp⟩
      cases qs with
      | cons => cases hd
      | nil =>
        have hp : acc = sumS zs ((pairsS zs).zip ns) := by
          rw [← hp]
          show acc = acc ++ []
          rw [List.append_nil]
        subst hp
        show aRet _ (AEof (.ok (.d (vot (evenS zs ns)))) G1) [some (.d (txs zs)), some (.d (ins ns)), some (.d (vot (sumS zs ((pairsS zs).zip ns)))), u, v, w, y] G1
        have ht : cTest (cBin fNe (cVar 2) (cApp fTup cNil)) [some (.d (txs zs)), some (.d (ins ns)), some (.d (vot (sumS zs ((pairsS zs).zip ns)))), u, v, w, y] = mp (!(sumS zs ((pairsS zs).zip ns)).isEmpty) := by
          refine et_val (ev_bin (x := .d (vot (sumS zs ((pairsS zs).zip ns)))) (y := .d (.tuple [])) rfl rfl ?_)
          rw [fNe_d (eqOk_vot _) rfl, eqv_vot0]
        refine aRet_is (x := .d (vot (evenS zs ns))) ?_ ⟨rfl, rfl⟩
        unfold evenS
        cases hb : (sumS zs ((pairsS zs).zip ns)).isEmpty with
        | true =>
          rw [hb] at ht
          rw [if_pos rfl]
          refine ev_ifF ht (ev_app (ev_2 (x := .d (txs zs)) (y := .d (txs zs.reverse)) rfl (ev_un (x := .d (txs zs)) rfl ?_)) (fTup_d rfl (show 2 ≤ 100000 by decide)))
          show mp (DV.d (.tuple (zs.map PyData.str).reverse)) = _
          rw [← List.map_reverse]
        | false =>
          rw [hb] at ht
          rw [if_neg Bool.false_ne_true]
          exact ev_ifT ht rfl
theorem spec_even (A : AD) (xs : List DV) (G : DG) (r : Rs DV) (G' : DG) (e : m_even xs G = some (r, G')) : a_even_voters A m_pairs m_two_for (AEof r G') (xs.map some ++ List.replicate (7 - xs.length) none) G := by
  obtain ⟨t, u, rfl, e1⟩ := on2_inv e
  obtain ⟨zs, rfl, e2⟩ := onTS_inv e1
  obtain ⟨ns, rfl, e3⟩ := onNs_inv e2
  obtain ⟨ok, e4⟩ := gd_of e3
  cases e4
  exact even_run A zs ns G ok
theorem even_is {zs : List Str} {ns : List Int} (ok : okE zs ns) : m_even [.d (txs zs), .d (ins ns)] = mp (.d (vot (evenS zs ns))) := by
  show onTS (.d (txs zs)) (fun zs => onNs (.d (ins ns)) fun ns => gd (okE zs ns) (mp (DV.d (vot (evenS zs ns))))) = _
  rw [onTS_is, onNs_is, gd_yes ok]
end K66

namespace K66
open PySem PySem.Spec PyProof.Rows L2 LamX DL
/-! ### voters_for -/
def leftN (ns : List Int) : List Int := ns.map fun n => n - 1
def votersS (zs : List Str) : List Int → List (List Str)
  | [] => []
  | n :: r => if n.fmod 2 = 0 then evenS zs (n :: r) else zs :: (if (leftN (n :: r)).any (fun k => !(k == 0)) = true then evenS zs (leftN (n :: r)) else [])
theorem votersS_cons (zs : List Str) (n : Int) (r : List Int) : votersS zs (n :: r) = if n.fmod 2 = 0 then evenS zs (n :: r) else zs :: (if (leftN (n :: r)).any (fun k => !(k == 0)) = true then evenS zs (leftN (n :: r)) else []) := rfl
def okV (zs : List Str) (ns : List Int) : Prop := ns ≠ [] ∧ zs.length ≤ 10 ∧ ns.length ≤ 100 ∧ ∀ n ∈ ns, n.natAbs ≤ 50
instance (zs : List Str) (ns : List Int) : Decidable (okV zs ns) := by unfold okV; infer_instance
def m_vfor (xs : List DV) : M DV := on2 xs fun t u => onTS t fun zs => onNs u fun ns => gd (okV zs ns) (mp (.d (vot (votersS zs ns))))
theorem evenS_len {zs : List Str} {ns : List Int} (ok : okE zs ns) : (evenS zs ns).length ≤ 10000 := by
  obtain ⟨h1, h2, h3⟩ := ok
  have hq : ∀ q ∈ (pairsS zs).zip ns, q.2.natAbs ≤ 100 := fun q hq => h3 _ (List.of_mem_zip hq).2
  have hz : ((pairsS zs).zip ns).length ≤ 100 := by
    rw [List.length_zip]
    omega
  have tot := sumS_len (zs := zs) hq
  unfold evenS
  by_cases h : (sumS zs ((pairsS zs).zip ns)).isEmpty = true
  · rw [if_pos h]
    show 2 ≤ 10000
    decide
  · rw [if_neg h]
    omega
theorem okE_of {zs : List Str} {ns : List Int} (ok : okV zs ns) : okE zs ns ∧ okE zs (leftN ns) := by
  obtain ⟨_, h1, h2, h3⟩ := ok
  refine ⟨⟨h1, h2, fun n hn => ?_⟩, h1, by unfold leftN; rw [List.length_map]; exact h2, fun n hn => ?_⟩
  · have := h3 n hn
    omega
  · obtain ⟨m, hm, rfl⟩ := List.mem_map.mp hn
    have := h3 m hm
    show (m - 1).natAbs ≤ 100
    omega
def neZ : D → D
  | .int n => .bool (!(n == 0))
  | _ => .none
def subOne : D → D
  | .int n => .int (n - 1)
  | _ => .none
theorem vfor_run (A : AD) (zs : List Str) (ns : List Int) (G : DG) (ok : okV zs ns) : a_voters_for A m_even (AEof (.ok (.d (vot (votersS zs ns)))) G) [some (.d (txs zs)), some (.d (ins ns)), none, none] G := by
  obtain ⟨oe, ol⟩ := okE_of ok
  obtain ⟨hne, h1, h2, h3⟩ := ok
  cases ns with
  | nil => exact absurd rfl hne
  | cons n r =>
    unfold a_voters_for
    refine sq_if (k := PyData.eqv (.int (n.fmod 2)) (.int 0)) (et_val (ev_bin (x := .d (.int (n.fmod 2))) (y := .d (.int 0)) (ev_bin (x := .d (.int n)) (y := .d (.int 2)) ?_ rfl rfl) rfl (fEq_d rfl rfl))) (fun h => ?_) fun h => ?_
    · show mo ((atI ((n :: r).map PyData.int) 0).map DV.d) = _
      have q : atI ((n :: r).map PyData.int) ((0 : Nat) : Int) = some (.int n) := atI_nat rfl
      have q : atI ((n :: r).map PyData.int) 0 = some (.int n) := q
      rw [q]
      rfl
    · rw [eqv_int] at h
      have h : n.fmod 2 = 0 := by simpa using h
      refine sq_ret (x := .d (vot (evenS zs (n :: r)))) ?_ ⟨?_, rfl⟩
      · rw [ev_call (ev_2 (x := .d (txs zs)) (y := .d (ins (n :: r))) rfl rfl) rfl, even_is oe]
      · show Rs.ok (DV.d (vot (votersS zs (n :: r)))) = _
        rw [votersS_cons, if_pos h]
        rfl
    · rw [eqv_int] at h
      have h : ¬ n.fmod 2 = 0 := by simpa using h
      have hlen : (n :: r).length ≤ 100 := h2
      have hc : cLc (cSeqH (cVar 1)) (gN 3) tYesC (cBin fSub (cVar 3) (cK (.int 1))) [3] [some (.d (txs zs)), some (.d (ins (n :: r))), none, none] = mp (.vl (((n :: r).map PyData.int).map subOne)) := by
        refine cLc_all (ds := (n :: r).map PyData.int) subOne rfl (by rw [List.length_map]; omega) fun d hd => ?_
        obtain ⟨k, _, rfl⟩ := List.mem_map.mp hd
        exact ⟨_, rfl, rfl⟩
      have el : ((n :: r).map PyData.int).map subOne = (leftN (n :: r)).map .int := by
        unfold leftN
        rw [List.map_map, List.map_map]
        rfl
      rw [el] at hc
      refine sq_nx (sq_set (x := .d (ins (leftN (n :: r)))) (ev_nv (ev_app (ev_1 (ev_fz hc)) (fTupOf_l _)) rfl) ?_)
      have ll : ((leftN (n :: r)).map PyData.int).length ≤ 100000 := by
        unfold leftN
        rw [List.length_map, List.length_map]
        omega
      show aRet _ (AEof (.ok (.d (vot (votersS zs (n :: r))))) G) [some (.d (txs zs)), some (.d (ins (n :: r))), some (.d (ins (leftN (n :: r)))), none] G
      have hc2 : cLc (cSeqH (cVar 2)) (gN 3) tYesC (cBin fNe (cVar 3) (cK (.int 0))) [3] [some (.d (txs zs)), some (.d (ins (n :: r))), some (.d (ins (leftN (n :: r)))), none] = mp (.vl (((leftN (n :: r)).map PyData.int).map neZ)) := by
        refine cLc_all (ds := (leftN (n :: r)).map PyData.int) neZ rfl ll fun d hd => ?_
        obtain ⟨k, _, rfl⟩ := List.mem_map.mp hd
        refine ⟨_, rfl, ?_⟩
        refine ev_bin (x := .d (.int k)) (y := .d (.int 0)) rfl rfl ?_
        rw [fNe_d rfl rfl, eqv_int]
        rfl
      have en : ((leftN (n :: r)).map PyData.int).map neZ = ((leftN (n :: r)).map fun k => !(k == 0)).map .bool := by
        rw [List.map_map, List.map_map]
        rfl
      rw [en] at hc2
      have ht : cTest (cApp fAny (cCons (cFz (cLc (cSeqH (cVar 2)) (gN 3) tYesC (cBin fNe (cVar 3) (cK (.int 0))) [3])) cNil)) [some (.d (txs zs)), some (.d (ins (n :: r))), some (.d (ins (leftN (n :: r)))), none] = mp ((leftN (n :: r)).any fun k => !(k == 0)) := by
        refine et_val (ev_app (ev_1 (ev_fz hc2)) ?_)
        rw [show frz (.vl (((leftN (n :: r)).map fun k => !(k == 0)).map PyData.bool)) = .d (.list (((leftN (n :: r)).map fun k => !(k == 0)).map .bool)) from rfl, fAny_l, List.any_map]
        rfl
      refine aRet_is (x := .d (vot (votersS zs (n :: r)))) ?_ ⟨rfl, rfl⟩
      rw [votersS_cons, if_neg h]
      cases hb : (leftN (n :: r)).any fun k => !(k == 0) with
      | true =>
        rw [hb] at ht
        rw [if_pos rfl]
        refine ev_bin (x := .d (.tuple [txs zs])) (y := .d (vot (evenS zs (leftN (n :: r))))) rfl (ev_ifT ht ?_) ?_
        · rw [ev_call (ev_2 (x := .d (txs zs)) (y := .d (ins (leftN (n :: r)))) rfl rfl) rfl, even_is ol]
        · show fAdd (.d (.tuple [txs zs])) (.d (.tuple ((evenS zs (leftN (n :: r))).map txs))) = _
          have := evenS_len ol
          rw [fAdd_t (by rw [List.length_map]; show 1 + _ ≤ _; omega)]
          rfl
      | false =>
        rw [hb] at ht
        rw [if_neg Bool.false_ne_true]
        exact ev_bin (x := .d (.tuple [txs zs])) (y := .d (.tuple [])) rfl (ev_ifF ht rfl) rfl
theorem spec_vfor (A : AD) (xs : List DV) (G : DG) (r : Rs DV) (G' : DG) (e : m_vfor xs G = some (r, G')) : a_voters_for A m_even (AEof r G') (xs.map some ++ List.replicate (4 - xs.length) none) G := by
  obtain ⟨t, u, rfl, e1⟩ := on2_inv e
  obtain ⟨zs, rfl, e2⟩ := onTS_inv e1
  obtain ⟨ns, rfl, e3⟩ := onNs_inv e2
  obtain ⟨ok, e4⟩ := gd_of e3
  cases e4
  exact vfor_run A zs ns G ok
theorem vfor_is {zs : List Str} {ns : List Int} (ok : okV zs ns) : m_vfor [.d (txs zs), .d (ins ns)] = mp (.d (vot (votersS zs ns))) := by
  show onTS (.d (txs zs)) (fun zs => onNs (.d (ins ns)) fun ns => gd (okV zs ns) (mp (DV.d (vot (votersS zs ns))))) = _
  rw [onTS_is, onNs_is, gd_yes ok]
/-! ### duel_voters -/
def duelS (zs : List Str) (ns : List Int) (odd : Bool) : D := if odd = true ∧ 0 ∈ ns then .none else vot (votersS zs (ns.map fun s => if odd = true then s else 2 * s))
def okD (zs : List Str) (ns : List Int) : Prop := ns ≠ [] ∧ zs.length ≤ 10 ∧ ns.length ≤ 100 ∧ ∀ n ∈ ns, n.natAbs ≤ 25
instance (zs : List Str) (ns : List Int) : Decidable (okD zs ns) := by unfold okD; infer_instance
def bad (x : Str) : M DV := me ⟨x, []⟩
def m_duel (xs : List DV) : M DV := on2 xs fun t o => mb (m_is_duels [t]) fun b => onB b fun k => if k = true then onD o fun d => match d with
    | .bool odd => onTab t fun _ zs ds => onNs (.d (.tuple ds)) fun ns => gd (okD zs ns) (mp (.d (duelS zs ns odd)))
    | .none => bad "BadOdd"
    | .int _ => bad "BadOdd"
    | .str _ => bad "BadOdd"
    | .tuple _ => bad "BadOdd"
    | .list _ => bad "BadOdd"
    | .dict _ => mz
  else match o with
    | .d _ => bad "BadDuels"
    | _ => mz
theorem tableB_ns {nm nm2 : Str} {zs : List Str} {ns : List D} (h : tableB nm nm2 zs ns = true) : nm = nm2 ∧ areB zs = true ∧ 2 ≤ zs.length ∧ zs.length ≤ 5 ∧ ns.length = (pairsS zs).length ∧ ∀ d ∈ ns, okN d = true := by
  unfold tableB at h
  simp only [Bool.and_eq_true, decide_eq_true_eq, List.all_eq_true] at h
  obtain ⟨⟨h1, h2, h3, h4⟩, h5, h6⟩ := h
  exact ⟨h1, h2, by omega, by omega, h5, h6⟩
def times (odd : Bool) : D → D
  | .int s => .int (if odd = true then s else 2 * s)
  | _ => .none
theorem plain_ints : ∀ ns : List Int, plainAll (ns.map .int) = true
  | [] => rfl
  | _ :: r => plain_ints r
theorem eqOk_ints (ns : List Int) : eqOk (.list (ns.map .int)) = true := by
  show (plainAll (ns.map .int) && decide (PyData.depth (.list (ns.map .int)) ≤ 64)) = true
  rw [plain_ints, Bool.true_and]
  refine decide_eq_true ?_
  have h := (lay_ints ns).2
  simp only [PyData.depth]
  omega
theorem duel_run (A : AD) (nm : Str) (zs : List Str) (ns : List Int) (odd : Bool) (G : DG) (hT : m_is_duels [.d (.tuple [.str nm, txs zs, ins ns])] = mp (.d (.bool true))) (ok : okD zs ns) :
    a_duel_voters A m_is_duels m_vfor (AEof (.ok (.d (duelS zs ns odd))) G) [some (.d (.tuple [.str nm, txs zs, ins ns])), some (.d (.bool odd)), none] G := by
  obtain ⟨hne, h1, h2, h3⟩ := ok
  have v1 : cBin fIx (cVar 0) (cK (.int 1)) [some (.d (.tuple [.str nm, txs zs, ins ns])), some (.d (.bool odd)), none] = mp (.d (txs zs)) := rfl
  have v2 : cBin fIx (cVar 0) (cK (.int 2)) [some (.d (.tuple [.str nm, txs zs, ins ns])), some (.d (.bool odd)), none] = mp (.d (ins ns)) := rfl
  unfold a_duel_voters
  refine sq_if (k := !true) (et_not (et_val ?_)) (fun h => nomatch h) fun _ => sq_nx (sq_if (k := !true) (et_not (et_val rfl)) (fun h => nomatch h) fun _ => sq_nx (sq_if (k := odd && (ns.map PyData.int).any fun z => PyData.eqv z (.int 0)) (et_and (et_val rfl) fun _ => et_val (ev_bin (x := .d (.int 0)) rfl v2 ?_)) (fun h => ?_) fun h => ?_))
  · rw [ev_call (ev_1 (x := .d (.tuple [.str nm, txs zs, ins ns])) rfl) rfl, hT]
  · show onQ (.d (ins ns)) (fun ds => mb (mo (some (PyData.int 0))) fun d => gd (eqOk d = true ∧ eqOk (.list ds) = true) (mp (DV.d (.bool (ds.any fun z => PyData.eqv z d))))) = _
    show mb (mo (some (PyData.int 0))) (fun d => gd (eqOk d = true ∧ eqOk (.list (ns.map .int)) = true) (mp (DV.d (.bool ((ns.map PyData.int).any fun z => PyData.eqv z d))))) = _
    have ok2 : eqOk (.list (ns.map .int)) = true := eqOk_ints ns
    rw [mo_some, mb_mp, gd_yes ⟨rfl, ok2⟩]
  · have hz : odd = true ∧ 0 ∈ ns := by
      rw [Bool.and_eq_true] at h
      refine ⟨h.1, ?_⟩
      obtain ⟨d, hd, e⟩ := List.any_eq_true.mp h.2
      obtain ⟨n, hn, rfl⟩ := List.mem_map.mp hd
      rw [eqv_int] at e
      have e : n = 0 := by simpa using e
      rw [← e]
      exact hn
    refine sq_ret (x := .d .none) rfl ⟨?_, rfl⟩
    unfold duelS
    rw [if_pos hz]
    rfl
  · have hz : ¬ (odd = true ∧ 0 ∈ ns) := fun q => by
      obtain ⟨rfl, q⟩ := q
      have z : ((ns.map PyData.int).any fun z => PyData.eqv z (.int 0)) = true := List.any_eq_true.mpr ⟨.int 0, List.mem_map.mpr ⟨0, q, rfl⟩, by rw [eqv_int]; rfl⟩
      rw [z] at h
      cases h
    have hc : cLc (cSeqH (cBin fIx (cVar 0) (cK (.int 2)))) (gN 2) tYesC (cIf (cTest (cVar 1)) (cVar 2) (cBin fMul (cK (.int 2)) (cVar 2))) [2] [some (.d (.tuple [.str nm, txs zs, ins ns])), some (.d (.bool odd)), none] = mp (.vl ((ns.map PyData.int).map (times odd))) := by
      refine cLc_all (ds := ns.map PyData.int) (times odd) (ev_seqH v2 rfl) (by rw [List.length_map]; omega) fun d hd => ?_
      obtain ⟨n, hn, rfl⟩ := List.mem_map.mp hd
      refine ⟨_, rfl, ?_⟩
      cases odd with
      | true => exact ev_ifT rfl rfl
      | false =>
        refine ev_ifF rfl (ev_bin (x := .d (.int 2)) (y := .d (.int n)) rfl rfl ?_)
        show mo ((if (-(2 ^ 64) < (2 : Int) ∧ (2 : Int) < 2 ^ 64) ∨ (-(2 ^ 64) < n ∧ n < 2 ^ 64) then some (PyData.int (2 * n)) else none).map DV.d) = _
        rw [if_pos (Or.inl (by decide))]
        rfl
    have et : (ns.map PyData.int).map (times odd) = (ns.map fun s => if odd = true then s else 2 * s).map .int := by
      rw [List.map_map, List.map_map]
      rfl
    rw [et] at hc
    have okv : okV zs (ns.map fun s => if odd = true then s else 2 * s) := by
      refine ⟨fun q => hne (List.map_eq_nil_iff.mp q), h1, by rw [List.length_map]; exact h2, fun n hn => ?_⟩
      obtain ⟨m, hm, rfl⟩ := List.mem_map.mp hn
      have := h3 m hm
      cases odd with
      | true =>
        show m.natAbs ≤ 50
        omega
      | false =>
        show (2 * m).natAbs ≤ 50
        omega
    refine sq_nx ?_
    refine aRet_is (x := .d (duelS zs ns odd)) ?_ ⟨rfl, rfl⟩
    rw [ev_call (ev_2 (x := .d (txs zs)) (y := .d (ins (ns.map fun s => if odd = true then s else 2 * s))) v1 (ev_app (ev_1 (ev_fz hc)) (fTupOf_l _))) rfl, vfor_is okv]
    unfold duelS
    rw [if_neg hz]
theorem duel_bad (A : AD) (d e : D) (G : DG) (hT : m_is_duels [.d d] = mp (.d (.bool false))) : a_duel_voters A m_is_duels m_vfor (AEof (.er ⟨"BadDuels", []⟩) G) [some (.d d), some (.d e), none] G := by
  unfold a_duel_voters
  refine sq_if (k := !false) (et_not (et_val ?_)) (fun _ => sq_raise ⟨rfl, rfl⟩) fun h => nomatch h
  rw [ev_call (ev_1 (x := .d d) rfl) rfl, hT]
theorem duel_odd (A : AD) (d e : D) (G : DG) (hT : m_is_duels [.d d] = mp (.d (.bool true))) (he : isiD "bool" e = false) : a_duel_voters A m_is_duels m_vfor (AEof (.er ⟨"BadOdd", []⟩) G) [some (.d d), some (.d e), none] G := by
  unfold a_duel_voters
  refine sq_if (k := !true) (et_not (et_val ?_)) (fun h => nomatch h) fun _ => sq_nx (sq_if (k := !isiD "bool" e) (et_not (et_val rfl)) (fun _ => sq_raise ⟨rfl, rfl⟩) fun h => ?_)
  · rw [ev_call (ev_1 (x := .d d) rfl) rfl, hT]
  · rw [he] at h
    cases h
theorem spec_duel (A : AD) (xs : List DV) (G : DG) (r : Rs DV) (G' : DG) (e : m_duel xs G = some (r, G')) : a_duel_voters A m_is_duels m_vfor (AEof r G') (xs.map some ++ List.replicate (3 - xs.length) none) G := by
  obtain ⟨t, o, rfl, e1⟩ := on2_inv e
  have shape : ∃ d b, t = .d d ∧ m_is_duels [t] = mp (.d (.bool b)) := by
    rcases mb_cases e1 with ⟨x, h, _⟩ | ⟨x, G1, h, _⟩
    all_goals
      obtain ⟨v, ev, h1⟩ := on1_inv h
      cases ev
      obtain ⟨d, rfl, h2⟩ := onD_inv h1
      cases d with
      | none => exact ⟨_, false, rfl, rfl⟩
      | tuple ds =>
        obtain ⟨nm, zs, ns, ex, q1, q2, q3, _⟩ := onTab_inv h2
        cases ex
        exact ⟨_, _, rfl, duels_is q1 q2 q3⟩
      | bool => cases h2
      | int => cases h2
      | str => cases h2
      | list => cases h2
      | dict => cases h2
  obtain ⟨d, b, rfl, hT⟩ := shape
  rw [hT, mb_mp] at e1
  cases b with
  | false =>
    cases o with
    | d o =>
      cases e1
      exact duel_bad A d o G hT
    | vl => cases e1
    | sc => cases e1
    | dr => cases e1
    | fn => cases e1
    | ex => cases e1
  | true =>
    obtain ⟨o, rfl, e2⟩ := onD_inv (show onD o _ G = some (r, G') from e1)
    cases o with
    | bool odd =>
      obtain ⟨nm, zs, ds, ex, q1, q2, q3, e3⟩ := onTab_inv e2
      cases ex
      obtain ⟨ns, en, e4⟩ := onNs_inv e3
      cases en
      obtain ⟨ok, e5⟩ := gd_of e4
      cases e5
      exact duel_run A nm zs ns odd G hT ok
    | none =>
      cases e2
      exact duel_odd A d _ G hT rfl
    | int =>
      cases e2
      exact duel_odd A d _ G hT rfl
    | str =>
      cases e2
      exact duel_odd A d _ G hT rfl
    | tuple =>
      cases e2
      exact duel_odd A d _ G hT rfl
    | list =>
      cases e2
      exact duel_odd A d _ G hT rfl
    | dict => cases e2
end K66

namespace K66
open PySem PySem.Spec PyProof.Rows L2 LamX DL
/-! ### is_truth -/
theorem onB_inv {β : Type} {x : DV} {G : DG} {r : Rs β × DG} {k : Bool → M β} (e : onB x k G = some r) : ∃ b, x = .d (.bool b) ∧ k b G = some r := by
  cases x with
  | d d =>
    cases d with
    | bool b => exact ⟨b, rfl, e⟩
    | none => cases e
    | int => cases e
    | str => cases e
    | list => cases e
    | tuple => cases e
    | dict => cases e
  | vl => cases e
  | sc => cases e
  | dr => cases e
  | fn => cases e
  | ex => cases e
def m_truth (xs : List DV) : M DV := on2 xs fun x y => onB x fun j => onB y fun k => mp (.d (.bool (j == k)))
theorem spec_truth (A : AD) (xs : List DV) (G : DG) (r : Rs DV) (G' : DG) (e : m_truth xs G = some (r, G')) : a_l_is_truth A (AEof r G') (xs.map some ++ List.replicate (2 - xs.length) none) G := by
  obtain ⟨x, y, rfl, e1⟩ := on2_inv e
  obtain ⟨j, rfl, e2⟩ := onB_inv e1
  obtain ⟨k, rfl, e3⟩ := onB_inv e2
  cases e3
  cases j <;> cases k <;> exact ⟨rfl, rfl⟩
/-! ### same -/
section
variable {A : AE} {S S' : SS} {G : DG}
theorem as_pop {i : Nat} {g : D → SS → Option SS} {w : List D} {p : D} (hS : S[i]? = some (some (.vl (w ++ [p])))) (hg : g p (S.set i (some (.vl w))) = some S') (h : A.nx S' G) : aPopTo i g A S G := by
  unfold aPopTo onOwn
  rw [hS]
  refine ⟨p, S', ?_, ?_, h⟩
  · rw [List.length_append, show w.length + [p].length - 1 = w.length from rfl, List.getElem?_concat_length]
  · rw [List.dropLast_concat]
    exact hg
theorem sq_pop {q : TSa} {i : Nat} {g : D → SS → Option SS} {w : List D} {p : D} (hS : S[i]? = some (some (.vl (w ++ [p])))) (hg : g p (S.set i (some (.vl w))) = some S') (h : q A S' G) : aSeq (aPopTo i g) q A S G := as_pop (A := { A with nx := q A }) hS hg h
end
def tSame : SS → M Bool := cTest (cBin fNe (cVar 2) (cApp fLst cNil))
def bSame (m_l_is_truth : List DV → M DV) : TSa := ((aSeq (aPopTo 2 (gTp 2 (gsCons (gN 3) (gsCons (gN 4) gsNil))))
    (aIf (cOrT (cTest (cBin fIs (cVar 4) (cK .none))) (cTest (cUn (isiOf "bool") (cVar 4)))) ((aIf (cIfT (cTest (cBin fIs (cVar 4) (cK .none))) (cTest (cBin fIsnt (cVar 3) (cK .none))) (cNotT (cTest (cCall m_l_is_truth (cCons (cVar 3) (cCons (cVar 4) cNil)))))) ((aRet (cK (.bool false)))) (aNext))) ((aIf (cTest (cUn (isiOf2 "int" "str") (cVar 4))) ((aIf (cOrT (cTest (cUn (isiOf "bool") (cVar 3))) (cOrT (cTest (cBin fNe (cUn (isiOf "int") (cVar 3)) (cUn (isiOf "int") (cVar 4)))) (cTest (cBin fNe (cVar 3) (cVar 4))))) ((aRet (cK (.bool false)))) (aNext))) ((aIf (cTest (cUn (isiOf "dict") (cVar 4))) (aNever) ((aSeq (aSet 5 (cNv (cApp fLst (cCons (cAnd (cUn (isiOf "tuple") (cVar 3)) (cUn (isiOf "tuple") (cVar 4))) (cCons (cAnd (cUn (isiOf "list") (cVar 3)) (cUn (isiOf "list") (cVar 4))) cNil)))))
    (aSeq (aIf (cOrT (cTest (cBin fNotIn (cK (.bool true)) (cVar 5))) (cTest (cBin fNe (cApp fLen (cCons (cVar 3) cNil)) (cApp fLen (cCons (cVar 4) cNil))))) ((aRet (cK (.bool false)))) (aNext))
    (aExtend 2 (cLc (cItr fZip (cCons (cVar 3) (cCons (cVar 4) cNil))) (gTp 2 (gsCons (gN 7) (gsCons (gN 8) gsNil))) tYesC (cApp fTup (cCons (cVar 7) (cCons (cVar 8) cNil))) [7, 8]))))))))))))
theorem eqv_strR (z : Str) : PyData.eqv (.str z) (.str z) = true := by simp [PyData.eqv]
theorem eqv_intR (z : Int) : PyData.eqv (.int z) (.int z) = true := by simp [PyData.eqv]
abbrev twin (d : D) : D := .tuple [d, d]
theorem same_none {A : AE} {G : DG} {f d : Option DV} {w : List D} {x3 x4 x5 x6 x7 x8 : Option DV} (h : ∀ y3 y4 y5 y7 y8, A.nx [f, d, some (.vl w), y3, y4, y5, x6, y7, y8] G) : bSame m_truth A [f, d, some (.vl (w ++ [twin .none])), x3, x4, x5, x6, x7, x8] G := by
  unfold bSame
  refine sq_pop (w := w) (p := twin .none) rfl rfl ?_
  refine as_if (k := true) rfl (fun _ => ?_) fun h => nomatch h
  exact as_if (k := false) rfl (fun h => nomatch h) fun _ => h _ _ _ _ _
theorem same_str {A : AE} {G : DG} {f d : Option DV} {w : List D} {z : Str} {x3 x4 x5 x6 x7 x8 : Option DV} (h : ∀ y3 y4 y5 y7 y8, A.nx [f, d, some (.vl w), y3, y4, y5, x6, y7, y8] G) : bSame m_truth A [f, d, some (.vl (w ++ [twin (.str z)])), x3, x4, x5, x6, x7, x8] G := by
  unfold bSame
  refine sq_pop (w := w) (p := twin (.str z)) rfl rfl ?_
  refine as_if (k := false) rfl (fun h => nomatch h) fun _ => ?_
  refine as_if (k := true) rfl (fun _ => ?_) fun h => nomatch h
  refine as_if (k := false) ?_ (fun h => nomatch h) fun _ => h _ _ _ _ _
  refine et_or (k := false) (j := false) rfl fun _ => et_or (k := false) (j := false) (et_val (ev_bin rfl rfl (fNe_d (x := .bool false) (y := .bool false) rfl rfl))) fun _ => et_val (ev_bin rfl rfl ?_)
  rw [fNe_d rfl rfl, eqv_strR]
  rfl
theorem same_tup {A : AE} {G : DG} {f d : Option DV} {w ds : List D} {x3 x4 x5 x6 x7 x8 : Option DV} (hl : w.length + ds.length ≤ 100000) (h : ∀ y3 y4 y5 y7 y8, A.nx [f, d, some (.vl (w ++ ds.map twin)), y3, y4, y5, x6, y7, y8] G) : bSame m_truth A [f, d, some (.vl (w ++ [twin (.tuple ds)])), x3, x4, x5, x6, x7, x8] G := by
  unfold bSame
  refine sq_pop (w := w) (p := twin (.tuple ds)) rfl rfl ?_
  refine as_if (k := false) rfl (fun h => nomatch h) fun _ => ?_
  refine as_if (k := false) rfl (fun h => nomatch h) fun _ => ?_
  refine as_if (k := false) rfl (fun h => nomatch h) fun _ => ?_
  refine sq_set (x := .d (.list [.bool true, .bool false])) rfl ?_
  have ln : fLen [.d (.tuple ds)] = mp (.d (.int (ds.length : Int))) := rfl
  refine sq_if (k := false) ?_ (fun h => nomatch h) fun _ => ?_
  · refine et_or (k := false) (j := false) (by rfl) fun _ => et_val (ev_bin (ev_app rfl ln) (ev_app rfl ln) ?_)
    rw [fNe_d rfl rfl, eqv_intR]
    rfl
  refine sq_nx ?_
  have hz : zipDs ds ds = ds.map twin := by
    unfold zipDs
    rw [List.zipWith_self]
  refine as_ext (xs := w) (ds := ds.map twin) rfl ?_ (by rw [List.length_map]; exact hl) (h _ _ _ _ _)
  have q := cLc_all (ci := cItr fZip (cCons (cVar 3) (cCons (cVar 4) cNil))) (g := gTp 2 (gsCons (gN 7) (gsCons (gN 8) gsNil))) (ce := cApp fTup (cCons (cVar 7) (cCons (cVar 8) cNil))) (vs := [7, 8]) (S := [f, d, some (.vl w), some (.d (.tuple ds)), some (.d (.tuple ds)), some (.d (.list [.bool true, .bool false])), x6, x7, x8]) (ds := ds.map twin) id (ev_itr (ev_2 rfl rfl) (by rw [← hz]; rfl)) (by rw [List.length_map]; omega) fun e he => by
    obtain ⟨a, _, rfl⟩ := List.mem_map.mp he
    exact ⟨_, rfl, rfl⟩
  rw [List.map_id] at q
  exact q
theorem plainAll_of : ∀ ds : List D, (∀ d ∈ ds, plain d = true) → plainAll ds = true
  | [], _ => rfl
  | d :: r, h => Bool.and_eq_true_iff.mpr ⟨h d (List.mem_cons_self ..), plainAll_of r fun e he => h e (List.mem_cons_of_mem _ he)⟩
theorem depthAll_of {k : Nat} : ∀ ds : List D, (∀ d ∈ ds, PyData.depth d ≤ k) → PyData.depthAll ds ≤ k
  | [], _ => by simp [PyData.depthAll]
  | d :: r, h => by
    have h1 := h d (List.mem_cons_self ..)
    have h2 := depthAll_of r fun e he => h e (List.mem_cons_of_mem _ he)
    simp only [PyData.depthAll]
    omega
def low (d : D) : Prop := plain d = true ∧ PyData.depth d ≤ 10
theorem eqOk_low {ds : List D} (h : ∀ d ∈ ds, low d) : eqOk (.list ds) = true := by
  show (plainAll ds && decide (PyData.depth (.list ds) ≤ 64)) = true
  rw [plainAll_of ds fun d hd => (h d hd).1, Bool.true_and]
  have := depthAll_of ds fun d hd => (h d hd).2
  refine decide_eq_true ?_
  simp only [PyData.depth]
  omega
theorem low_str (z : Str) : low (twin (.str z)) := ⟨rfl, by simp [PyData.depth, PyData.depthAll]⟩
theorem low_txs (v : List Str) : low (twin (txs v)) := by
  refine ⟨?_, ?_⟩
  · show (plainAll (v.map .str) && (plainAll (v.map .str) && true)) = true
    rw [plain_strs]
    rfl
  · simp [PyData.depth, PyData.depthAll, depth_strs]
theorem vot_low (vs : List (List Str)) : plain (vot vs) = true ∧ PyData.depth (vot vs) ≤ 5 := by
  refine ⟨plainAll_of _ fun d hd => ?_, ?_⟩
  · obtain ⟨v, _, rfl⟩ := List.mem_map.mp hd
    exact plain_strs v
  · have q : PyData.depthAll (vs.map txs) ≤ 1 := depthAll_of _ fun d hd => by
      obtain ⟨v, _, rfl⟩ := List.mem_map.mp hd
      simp [PyData.depth, depth_strs]
    unfold vot
    simp only [PyData.depth]
    omega
theorem low_vot (vs : List (List Str)) : low (twin (vot vs)) := by
  obtain ⟨h1, h2⟩ := vot_low vs
  refine ⟨?_, ?_⟩
  · show (plain (vot vs) && (plain (vot vs) && true)) = true
    rw [h1]
    rfl
  · simp only [PyData.depth, PyData.depthAll]
    omega
theorem test_more {w : List D} {p : D} {S : SS} (hS : S[2]? = some (some (.vl (w ++ [p])))) (h : ∀ d ∈ w ++ [p], low d) : tSame S = mp true := by
  have e : PyData.eqv (.list (w ++ [p])) (.list []) = false := by cases w <;> simp [PyData.eqv, PyData.eqvAll]
  refine et_val (ev_bin (x := .vl (w ++ [p])) (y := .d (.list [])) (cVar_of hS) rfl ?_)
  show gd (eqOk (.list (w ++ [p])) = true ∧ eqOk (.list []) = true) (mp (DV.d (.bool (!PyData.eqv (.list (w ++ [p])) (.list []))))) = _
  rw [gd_yes ⟨eqOk_low h, rfl⟩, e]
  rfl
abbrev sl8 (f d : Option DV) (w : List D) (x3 x4 x5 x6 x7 x8 : Option DV) : SS := [f, d, some (.vl w), x3, x4, x5, x6, x7, x8]
def Goes (A : AE) (G : DG) (f d : Option DV) (x6 : Option DV) (w : List D) : Prop := ∃ n, ∀ x3 x4 x5 x7 x8, aWhN tSame (bSame m_truth) n A (sl8 f d w x3 x4 x5 x6 x7 x8) G
theorem goes_none {A : AE} {G : DG} {f d x6 : Option DV} {w : List D} (hw : ∀ d ∈ w, low d) (h : Goes A G f d x6 w) : Goes A G f d x6 (w ++ [twin .none]) := by
  obtain ⟨n, h⟩ := h
  refine ⟨n + 1, fun x3 x4 x5 x7 x8 => ?_⟩
  refine aEv_is (x := true) (test_more rfl fun e he => ?_) (same_none (A := { A with nx := aWhN tSame (bSame m_truth) n A, ct := aWhN tSame (bSame m_truth) n A, bk := A.nx }) fun y3 y4 y5 y7 y8 => h y3 y4 y5 y7 y8)
  rcases List.mem_append.mp he with h1 | h1
  · exact hw e h1
  · rw [List.mem_singleton.mp h1]
    exact ⟨rfl, by simp [PyData.depth, PyData.depthAll]⟩
theorem goes_str {A : AE} {G : DG} {f d x6 : Option DV} {w : List D} {z : Str} (hw : ∀ d ∈ w, low d) (h : Goes A G f d x6 w) : Goes A G f d x6 (w ++ [twin (.str z)]) := by
  obtain ⟨n, h⟩ := h
  refine ⟨n + 1, fun x3 x4 x5 x7 x8 => ?_⟩
  refine aEv_is (x := true) (test_more rfl fun e he => ?_) (same_str (A := { A with nx := aWhN tSame (bSame m_truth) n A, ct := aWhN tSame (bSame m_truth) n A, bk := A.nx }) fun y3 y4 y5 y7 y8 => h y3 y4 y5 y7 y8)
  rcases List.mem_append.mp he with h1 | h1
  · exact hw e h1
  · rw [List.mem_singleton.mp h1]
    exact low_str z
theorem goes_tup {A : AE} {G : DG} {f d x6 : Option DV} {w ds : List D} (hw : ∀ d ∈ w, low d) (ht : low (twin (.tuple ds))) (hl : w.length + ds.length ≤ 100000) (h : Goes A G f d x6 (w ++ ds.map twin)) : Goes A G f d x6 (w ++ [twin (.tuple ds)]) := by
  obtain ⟨n, h⟩ := h
  refine ⟨n + 1, fun x3 x4 x5 x7 x8 => ?_⟩
  refine aEv_is (x := true) (test_more rfl fun e he => ?_) (same_tup (A := { A with nx := aWhN tSame (bSame m_truth) n A, ct := aWhN tSame (bSame m_truth) n A, bk := A.nx }) hl fun y3 y4 y5 y7 y8 => h y3 y4 y5 y7 y8)
  rcases List.mem_append.mp he with h1 | h1
  · exact hw e h1
  · rw [List.mem_singleton.mp h1]
    exact ht
theorem test_none {S : SS} (hS : S[2]? = some (some (.vl []))) : tSame S = mp false := by
  refine et_val (ev_bin (x := .vl []) (y := .d (.list [])) (cVar_of hS) rfl ?_)
  show gd (eqOk (.list []) = true ∧ eqOk (.list []) = true) (mp (DV.d (.bool (!PyData.eqv (.list []) (.list []))))) = _
  rw [gd_yes ⟨rfl, rfl⟩]
  simp [PyData.eqv, PyData.eqvAll]
theorem whN_off {A : AE} {t : SS → M Bool} {b : TSa} {n : Nat} {S : SS} {G : DG} (ht : t S = mp false) (h : A.nx S G) : aWhN t b (n + 1) A S G := aEv_is (x := false) ht h
theorem goes_nil {A : AE} {G : DG} {f d x6 : Option DV} (h : ∀ x3 x4 x5 x7 x8, A.nx (sl8 f d [] x3 x4 x5 x6 x7 x8) G) : Goes A G f d x6 [] := ⟨0 + 1, fun x3 x4 x5 x7 x8 => whN_off (test_none rfl) (h x3 x4 x5 x7 x8)⟩
theorem goes_strs {A : AE} {G : DG} {f d x6 : Option DV} {w : List D} (hw : ∀ d ∈ w, low d) (h : Goes A G f d x6 w) : ∀ zs : List Str, Goes A G f d x6 (w ++ (zs.reverse.map .str).map twin)
  | [] => by
    rw [List.reverse_nil, List.map_nil, List.map_nil, List.append_nil]
    exact h
  | z :: r => by
    rw [List.reverse_cons, List.map_append, List.map_append, ← List.append_assoc]
    refine goes_str (fun e he => ?_) (goes_strs hw h r)
    rcases List.mem_append.mp he with h1 | h1
    · exact hw e h1
    · obtain ⟨_, h2, rfl⟩ := List.mem_map.mp h1
      obtain ⟨z, _, rfl⟩ := List.mem_map.mp h2
      exact low_str z
theorem goes_vot {A : AE} {G : DG} {f d x6 : Option DV} (h : Goes A G f d x6 []) : ∀ vs : List (List Str), vs.length ≤ 50000 → (∀ v ∈ vs, v.length ≤ 50000) → Goes A G f d x6 ((vs.reverse.map txs).map twin)
  | [], _, _ => h
  | v :: r, h1, h2 => by
    rw [List.reverse_cons, List.map_append, List.map_append]
    have lw : ∀ d ∈ (r.reverse.map txs).map twin, low d := fun e he => by
      obtain ⟨_, h2, rfl⟩ := List.mem_map.mp he
      obtain ⟨z, _, rfl⟩ := List.mem_map.mp h2
      exact low_txs z
    have lv := h2 v (List.mem_cons_self ..)
    rw [List.length_cons] at h1
    refine goes_tup (ds := v.map .str) lw (low_txs v) ?_ ?_
    · rw [List.length_map, List.length_map, List.length_map, List.length_reverse]
      omega
    · have q := goes_strs lw (goes_vot h r (by omega) fun u hu => h2 u (List.mem_cons_of_mem _ hu)) v.reverse
      rw [List.reverse_reverse] at q
      exact q
def sameD (a : D) : Prop := a = .none ∨ ∃ vs : List (List Str), a = vot vs ∧ vs.length ≤ 50000 ∧ ∀ v ∈ vs, v.length ≤ 50000
open Classical in
noncomputable def m_same (xs : List DV) : M DV := on2 xs fun x y => onD x fun a => onD y fun b => gd (a = b ∧ sameD a) (mp (.d (.bool true)))
theorem same_is {a : D} (h : sameD a) : m_same [.d a, .d a] = mp (.d (.bool true)) := by
  classical
  exact gd_yes ⟨rfl, h⟩
theorem spec_same (A : AD) (xs : List DV) (G : DG) (r : Rs DV) (G' : DG) (e : m_same xs G = some (r, G')) : a_l_same A m_truth (AEof r G') (xs.map some ++ List.replicate (9 - xs.length) none) G := by
  classical
  obtain ⟨x, y, rfl, e1⟩ := on2_inv e
  obtain ⟨a, rfl, e2⟩ := onD_inv e1
  obtain ⟨b, rfl, e3⟩ := onD_inv e2
  obtain ⟨⟨rfl, ok⟩, e4⟩ := gd_of e3
  cases e4
  show a_l_same A m_truth _ [some (.d a), some (.d a), none, none, none, none, none, none, none] G
  unfold a_l_same
  refine sq_set (x := .vl [twin a]) rfl ?_
  have fin : Goes { AEof (.ok (.d (.bool true))) G with nx := aRet (cK (.bool true)) (AEof (.ok (.d (.bool true))) G) } G (some (.d a)) (some (.d a)) none [] := goes_nil fun _ _ _ _ _ => ⟨rfl, rfl⟩
  have go : Goes { AEof (.ok (.d (.bool true))) G with nx := aRet (cK (.bool true)) (AEof (.ok (.d (.bool true))) G) } G (some (.d a)) (some (.d a)) none ([] ++ [twin a]) := by
    rcases ok with rfl | ⟨vs, rfl, h1, h2⟩
    · exact goes_none (fun _ h => nomatch h) fin
    · refine goes_tup (fun _ h => nomatch h) (low_vot vs) ?_ ?_
      · rw [List.length_map, List.length_nil]
        omega
      · have q := goes_vot fin vs.reverse (by rw [List.length_reverse]; exact h1) fun v hv => h2 v (List.mem_reverse.mp hv)
        rw [List.reverse_reverse] at q
        exact q
  obtain ⟨n, go⟩ := go
  exact ⟨n, go none none none none none⟩
end K66

namespace K66
open PySem PySem.Spec PyProof.Rows L2 LamX DL
/-! ### the law's is_word -/
def outB : D → Bool
  | .str w => !(sign1 w).any fun c => decide (c ∈ ABC.cps.toList)
  | _ => false
theorem signs_out (z : Str) : ((DL.signs z).filter outB).isEmpty = z.cps.toList.all fun c => decide (c ∈ ABC.cps.toList) := by
  unfold DL.signs
  rw [Bool.eq_iff_iff, List.isEmpty_iff, List.filter_eq_nil_iff, List.all_eq_true]
  constructor
  · intro h c hc
    have q := h _ (List.mem_map_of_mem (f := fun c => PyData.str ⟨#[c]⟩) hc)
    simpa [outB, sign1] using q
  · intro h d hd
    obtain ⟨c, hc, rfl⟩ := List.mem_map.mp hd
    have q := h c hc
    simpa [outB, sign1] using q
def m_lword (xs : List DV) : M DV := on1 xs fun x => onS x fun z => gd (z.length ≤ 100000) (mp (.d (.bool (wordB z))))
theorem lword_is {z : Str} (h : z.length ≤ 100000) : m_lword [.d (.str z)] = mp (.d (.bool (wordB z))) := gd_yes h
theorem spec_lword (A : AD) (xs : List DV) (G : DG) (r : Rs DV) (G' : DG) (e : m_lword xs G = some (r, G')) : a_l_is_word A (AEof r G') (xs.map some ++ List.replicate (2 - xs.length) none) G := by
  obtain ⟨x, rfl, e1⟩ := on1_inv e
  obtain ⟨z, rfl, e2⟩ := onS_inv e1
  obtain ⟨hz, e3⟩ := gd_of e2
  cases e3
  show a_l_is_word A _ [some (.d (.str z)), none] G
  unfold a_l_is_word
  refine sq_if (k := (!true) || !(decide (1 ≤ (z.length : Int)) && decide ((z.length : Int) ≤ 8))) (et_or rfl fun _ => et_not (et_val (ev_chain rfl (ev_app (ev_1 rfl) (fLen_s hz)) rfl fun _ => ⟨rfl, rfl⟩))) (fun h => ?_) fun h => ?_
  · refine sq_ret (x := .d (.bool false)) rfl ⟨?_, rfl⟩
    have q : wordB z = false := by
      unfold wordB
      rw [Bool.not_true, Bool.false_or, Bool.not_eq_true'] at h
      rw [h]
      rfl
    rw [q]
    rfl
  · refine sq_nx ?_
    have hc : cLc (cSeqH (cVar 0)) (gN 1) (cTest (cBin fNotIn (cVar 1) (cK (.str "abcdefghijklmnopqrstuvwxyz")))) (cVar 1) [1] [some (.d (.str z)), none] = mp (.vl (((DL.signs z).filter outB).map id)) := by
      refine cLc_map (ds := DL.signs z) outB id rfl (by rw [signs_len]; exact hz) fun d hd => ?_
      obtain ⟨c, hc, rfl⟩ := List.mem_map.mp hd
      exact ⟨_, rfl, rfl, fun _ => rfl⟩
    rw [List.map_id] at hc
    have lw : ∀ d ∈ (DL.signs z).filter outB, low d := fun d hd => by
      obtain ⟨c, _, rfl⟩ := List.mem_map.mp (List.mem_filter.mp hd).1
      exact ⟨rfl, by simp [PyData.depth]⟩
    refine aRet_is (x := .d (.bool (PyData.eqv (.list ((DL.signs z).filter outB)) (.list [])))) (ev_bin (ev_fz hc) rfl (fEq_d (eqOk_low lw) rfl)) ⟨?_, rfl⟩
    have q : PyData.eqv (.list ((DL.signs z).filter outB)) (.list []) = wordB z := by
      have e1 : PyData.eqv (.list ((DL.signs z).filter outB)) (.list []) = ((DL.signs z).filter outB).isEmpty := by
        cases (DL.signs z).filter outB <;> simp [PyData.eqv, PyData.eqvAll]
      rw [e1, signs_out]
      unfold wordB
      rw [Bool.not_true, Bool.false_or, Bool.not_eq_false'] at h
      rw [h]
      rfl
    rw [q]
    rfl
/-! ### the law's margins -/
def posS (v : List Str) (z : Str) : Nat := v.findIdx fun y => decide (y = z)
def ballot (a b : Str) (v : List Str) : Int := if posS v a < posS v b then 1 else -1
def margS (a b : Str) (vs : List (List Str)) : Int := (vs.map (ballot a b)).sum
def okM (zs : List Str) (vs : List (List Str)) : Prop := zs.length ≤ 10 ∧ vs.length ≤ 10000 ∧ ∀ v ∈ vs, ∀ z ∈ zs, z ∈ v
instance (zs : List Str) (vs : List (List Str)) : Decidable (okM zs vs) := by unfold okM; infer_instance
def toVs : List D → Option (List (List Str))
  | [] => some []
  | .tuple ds :: r => (toSs ds).bind fun v => (toVs r).map (v :: ·)
  | _ :: _ => none
theorem toVs_map : ∀ vs : List (List Str), toVs (vs.map txs) = some vs
  | [] => rfl
  | v :: r => by
    show (toSs (v.map .str)).bind (fun v => (toVs (r.map txs)).map (v :: ·)) = _
    rw [toSs_map, toVs_map r]
    rfl
theorem toVs_eq : ∀ {ds : List D} {vs : List (List Str)}, toVs ds = some vs → ds = vs.map txs
  | [], vs, e => by
    cases e
    rfl
  | d :: r, vs, e => by
    cases d with
    | tuple es =>
      have e : (toSs es).bind (fun v => (toVs r).map (v :: ·)) = some vs := e
      obtain ⟨v, e1, e2⟩ := Option.bind_eq_some_iff.mp e
      obtain ⟨ws, e3, rfl⟩ := Option.map_eq_some_iff.mp e2
      rw [toSs_eq e1, toVs_eq e3]
      rfl
    | none => cases e
    | bool => cases e
    | int => cases e
    | str => cases e
    | list => cases e
    | dict => cases e
def onVs {β : Type} (x : DV) (k : List (List Str) → M β) : M β := onT x fun ds => mb (mo (toVs ds)) k
theorem onVs_inv {β : Type} {x : DV} {G : DG} {r : Rs β} {G' : DG} {k : List (List Str) → M β} (e : onVs x k G = some (r, G')) : ∃ vs, x = .d (vot vs) ∧ k vs G = some (r, G') := by
  obtain ⟨ds, rfl, e⟩ := onT_inv e
  obtain ⟨vs, ez, e⟩ := mb_mo_of e
  rw [toVs_eq ez]
  exact ⟨vs, rfl, e⟩
theorem onVs_is {β : Type} {vs : List (List Str)} {k : List (List Str) → M β} : onVs (.d (vot vs)) k = k vs := by
  show mb (mo (toVs (vs.map txs))) k = _
  rw [toVs_map]
  rfl
def margsS (zs : List Str) (vs : List (List Str)) : List Int := (pairsS zs).map fun p => margS p.1 p.2 vs
def m_marg (xs : List DV) : M DV := on2 xs fun x y => onTS x fun zs => onVs y fun vs => gd (okM zs vs) (mp (.d (ins (margsS zs vs))))
theorem marg_is {zs : List Str} {vs : List (List Str)} (h : okM zs vs) : m_marg [.d (txs zs), .d (vot vs)] = mp (.d (ins (margsS zs vs))) := by
  show onTS (.d (txs zs)) (fun zs => onVs (.d (vot vs)) fun vs => gd (okM zs vs) (mp (DV.d (ins (margsS zs vs))))) = _
  rw [onTS_is, onVs_is, gd_yes h]
theorem idx_in {v : List Str} {z : Str} (h : z ∈ v) : idxS v z = some (posS v z) := by
  unfold idxS posS
  rw [List.findIdx?_eq_some_iff_findIdx_eq]
  refine ⟨List.findIdx_lt_length_of_exists ⟨z, h, decide_eq_true rfl⟩, rfl⟩
theorem tidx_is {v : List Str} {z : Str} (h : z ∈ v) : fTIdx (v.map .str) (.d (.str z)) = mp (.d (.int (posS v z : Nat))) := by
  show mb (mo (toSs (v.map .str))) (fun ys => mb (mo (idxS ys z)) fun j => mp (DV.d (.int (j : Nat)))) = _
  rw [toSs_map]
  show mb (mo (idxS v z)) (fun j => mp (DV.d (.int (j : Nat)))) = _
  rw [idx_in h]
  rfl
def balD (a b : Str) : D → D
  | .tuple ds => .int (((toSs ds).map (ballot a b)).getD 0)
  | _ => .none
theorem balD_map (a b : Str) (vs : List (List Str)) : (vs.map txs).map (balD a b) = (vs.map (ballot a b)).map .int := by
  rw [List.map_map, List.map_map]
  refine List.map_congr_left fun v _ => ?_
  show PyData.int (((toSs (v.map .str)).map (ballot a b)).getD 0) = _
  rw [toSs_map]
  rfl
theorem pairs_mem {α : Type} : ∀ {zs : List α} {p : α × α}, p ∈ pairsS zs → p.1 ∈ zs ∧ p.2 ∈ zs
  | a :: r, p, h => by
    rcases List.mem_append.mp h with h | h
    · obtain ⟨b, hb, rfl⟩ := List.mem_map.mp h
      exact ⟨List.mem_cons_self .., List.mem_cons_of_mem _ hb⟩
    · obtain ⟨h1, h2⟩ := pairs_mem h
      exact ⟨List.mem_cons_of_mem _ h1, List.mem_cons_of_mem _ h2⟩
theorem spec_marg (A : AD) (xs : List DV) (G : DG) (r : Rs DV) (G' : DG) (e : m_marg xs G = some (r, G')) : a_l_tg_margins A m_pairs (AEof r G') (xs.map some ++ List.replicate (6 - xs.length) none) G := by
  obtain ⟨x, y, rfl, e1⟩ := on2_inv e
  obtain ⟨zs, rfl, e2⟩ := onTS_inv e1
  obtain ⟨vs, rfl, e3⟩ := onVs_inv e2
  obtain ⟨⟨hl, hv, hm⟩, e4⟩ := gd_of e3
  cases e4
  show a_l_tg_margins A m_pairs _ [some (.d (txs zs)), some (.d (vot vs)), none, none, none, none] G
  unfold a_l_tg_margins
  have tot : (pairsS zs).length ≤ 100 := Nat.le_trans (pairs_len zs) (Nat.mul_le_mul hl hl)
  refine sq_set (x := .vl []) rfl (sq_for (ds := (pairsS zs).map pairD) ?_ ?_)
  · refine ev_seq (x := .d (.list ((pairsS zs).map pairD))) ?_ rfl
    rw [ev_call (ev_1 rfl) rfl]
    show onTS (.d (txs zs)) (fun zs => gd (zs.length ≤ 100) (mp (DV.d (.list ((pairsS zs).map pairD))))) = _
    rw [onTS_is, gd_yes (by omega)]
  refine for_inv (fun ds S G1 => G1 = G ∧ ∃ rest acc u v w, ds = rest.map pairD ∧ S = [some (.d (txs zs)), some (.d (vot vs)), some (.vl ((acc.map fun p => margS p.1 p.2 vs).map .int)), u, v, w] ∧ acc ++ rest = pairsS zs) ?_ ?_ _ _ _ ⟨rfl, pairsS zs, [], none, none, none, rfl, rfl, rfl⟩
  · rintro d r S G1 A' ⟨rfl, rest, acc, u, v, w, e1, rfl, e3⟩ hn _ _ _ _
    cases rest with
    | nil => cases e1
    | cons p rest =>
      obtain ⟨a, b⟩ := p
      cases e1
      have hp : (a, b) ∈ pairsS zs := by
        rw [← e3]
        exact List.mem_append_right _ (List.mem_cons_self ..)
      obtain ⟨ha, hb⟩ := pairs_mem hp
      refine ⟨_, rfl, ?_⟩
      have hla : acc.length < 100000 := by
        have := congrArg List.length e3
        rw [List.length_append, List.length_cons] at this
        omega
      refine as_app (xs := (acc.map fun p => margS p.1 p.2 vs).map .int) (e := .int (margS a b vs)) rfl ?_ (by rw [List.length_map, List.length_map]; exact hla) ?_
      · have hc : cLc (cSeqH (cVar 1)) (gN 5) tYesC (cIf (cTest (cBin fLt (cTm fTIdx (cVar 5) (cVar 3)) (cTm fTIdx (cVar 5) (cVar 4)))) (cK (.int 1)) (cUn fNeg (cK (.int 1)))) [5] [some (.d (txs zs)), some (.d (vot vs)), some (.vl ((acc.map fun p => margS p.1 p.2 vs).map .int)), some (.d (.str a)), some (.d (.str b)), w] = mp (.vl ((vs.map txs).map (balD a b))) := by
          refine cLc_all (ds := vs.map txs) (balD a b) rfl (by rw [List.length_map]; omega) fun d hd => ?_
          obtain ⟨v, hv, rfl⟩ := List.mem_map.mp hd
          refine ⟨_, rfl, ?_⟩
          have q : balD a b (txs v) = .int (ballot a b v) := by
            show PyData.int (((toSs (v.map .str)).map (ballot a b)).getD 0) = _
            rw [toSs_map]
            rfl
          rw [q]
          have t : cTest (cBin fLt (cTm fTIdx (cVar 5) (cVar 3)) (cTm fTIdx (cVar 5) (cVar 4))) [some (.d (txs zs)), some (.d (vot vs)), some (.vl ((acc.map fun p => margS p.1 p.2 vs).map .int)), some (.d (.str a)), some (.d (.str b)), some (.d (txs v))] = mp (decide ((posS v a : Int) < (posS v b : Int))) := by
            refine et_val (ev_bin (ev_tm (ds := v.map .str) rfl rfl (tidx_is (hm v hv a ha))) (ev_tm (ds := v.map .str) rfl rfl (tidx_is (hm v hv b hb))) rfl)
          unfold ballot
          by_cases h : posS v a < posS v b
          · rw [if_pos h]
            rw [decide_eq_true (by omega)] at t
            exact ev_ifT t rfl
          · rw [if_neg h]
            rw [decide_eq_false (by omega)] at t
            exact ev_ifF t rfl
        refine ev_app (ev_1 (ev_fz hc)) ?_
        rw [balD_map]
        exact fSum_l _
      · refine hn _ _ ⟨rfl, rest, acc ++ [(a, b)], some (.d (.str a)), some (.d (.str b)), w, rfl, ?_, by rw [List.append_assoc]; exact e3⟩
        rw [List.map_append, List.map_append]
        rfl
  · rintro S G1 ⟨rfl, rest, acc, u, v, w, e1, rfl, e3⟩
    cases rest with
    | cons => cases e1
    | nil =>
      rw [List.append_nil] at e3
      show aRet (cApp fTupOf (cCons (cVar 2) cNil)) (AEof (.ok (.d (ins (margsS zs vs)))) G1) [some (.d (txs zs)), some (.d (vot vs)), some (.vl ((acc.map fun p => margS p.1 p.2 vs).map .int)), u, v, w] G1
      rw [e3]
      exact aRet_is (x := .d (.tuple ((margsS zs vs).map .int))) rfl ⟨rfl, rfl⟩
end K66

namespace K66
open PySem PySem.Spec PyProof.Rows L2 LamX DL
/-! ### are_voters, where they are -/
def okW (v0 v : List Str) : Prop := v.length ≤ 100 ∧ (∀ z ∈ v, wordB z = true ∧ z.length ≤ 100) ∧ dcN v v.length = v.length ∧ sortOk (v.map .str) = true ∧ srt (v.map .str) = srt (v0.map .str)
def okVs : List (List Str) → Prop
  | [] => False
  | v0 :: r => (v0 :: r).length ≤ 300 ∧ 2 ≤ v0.length ∧ v0.length ≤ 5 ∧ sortOk (v0.map .str) = true ∧ ∀ v ∈ v0 :: r, okW v0 v
open Classical in
noncomputable def m_vots (xs : List DV) : M DV := on1 xs fun x => onVs x fun vs => gd (okVs vs) (mp (.d (.bool true)))
theorem vots_is {vs : List (List Str)} (h : okVs vs) : m_vots [.d (vot vs)] = mp (.d (.bool true)) := by
  classical
  show onVs (.d (vot vs)) (fun vs => gd (okVs vs) (mp (DV.d (.bool true)))) = _
  rw [onVs_is, gd_yes h]
theorem fLenSet_is {v : List Str} (h : v.length ≤ 1000) : fLenSet (.d (txs v)) = mp (.d (.int (dcN v v.length : Nat))) := by
  show mb (mo (toSs (v.map .str))) (fun xs => gd (xs.length ≤ 1000) (mp (DV.d (.int (dcN xs xs.length : Nat))))) = _
  rw [toSs_map]
  exact gd_yes h
theorem eqv_self (ds : List D) (h : ∀ d ∈ ds, PyData.eqv d d = true) : PyData.eqvAll ds ds = true := by
  induction ds with
  | nil => simp [PyData.eqvAll]
  | cons d r ih =>
    simp only [PyData.eqvAll, Bool.and_eq_true]
    exact ⟨h d (List.mem_cons_self ..), ih fun e he => h e (List.mem_cons_of_mem _ he)⟩
theorem srt_strs (v : List Str) : ∀ d ∈ srt (v.map .str), ∃ z : Str, d = .str z := fun d hd => by
  obtain ⟨z, _, rfl⟩ := List.mem_map.mp (List.mem_mergeSort.mp hd)
  exact ⟨z, rfl⟩
theorem srt_low (v : List Str) : ∀ d ∈ srt (v.map .str), low d := fun d hd => by
  obtain ⟨z, rfl⟩ := srt_strs v d hd
  exact ⟨rfl, by simp [PyData.depth]⟩
theorem srt_eqv (v : List Str) : PyData.eqv (.list (srt (v.map .str))) (.list (srt (v.map .str))) = true := by
  have h := eqv_self (srt (v.map .str)) fun d hd => by
    obtain ⟨z, rfl⟩ := srt_strs v d hd
    exact eqv_strR z
  simp only [PyData.eqv]
  exact h
theorem fSorted_is {v : List Str} (h : sortOk (v.map .str) = true) : fSorted [.d (txs v)] = mp (.d (.list (srt (v.map .str)))) := gd_yes h
theorem spec_vots (A : AD) (xs : List DV) (G : DG) (r : Rs DV) (G' : DG) (e : m_vots xs G = some (r, G')) : a_l_tg_are_voters A m_lword (AEof r G') (xs.map some ++ List.replicate (3 - xs.length) none) G := by
  classical
  obtain ⟨x, rfl, e1⟩ := on1_inv e
  obtain ⟨vs, rfl, e2⟩ := onVs_inv e1
  obtain ⟨ok, e4⟩ := gd_of e2
  cases e4
  cases vs with
  | nil => exact absurd ok id
  | cons v0 rs =>
    obtain ⟨hl, h2, h5, hs, hv⟩ := ok
    show a_l_tg_are_voters A m_lword _ [some (.d (vot (v0 :: rs))), none, none] G
    unfold a_l_tg_are_voters
    have ln : ((v0 :: rs).map txs).length = (v0 :: rs).length := List.length_map ..
    have ls : 1 ≤ (v0 :: rs).length := Nat.le_add_left ..
    have fl : fLen [.d (vot (v0 :: rs))] = mp (.d (.int (((v0 :: rs).length : Nat) : Int))) := by
      show mp (DV.d (.int ((((v0 :: rs).map txs).length : Nat) : Int))) = _
      rw [ln]
    have e0 : cBin fIx (cVar 0) (cK (.int 0)) = fun S : SS => cBin fIx (cVar 0) (cK (.int 0)) S := rfl
    have ix : ∀ u w, cBin fIx (cVar 0) (cK (.int 0)) [some (.d (vot (v0 :: rs))), u, w] = mp (.d (txs v0)) := fun u w => by
      refine ev_bin (x := .d (vot (v0 :: rs))) (y := .d (.int 0)) rfl rfl ?_
      show mo ((atI ((v0 :: rs).map txs) 0).map DV.d) = _
      have q : atI ((v0 :: rs).map txs) ((0 : Nat) : Int) = some (txs v0) := atI_nat rfl
      have q : atI ((v0 :: rs).map txs) 0 = some (txs v0) := q
      rw [q]
      rfl
    refine sq_if (k := (!true) || !(decide ((1 : Int) ≤ ((v0 :: rs).length : Nat)) && decide ((((v0 :: rs).length : Nat) : Int) ≤ 300))) (et_or rfl fun _ => et_not (et_val (ev_chain rfl (ev_app (ev_1 rfl) fl) rfl fun _ => ⟨rfl, rfl⟩))) (fun h => ?_) fun h => ?_
    · rw [decide_eq_true (by omega), decide_eq_true (by omega)] at h
      cases h
    refine sq_nx (sq_for (ds := (v0 :: rs).map txs) rfl ?_)
    refine for_inv (fun ds S G1 => G1 = G ∧ ∃ rest u w, (∀ v ∈ rest, v ∈ v0 :: rs) ∧ ds = rest.map txs ∧ S = [some (.d (vot (v0 :: rs))), u, w]) ?_ ?_ _ _ _ ⟨rfl, v0 :: rs, none, none, fun _ h => h, rfl, rfl⟩
    · rintro d r S G1 A' ⟨rfl, rest, u, w, e1, e2, rfl⟩ hn _ _ _ _
      cases rest with
      | nil => cases e2
      | cons v rest =>
        cases e2
        obtain ⟨k1, k2, k3, k4, k5⟩ := hv v (e1 v (List.mem_cons_self ..))
        refine ⟨_, rfl, ?_⟩
        show aSeq _ _ A' [some (.d (vot (v0 :: rs))), some (.d (txs v)), w] G1
        have hc : cLc (cSeqH (cVar 1)) (gN 2) (cNotT (cTest (cCall m_lword (cCons (cVar 2) cNil)))) (cK (.int 1)) [2] [some (.d (vot (v0 :: rs))), some (.d (txs v)), w] = mp (.vl (((v.map PyData.str).filter fun _ => false).map id)) := by
          refine cLc_map (ds := v.map .str) (fun _ => false) id rfl (by rw [List.length_map]; omega) fun d hd => ?_
          obtain ⟨z, hz, rfl⟩ := List.mem_map.mp hd
          obtain ⟨q1, q2⟩ := k2 z hz
          refine ⟨_, rfl, ?_, fun h => nomatch h⟩
          refine et_not (k := true) (et_val ?_)
          rw [ev_call (ev_1 rfl) rfl]
          show m_lword [.d (.str z)] = _
          rw [lword_is (by omega), q1]
        have hf : ((v.map PyData.str).filter fun _ => false).map id = [] := by
          have q : (v.map PyData.str).filter (fun _ => false) = [] := by simp
          rw [q]
          rfl
        rw [hf] at hc
        refine sq_if (k := false) ?_ (fun h => nomatch h) fun _ => ?_
        · refine et_or (k := false) (j := false) rfl fun _ => et_or (k := false) (j := false) (et_val (ev_bin (ev_fz hc) rfl ?_)) fun _ => et_val (ev_bin (ev_un rfl (fLenSet_is (by omega))) (ev_app (ev_1 rfl) (show fLen [.d (txs v)] = mp (.d (.int (v.length : Nat))) from ?_)) ?_)
          · show gd (eqOk (.list []) = true ∧ eqOk (.list []) = true) (mp (DV.d (.bool (!PyData.eqv (.list []) (.list []))))) = _
            rw [gd_yes ⟨rfl, rfl⟩]
            simp [PyData.eqv, PyData.eqvAll]
          · show mp (DV.d (.int (((v.map PyData.str).length : Nat) : Int))) = _
            rw [List.length_map]
          · rw [fNe_d rfl rfl, k3, eqv_intR]
            rfl
        refine sq_nx (as_if (k := false) ?_ (fun h => nomatch h) fun _ => hn _ _ ⟨rfl, rest, some (.d (txs v)), w, fun v hv => e1 v (List.mem_cons_of_mem _ hv), rfl, rfl⟩)
        refine et_val (ev_bin (x := .d (.list (srt (v.map .str)))) (y := .d (.list (srt (v0.map .str)))) (ev_app (ev_1 rfl) (fSorted_is k4)) (ev_app (ev_1 (ix _ _)) (fSorted_is hs)) ?_)
        rw [k5, fNe_d (eqOk_low (srt_low v0)) (eqOk_low (srt_low v0)), srt_eqv]
        rfl
    · rintro S G1 ⟨rfl, rest, u, w, e1, e2, rfl⟩
      show aRet (cChain fLe fLe (cK (.int 2)) (cApp fLen (cCons (cBin fIx (cVar 0) (cK (.int 0))) cNil)) (cK (.int 5))) (AEof (.ok (.d (.bool true))) G1) [some (.d (vot (v0 :: rs))), u, w] G1
      have f0 : fLen [.d (txs v0)] = mp (.d (.int (v0.length : Nat))) := by
        show mp (DV.d (.int (((v0.map PyData.str).length : Nat) : Int))) = _
        rw [List.length_map]
      have q : cChain fLe fLe (cK (.int 2)) (cApp fLen (cCons (cBin fIx (cVar 0) (cK (.int 0))) cNil)) (cK (.int 5)) [some (.d (vot (v0 :: rs))), u, w] = mp (.d (.bool (decide ((2 : Int) ≤ (v0.length : Nat)) && decide (((v0.length : Nat) : Int) ≤ 5)))) := ev_chain rfl (ev_app (ev_1 (ix _ _)) f0) rfl fun _ => ⟨rfl, rfl⟩
      rw [decide_eq_true (by omega), decide_eq_true (by omega)] at q
      exact aRet_is (x := .d (.bool true)) q ⟨rfl, rfl⟩
end K66

/-! enough words are drawn. -/
namespace K66
open PySem PySem.Spec PyProof.Rows L2 LamX DL
def wordStr (ds : List Int) : Str := ⟨(ds.map fun d => 97 + d.toNat).toArray⟩
def altS (n : Nat) (w : Str) : Str := ⟨(w.cps.toList.take 1 ++ List.replicate n 113).toArray⟩
def putS (fs : List Str) (w : Str) : List Str := if w ∈ fs then (if altS fs.length w ∈ fs ∨ ¬ fs.length < 8 then [] else [altS fs.length w]) else [w]
def wl : Nat → Nat → List Str → DG → Option (List Str × DG)
  | 0, _, _, _ => none
  | n + 1, many, fs, G => if fs.length < many then (wordI G).bind fun p => wl n many (fs ++ putS fs (wordStr p.1)) p.2 else some (fs, G)
theorem nodup_le {α : Type} [DecidableEq α] : ∀ (xs ys : List α), xs.Nodup → (∀ x ∈ xs, x ∈ ys) → xs.length ≤ ys.length
  | [], _, _, _ => Nat.zero_le _
  | x :: r, ys, hn, h => by
    obtain ⟨h1, h2⟩ := List.nodup_cons.mp hn
    have hx := h x (List.mem_cons_self ..)
    have q := nodup_le r (ys.erase x) h2 fun y hy => (List.mem_erase_of_ne (fun e => h1 (by rw [← e]; exact hy))).mpr (h y (List.mem_cons_of_mem _ hy))
    have q2 := List.length_erase_of_mem hx
    have q3 := List.length_pos_of_mem hx
    rw [List.length_cons]
    omega
def headOf (f : Str) : Option Nat := f.cps.toList.head?
theorem free_letter (fs : List Str) (h : fs.length ≤ 4) : ∃ l ∈ [(1 : Int), 2, 3, 4, 5], ∀ f ∈ fs, headOf f ≠ some (97 + l.toNat) := by
  refine Classical.byContradiction fun hc => ?_
  have q : ∀ l ∈ [(1 : Int), 2, 3, 4, 5], some (97 + l.toNat) ∈ fs.map headOf := fun l hl => by
    refine Classical.byContradiction fun hn => hc ⟨l, hl, fun f hf e => hn ?_⟩
    rw [← e]
    exact List.mem_map_of_mem hf
  have q2 := nodup_le ([(1 : Int), 2, 3, 4, 5].map fun l => some (97 + l.toNat)) (fs.map headOf) (by decide) fun x hx => by
    obtain ⟨l, hl, rfl⟩ := List.mem_map.mp hx
    exact q l hl
  rw [List.length_map, List.length_map] at q2
  have : [(1 : Int), 2, 3, 4, 5].length = 5 := rfl
  omega
theorem abc_mem : ∀ d < 26, 97 + d ∈ ABC.cps.toList := by decide +kernel
theorem str_len (l : List Nat) : (⟨l.toArray⟩ : Str).length = l.length := by
  show l.toArray.size = _
  rw [List.size_toArray]
theorem word_ok {ds : List Int} (h1 : 1 ≤ ds.length) (h2 : ds.length ≤ 8) (h3 : small ds) : wordB (wordStr ds) = true := by
  unfold wordB wordStr
  rw [str_len, List.length_map, decide_eq_true (by omega), decide_eq_true (by omega), Bool.true_and, Bool.true_and, List.all_eq_true]
  intro c hc
  obtain ⟨d, hd, rfl⟩ := List.mem_map.mp (show c ∈ ds.map fun d => 97 + d.toNat from hc)
  have := h3 d hd
  exact decide_eq_true (abc_mem _ (by omega))
theorem alt_ok {n : Nat} {w : Str} (hw : wordB w = true) (hn : n < 8) : wordB (altS n w) = true := by
  unfold wordB at hw ⊢
  rw [Bool.and_eq_true, Bool.and_eq_true, List.all_eq_true] at hw
  obtain ⟨⟨h1, h2⟩, h3⟩ := hw
  have h1 := of_decide_eq_true h1
  have l1 : (altS n w).length = 1 + n := by
    unfold altS
    rw [str_len, List.length_append, List.length_take, List.length_replicate]
    have : w.cps.toList.length = w.length := Array.length_toList
    omega
  rw [l1, decide_eq_true (by omega), decide_eq_true (by omega), Bool.true_and, Bool.true_and, List.all_eq_true]
  intro c hc
  rcases List.mem_append.mp (show c ∈ w.cps.toList.take 1 ++ List.replicate n 113 from hc) with hc | hc
  · exact h3 c (List.mem_of_mem_take hc)
  · rw [(List.mem_replicate.mp hc).2]
    exact decide_eq_true (abc_mem 16 (by omega))
theorem add_cases (fs : List Str) {w : Str} (hw : wordB w = true) : putS fs w = [] ∨ ∃ x, putS fs w = [x] ∧ x ∉ fs ∧ wordB x = true := by
  unfold putS
  by_cases h : w ∈ fs
  · rw [if_pos h]
    by_cases h2 : altS fs.length w ∈ fs ∨ ¬ fs.length < 8
    · rw [if_pos h2]
      exact .inl rfl
    · rw [if_neg h2]
      exact .inr ⟨_, rfl, fun q => h2 (.inl q), alt_ok hw (Nat.lt_of_not_le fun q => h2 (.inr (by omega)))⟩
  · rw [if_neg h]
    exact .inr ⟨_, rfl, h, hw⟩
theorem add_head {fs : List Str} {l : Int} {ds : List Int} (hf : ∀ f ∈ fs, headOf f ≠ some (97 + l.toNat)) (hd : ds.head? = some l) : putS fs (wordStr ds) = [wordStr ds] ∧ wordStr ds ∉ fs := by
  have hn : wordStr ds ∉ fs := fun h => hf _ h (by
    show (ds.map fun d => 97 + d.toNat).head? = _
    rw [List.head?_map, hd]
    rfl)
  exact ⟨if_neg hn, hn⟩
/-- one more word, some laps later -/
def More (fs : List Str) (G : DG) (U : DG → Prop) : Prop := ∃ n x G', (∀ k many, fs.length < many → wl (n + k) many fs G = wl k many (fs ++ [x]) G') ∧ x ∉ fs ∧ wordB x = true ∧ U G'
theorem wl_step {fs : List Str} {G G1 : DG} {ds : List Int} {n many : Nat} (h : fs.length < many) (e : wordI G = some (ds, G1)) : wl (n + 1) many fs G = wl n many (fs ++ putS fs (wordStr ds)) G1 := by
  show (if fs.length < many then (wordI G).bind fun p => wl n many (fs ++ putS fs (wordStr p.1)) p.2 else some (fs, G)) = _
  rw [if_pos h, e]
  rfl
theorem more_now {fs : List Str} {G G1 : DG} {U : DG → Prop} {ds : List Int} {x : Str} (e : wordI G = some (ds, G1)) (ea : putS fs (wordStr ds) = [x]) (hx : x ∉ fs) (hw : wordB x = true) (hu : U G1) : More fs G U := ⟨1, x, G1, fun k many h => by
  rw [Nat.add_comm, wl_step h e, ea], hx, hw, hu⟩
theorem more_later {fs : List Str} {G G1 : DG} {U : DG → Prop} {ds : List Int} (e : wordI G = some (ds, G1)) (ea : putS fs (wordStr ds) = []) (h : More fs G1 U) : More fs G U := by
  obtain ⟨n, x, G2, h1, h2⟩ := h
  refine ⟨n + 1, x, G2, fun k many hl => ?_, h2⟩
  rw [show n + 1 + k = (n + k) + 1 by omega, wl_step hl e, ea, List.append_nil]
  exact h1 k many hl
theorem upto_pre {cs : List Int} {T : Int} {G : DG} (h : Pre cs T G) : Upto cs T G := ⟨h.cells, h.lo, Int.le_of_lt h.hi, h.rest, h.great⟩
theorem upto_mid {cs : List Int} {T l : Int} (hb : Mono (blended cs T) l) (t0 : 0 ≤ T) {m : Nat} (hm : m ≤ 8) : Upto cs T ⟨[], cs, sh (blended cs T) m, T⟩ := by
  refine ⟨rfl, t0, Int.le_refl T, ?_, fun _ h => absurd h List.not_mem_nil⟩
  show 0 ≤ sh (blended cs T) m
  clear hm
  induction m with
  | zero => exact blended_nn _ _
  | succ m ih => exact (fdiv_small ih (by decide)).1
theorem more_pre {cs : List Int} {T l : Int} (hT : T < 2 ^ 200) (hb : Mono (blended cs T) l) {fs : List Str} (hf : ∀ f ∈ fs, headOf f ≠ some (97 + l.toNat)) (z : Nat × Nat × Nat) : ∀ G, sz T G = z → Pre cs T G → More fs G (Upto cs T) := by
  induction z using less_wf.induction with
  | _ z ih =>
    rintro G rfl h
    have t0 : 0 ≤ T := Int.le_of_lt (Int.lt_of_le_of_lt h.lo h.hi)
    obtain ⟨ds, G1, e, l1, l8, s, c⟩ := word_pre hT hb h
    have hw := word_ok l1 l8 s
    rcases c with ⟨h1, ls⟩ | ⟨m, hm, rfl⟩ | ⟨hd, hu⟩
    · rcases add_cases fs hw with ea | ⟨x, ea, hx, hx2⟩
      · exact more_later e ea (ih _ ls G1 rfl h1)
      · exact more_now e ea hx hx2 (upto_pre h1)
    · rcases add_cases fs hw with ea | ⟨x, ea, hx, hx2⟩
      · refine more_later e ea ?_
        obtain ⟨ds2, G2, e2, k1, k8, s2, hd2, hu2⟩ := word_mid hb t0 m hm
        obtain ⟨ea2, hx⟩ := add_head hf hd2
        exact more_now e2 ea2 hx (word_ok k1 k8 s2) hu2
      · exact more_now e ea hx hx2 (upto_mid hb t0 hm)
    · obtain ⟨ea2, hx⟩ := add_head hf hd
      exact more_now e ea2 hx hw hu
theorem more_is {cs : List Int} {t : Int} {G : DG} {fs : List Str} (hn : cs.length < 64) (ht : t + PP < 2 ^ 200) (h : Upto cs t G) (hf : fs.length ≤ 4) : More fs G (Upto cs (t + PP)) := by
  obtain ⟨l, hl, hfree⟩ := free_letter fs hf
  obtain ⟨T, h1, h2, h3⟩ := aim_mono cs hn t l hl
  obtain ⟨q1, q2, q3, q4, q5⟩ := h
  have hb := mono_is l hl
  rw [← h3] at hb
  obtain ⟨n, x, G', a1, a2, a3, b1, b2, b3, b4, b5⟩ := more_pre (cs := cs) (T := T) (by omega) hb hfree _ G rfl ⟨q1, q2, by omega, q4, q5⟩
  exact ⟨n, x, G', a1, a2, a3, b1, b2, by omega, b4, b5⟩
/-- found so far -/
def Found (fs : List Str) : Prop := fs.Nodup ∧ ∀ f ∈ fs, wordB f = true
theorem wl_ends {cs : List Int} (hn : cs.length < 64) : ∀ (k : Nat) (fs : List Str) (many : Nat) (t : Int) (G : DG), fs.length + k = many → many ≤ 5 → t + PP * k < 2 ^ 200 → Upto cs t G → Found fs → ∃ n zs G', wl n many fs G = some (zs, G') ∧ zs.length = many ∧ Found zs ∧ Upto cs (t + PP * k) G'
  | 0, fs, many, t, G, hk, _, ht, hu, hf => by
    refine ⟨1, fs, G, if_neg (by omega), by omega, hf, ?_⟩
    obtain ⟨q1, q2, q3, q4, q5⟩ := hu
    exact ⟨q1, q2, by omega, q4, q5⟩
  | k + 1, fs, many, t, G, hk, hm, ht, hu, hf => by
    have hPP : (0 : Int) ≤ PP * k := Int.mul_nonneg (by decide) (by omega)
    have ek : t + PP * ((k + 1 : Nat) : Int) = t + PP + PP * k := by
      rw [show ((k + 1 : Nat) : Int) = (k : Int) + 1 by omega, Int.mul_add, Int.mul_one]
      omega
    rw [ek] at ht ⊢
    obtain ⟨n, x, G1, h1, h2, h3, h4⟩ := more_is (t := t) hn (by omega) hu (show fs.length ≤ 4 by omega)
    have hf2 : Found (fs ++ [x]) := by
      refine ⟨List.nodup_append.mpr ⟨hf.1, List.nodup_cons.mpr ⟨List.not_mem_nil, List.nodup_nil⟩, fun a ha b hb e => ?_⟩, fun f hf3 => ?_⟩
      · rw [List.mem_singleton.mp hb] at e
        exact h2 (e ▸ ha)
      · rcases List.mem_append.mp hf3 with h | h
        · exact hf.2 f h
        · rw [List.mem_singleton.mp h]
          exact h3
    obtain ⟨n2, zs, G2, g1, g2, g3, g4⟩ := wl_ends hn k (fs ++ [x]) many (t + PP) G1 (by rw [List.length_append, List.length_singleton]; omega) hm ht h4 hf2
    exact ⟨n + n2, zs, G2, by rw [h1 n2 many (by omega), g1], g2, g3, g4⟩
theorem wl_mono : ∀ (n many : Nat) (fs : List Str) (G : DG) (r : List Str × DG), wl n many fs G = some r → wl (n + 1) many fs G = some r
  | 0, _, _, _, _, h => nomatch h
  | n + 1, many, fs, G, r, h => by
    have h : (if fs.length < many then (wordI G).bind fun p => wl n many (fs ++ putS fs (wordStr p.1)) p.2 else some (fs, G)) = some r := h
    show (if fs.length < many then (wordI G).bind fun p => wl (n + 1) many (fs ++ putS fs (wordStr p.1)) p.2 else some (fs, G)) = some r
    by_cases hl : fs.length < many
    · rw [if_pos hl] at h ⊢
      obtain ⟨p, e1, e2⟩ := Option.bind_eq_some_iff.mp h
      rw [e1]
      exact wl_mono n many _ _ r e2
    · rw [if_neg hl] at h ⊢
      exact h
theorem wl_le {n many : Nat} {fs : List Str} {G : DG} {r : List Str × DG} (h : wl n many fs G = some r) : ∀ k, wl (n + k) many fs G = some r
  | 0 => h
  | k + 1 => wl_mono (n + k) many fs G r (wl_le h k)
theorem wl_one {n m many : Nat} {fs : List Str} {G : DG} {r s : List Str × DG} (h : wl n many fs G = some r) (h2 : wl m many fs G = some s) : r = s := by
  have q1 := wl_le h m
  have q2 := wl_le h2 n
  rw [Nat.add_comm m n, q1] at q2
  exact Option.some.inj q2
end K66

namespace K66
open PySem PySem.Spec PyProof.Rows L2 LamX DL
/-! ### one word -/
def letS (d : Int) : Str := ⟨#[97 + d.toNat]⟩
theorem abc_list : DL.signs ABC = (List.range 26).map fun d => PyData.str ⟨#[97 + d]⟩ := by rfl
theorem abc_at {d : Int} (h : 0 ≤ d ∧ d < 26) : atI (DL.signs ABC) d = some (.str (letS d)) := by
  have e : (DL.signs ABC)[d.toNat]? = some (.str (letS d)) := by
    rw [abc_list, List.getElem?_map, List.getElem?_range (by omega)]
    rfl
  have q := atI_nat e
  rw [show ((d.toNat : Nat) : Int) = d by omega] at q
  exact q
theorem drawn_range {G G1 : DG} {d n : Int} (hn : 0 < n) (e : drawn G n = some (d, G1)) : 0 ≤ d ∧ d < n := by
  obtain ⟨G2, _, e2⟩ := Option.map_eq_some_iff.mp e
  cases e2
  exact ⟨Int.fmod_nonneg_of_pos _ hn, Int.fmod_lt_of_pos _ hn⟩
theorem pick_abc {G G1 : DG} {d : Int} (e : drawn G 26 = some (d, G1)) : m_pick [.dr, .d (.list (DL.signs ABC))] G = some (.ok (.d (.str (letS d))), G1) := by
  rw [pick_is (by decide)]
  show ((drawn G (((DL.signs ABC).length : Nat) : Int)).bind fun p => (atI (DL.signs ABC) p.1).map fun d => (d, p.2)).map (fun p => (Rs.ok (DV.d p.1), p.2)) = _
  rw [show (((DL.signs ABC).length : Nat) : Int) = 26 from rfl, e]
  show ((atI (DL.signs ABC) d).map fun d => (d, G1)).map (fun p => (Rs.ok (DV.d p.1), p.2)) = _
  rw [abc_at (drawn_range (by decide) e)]
  rfl
def ceW : SS → M DV := cCall m_pick (cCons (cVar 0) (cCons (cApp fListOf (cCons (cK (.str "abcdefghijklmnopqrstuvwxyz")) cNil)) cNil))
theorem ceW_is {G G1 : DG} {d : Int} {S : SS} (hS : S[0]? = some (some .dr)) (e : drawn G 26 = some (d, G1)) : ceW S G = some (.ok (.d (.str (letS d))), G1) := by
  unfold ceW
  rw [ev_call (xs := [.dr, .d (.list (DL.signs ABC))]) (ev_2 (cVar_of hS) (ev_app (ev_1 rfl) rfl)) rfl]
  exact pick_abc e
theorem nx_some {α : Type} {m : M α} {G G1 : DG} {x : α} (h : m G = some (.ok x, G1)) : nx m G = some (.ok x, G1) := by
  unfold nx
  rw [h]
theorem lcL_letters {W : SS} (hW : W[0]? = some (some .dr)) : ∀ (k : Nat) (ds acc : List D) (G : DG) (ls : List Int) (G1 : DG), ds.length = k → letters k G = some (ls, G1) → lcL (gN 4) tYesC ceW W ds acc G = some (.ok (acc ++ ls.map fun d => .str (letS d)), G1)
  | 0, ds, acc, G, ls, G1, hl, e => by
    rw [List.length_eq_zero_iff.mp hl]
    cases e
    show some (Rs.ok acc, G) = _
    rw [List.map_nil, List.append_nil]
  | k + 1, d :: ds, acc, G, ls, G1, hl, e => by
    have e : (drawn G 26).bind (fun p => (letters k p.2).map fun q => (p.1 :: q.1, q.2)) = some (ls, G1) := e
    obtain ⟨⟨x, G2⟩, e1, e2⟩ := Option.bind_eq_some_iff.mp e
    obtain ⟨⟨l2, G3⟩, e3, e4⟩ := Option.map_eq_some_iff.mp e2
    cases e4
    have hS : (W.set 4 (some (.d d)))[0]? = some (some .dr) := by
      rw [List.getElem?_set_ne (by decide)]
      exact hW
    have q := nx_some (ceW_is hS e1)
    show mb (nx (ceW (W.set 4 (some (.d d))))) (fun y => onD y fun z => lcL (gN 4) tYesC ceW W ds (acc ++ [z])) G = _
    rw [mb_some q]
    show lcL (gN 4) tYesC ceW W ds (acc ++ [.str (letS x)]) G2 = _
    rw [lcL_letters hW k ds _ G2 l2 G3 (Nat.succ.inj hl) e3, List.append_assoc]
    rfl
  | k + 1, [], _, _, _, _, hl, _ => nomatch hl
theorem str_ext {a b : Str} (h : a.cps.toList = b.cps.toList) : a = b := by
  obtain ⟨⟨a⟩⟩ := a
  obtain ⟨⟨b⟩⟩ := b
  cases h
  rfl
theorem app_list (a b : Str) : (a ++ b).cps.toList = a.cps.toList ++ b.cps.toList := by
  show (a.cps ++ b.cps).toList = _
  rw [Array.toList_append]
theorem join_let : ∀ ls : List Int, (Str.join "" (ls.map letS)).cps.toList = ls.map fun d => 97 + d.toNat
  | [] => rfl
  | [_] => rfl
  | a :: b :: r => by
    show (letS a ++ ("" : Str) ++ Str.join "" ((b :: r).map letS)).cps.toList = _
    rw [app_list, app_list, join_let (b :: r)]
    rfl
theorem join_word (ls : List Int) : Txt.join "" (ls.map letS) = wordStr ls := str_ext (by
  rw [TL.join_eq]
  exact join_let ls)
theorem join_is {ls : List Int} (h : ls.length ≤ 1000) : fJoin "" (.d (.list (ls.map fun d => .str (letS d)))) = mp (.d (.str (wordStr ls))) := by
  show mb (mo (toSs (ls.map fun d => PyData.str (letS d)))) (fun ys => gd (PyData.strOk "" = true ∧ (ys.map (·.length)).sum + ys.length * ("" : Str).length ≤ 16777216) (mp (DV.d (.str (Txt.join "" ys))))) = _
  rw [show (ls.map fun d => PyData.str (letS d)) = (ls.map letS).map .str by rw [List.map_map]; rfl, toSs_map]
  have hs : ∀ l : List Int, ((l.map letS).map (·.length)).sum = l.length := fun l => by
    induction l with
    | nil => rfl
    | cons a r ih =>
      rw [List.map_cons, List.map_cons, List.sum_cons, ih, List.length_cons]
      show 1 + r.length = _
      omega
  show gd (PyData.strOk "" = true ∧ ((ls.map letS).map (·.length)).sum + (ls.map letS).length * ("" : Str).length ≤ 16777216) (mp (DV.d (.str (Txt.join "" (ls.map letS))))) = _
  rw [gd_yes ⟨by decide +kernel, by rw [hs, show ("" : Str).length = 0 from rfl]; omega⟩, join_word]
def cWord : SS → M DV := cNv (cSm fJoin (cK (.str "")) (cFz (cLc (cItr fRng1 (cCons (cBin fAdd (cK (.int 1)) (cCall m_draw (cCons (cVar 0) (cCons (cK (.int 8)) cNil)))) cNil)) (gN 4) tYesC ceW [4])))
theorem cWord_is {G G2 : DG} {ls : List Int} {x1 x2 x3 x4 : Option DV} (e : wordI G = some (ls, G2)) : cWord [some .dr, x1, x2, x3, x4] G = some (.ok (.d (.str (wordStr ls))), G2) := by
  obtain ⟨⟨d, G1⟩, e1, e2⟩ := Option.bind_eq_some_iff.mp e
  obtain ⟨d0, d1⟩ := drawn_range (by decide) e1
  have e2 : letters (1 + d).toNat G1 = some (ls, G2) := e2
  have hd : m_draw [.dr, .d (.int 8)] G = some (.ok (.d (.int d)), G1) := by
    rw [draw_is (by decide)]
    show (drawn G 8).map (fun p => (Rs.ok (DV.d (.int p.1)), p.2)) = _
    rw [e1]
    rfl
  have hr : cItr fRng1 (cCons (cBin fAdd (cK (.int 1)) (cCall m_draw (cCons (cVar 0) (cCons (cK (.int 8)) cNil)))) cNil) [some .dr, x1, x2, x3, x4] G = some (.ok (rng 0 (1 + d).toNat), G1) := by
    have hb : cBin fAdd (cK (.int 1)) (cCall m_draw (cCons (cVar 0) (cCons (cK (.int 8)) cNil))) [some .dr, x1, x2, x3, x4] G = some (.ok (.d (.int (1 + d))), G1) := by
      show mb (cCall m_draw (cCons (cVar 0) (cCons (cK (.int 8)) cNil)) [some .dr, x1, x2, x3, x4]) (fun y => fAdd (.d (.int 1)) y) G = _
      rw [ev_call (xs := [.dr, .d (.int 8)]) (ev_2 rfl rfl) rfl, mb_some hd]
      rfl
    have hc : cCons (cBin fAdd (cK (.int 1)) (cCall m_draw (cCons (cVar 0) (cCons (cK (.int 8)) cNil)))) cNil [some .dr, x1, x2, x3, x4] G = some (.ok [.d (.int (1 + d))], G1) := by
      show mb (cBin fAdd (cK (.int 1)) (cCall m_draw (cCons (cVar 0) (cCons (cK (.int 8)) cNil))) [some .dr, x1, x2, x3, x4]) (fun x => mb (cNil [some .dr, x1, x2, x3, x4]) fun xs => mp (x :: xs)) G = _
      rw [mb_some hb]
      rfl
    show mb (cCons (cBin fAdd (cK (.int 1)) (cCall m_draw (cCons (cVar 0) (cCons (cK (.int 8)) cNil)))) cNil [some .dr, x1, x2, x3, x4]) fRng1 G = _
    rw [mb_some hc]
    show gd (-1000000000 ≤ 1 + d ∧ 1 + d ≤ 1000000000) (mp (rng 0 (1 + d).toNat)) G1 = _
    rw [gd_yes (by omega)]
    rfl
  have hl : (rng 0 (1 + d).toNat).length = (1 + d).toNat := by simp [rng]
  have hlen : ∀ (k : Nat) (G : DG) (l : List Int) (G3 : DG), letters k G = some (l, G3) → l.length = k := by
    intro k
    induction k with
    | zero =>
      intro G l G3 e
      cases e
      rfl
    | succ k ih =>
      intro G l G3 e
      have e : (drawn G 26).bind (fun p => (letters k p.2).map fun q => (p.1 :: q.1, q.2)) = some (l, G3) := e
      obtain ⟨⟨x, G4⟩, _, e2⟩ := Option.bind_eq_some_iff.mp e
      obtain ⟨⟨l2, G5⟩, e3, e4⟩ := Option.map_eq_some_iff.mp e2
      cases e4
      rw [List.length_cons, ih _ _ _ e3]
  have lls := hlen _ _ _ _ e2
  have hc : cLc (cItr fRng1 (cCons (cBin fAdd (cK (.int 1)) (cCall m_draw (cCons (cVar 0) (cCons (cK (.int 8)) cNil)))) cNil)) (gN 4) tYesC ceW [4] [some .dr, x1, x2, x3, x4] G = some (.ok (.vl (ls.map fun d => .str (letS d))), G2) := by
    unfold cLc
    rw [mb_some hr, gd_yes (by omega), mb_some (lcL_letters (W := wipeS [some .dr, x1, x2, x3, x4] [4]) rfl _ _ [] _ _ _ hl e2)]
    rfl
  have hf : cFz (cLc (cItr fRng1 (cCons (cBin fAdd (cK (.int 1)) (cCall m_draw (cCons (cVar 0) (cCons (cK (.int 8)) cNil)))) cNil)) (gN 4) tYesC ceW [4]) [some .dr, x1, x2, x3, x4] G = some (.ok (.d (.list (ls.map fun d => .str (letS d)))), G2) := by
    unfold cFz
    rw [mb_some hc]
    rfl
  have hj : cSm fJoin (cK (.str "")) (cFz (cLc (cItr fRng1 (cCons (cBin fAdd (cK (.int 1)) (cCall m_draw (cCons (cVar 0) (cCons (cK (.int 8)) cNil)))) cNil)) (gN 4) tYesC ceW [4])) [some .dr, x1, x2, x3, x4] G = some (.ok (.d (.str (wordStr ls))), G2) := by
    show mb (cFz (cLc (cItr fRng1 (cCons (cBin fAdd (cK (.int 1)) (cCall m_draw (cCons (cVar 0) (cCons (cK (.int 8)) cNil)))) cNil)) (gN 4) tYesC ceW [4]) [some .dr, x1, x2, x3, x4]) (fun y => fJoin "" y) G = _
    rw [mb_some hf, join_is (by omega)]
    rfl
  unfold cWord cNv
  rw [mb_some hj]
  rfl
end K66

namespace K66
open PySem PySem.Spec PyProof.Rows L2 LamX DL
/-! ### the words -/
abbrev lst (fs : List Str) : DV := .d (.list (fs.map .str))
def short (fs : List Str) : Prop := fs.length ≤ 10 ∧ ∀ f ∈ fs, f.length ≤ 20
theorem low_strs (fs : List Str) : ∀ d ∈ fs.map PyData.str, low d := fun d hd => by
  obtain ⟨f, _, rfl⟩ := List.mem_map.mp hd
  exact ⟨rfl, by simp [PyData.depth]⟩
theorem any_mem (fs : List Str) (w : Str) : ((fs.map PyData.str).any fun z => PyData.eqv z (.str w)) = decide (w ∈ fs) := by
  rw [Bool.eq_iff_iff, List.any_eq_true, decide_eq_true_iff]
  constructor
  · rintro ⟨d, hd, e⟩
    obtain ⟨f, hf, rfl⟩ := List.mem_map.mp hd
    rw [eqv_str] at e
    rw [← eq_of_beq e]
    exact hf
  · intro h
    exact ⟨_, List.mem_map_of_mem h, eqv_strR w⟩
theorem fNotIn_l (fs : List Str) (w : Str) : fNotIn (.d (.str w)) (lst fs) = mp (.d (.bool (!decide (w ∈ fs)))) := by
  show gd (eqOk (.str w) = true ∧ eqOk (.list (fs.map .str)) = true) (mp (DV.d (.bool (!(fs.map PyData.str).any fun z => PyData.eqv z (.str w))))) = _
  rw [gd_yes ⟨rfl, eqOk_low (low_strs fs)⟩, any_mem]
theorem fLen_l (fs : List Str) : fLen [lst fs] = mp (.d (.int (fs.length : Nat))) := by
  show mp (DV.d (.int (((fs.map PyData.str).length : Nat) : Int))) = _
  rw [List.length_map]
theorem fAdd_l {fs gs : List Str} (h : fs.length + gs.length ≤ 100000) : fAdd (lst fs) (lst gs) = mp (lst (fs ++ gs)) := by
  show mo ((if (fs.map PyData.str).length + (gs.map PyData.str).length ≤ 100000 then some (PyData.list (fs.map PyData.str ++ gs.map PyData.str)) else none).map DV.d) = _
  rw [List.length_map, List.length_map, if_pos h, ← List.map_append]
  rfl
def cAlt : SS → M DV := cBin fAdd (cSl (cVar 3) cNoP (cPart (cK (.int 1)))) (cBin fMul (cK (.str "q")) (cApp fLen (cCons (cVar 2) cNil)))
theorem rep_q (n : Nat) : (repS "q" n).cps.toList = List.replicate n 113 := by
  show (List.replicate n [113]).flatten = _
  induction n with
  | zero => rfl
  | succ n ih =>
    rw [List.replicate_succ, List.flatten_cons, ih, List.replicate_succ]
    rfl
theorem cut_one {α : Type} (l : List α) : cut l none (some 1) = l.take 1 := by
  cases l with
  | nil => rfl
  | cons a r =>
    unfold cut
    rw [HT.sIx_none, show (1 : Int) = ((1 : Nat) : Int) from rfl, HT.sIx_nat]
    simp
theorem cAlt_is {fs : List Str} {w : Str} {x0 x1 x4 : Option DV} (hs : short fs) (hw : w.length ≤ 20) : cAlt [x0, x1, some (lst fs), some (.d (.str w)), x4] = mp (.d (.str (altS fs.length w))) := by
  obtain ⟨h1, _⟩ := hs
  have a1 : cSl (cVar 3) cNoP (cPart (cK (.int 1))) [x0, x1, some (lst fs), some (.d (.str w)), x4] = mp (.d (.str ⟨(w.cps.toList.take 1).toArray⟩)) := by
    refine ev_sl (x := .d (.str w)) rfl rfl (ev_part rfl) ?_
    show (if w.length ≤ 100000 then some (DV.d (.str ⟨(cut w.cps.toList none (some 1)).toArray⟩)) else none) = _
    rw [if_pos (by omega), cut_one]
  have a2 : cBin fMul (cK (.str "q")) (cApp fLen (cCons (cVar 2) cNil)) [x0, x1, some (lst fs), some (.d (.str w)), x4] = mp (.d (.str (repS "q" fs.length))) := by
    refine ev_bin (y := .d (.int (fs.length : Nat))) rfl (ev_app (ev_1 rfl) (fLen_l fs)) ?_
    show mo ((if ((fs.length : Nat) : Int).natAbs ≤ 100000 ∧ ("q" : Str).length * ((fs.length : Nat) : Int).toNat ≤ 100000 then some (PyData.str (repS "q" ((fs.length : Nat) : Int).toNat)) else none).map DV.d) = _
    rw [if_pos ⟨by omega, by rw [show ("q" : Str).length = 1 from rfl]; omega⟩]
    rfl
  refine ev_bin a1 a2 ?_
  have l1 : (⟨(w.cps.toList.take 1).toArray⟩ : Str).length ≤ 1 := by
    rw [str_len, List.length_take]
    omega
  have l2 : (repS "q" fs.length).length = fs.length := by
    show (repS "q" fs.length).cps.size = _
    rw [← Array.length_toList, rep_q, List.length_replicate]
  show mo ((if (⟨(w.cps.toList.take 1).toArray⟩ : Str).length + (repS "q" fs.length).length ≤ 100000 then some (PyData.str ((⟨(w.cps.toList.take 1).toArray⟩ : Str) ++ repS "q" fs.length)) else none).map DV.d) = _
  rw [if_pos (by omega)]
  have e : (⟨(w.cps.toList.take 1).toArray⟩ : Str) ++ repS "q" fs.length = altS fs.length w := str_ext (by
    rw [app_list, rep_q]
    rfl)
  rw [e]
  rfl
def cPut : SS → M DV := cNv (cBin fAdd (cVar 2) (cIf (cTest (cBin fNotIn (cVar 3) (cVar 2))) (cApp fLst (cCons (cVar 3) cNil)) (cIf (cAndT (cTest (cBin fNotIn cAlt (cVar 2))) (cTest (cBin fLt (cApp fLen (cCons (cVar 2) cNil)) (cK (.int 8))))) (cApp fLst (cCons cAlt cNil)) (cApp fLst cNil))))
theorem cPut_is {fs : List Str} {w : Str} {x0 x1 x4 : Option DV} (hs : short fs) (hw : w.length ≤ 20) : cPut [x0, x1, some (lst fs), some (.d (.str w)), x4] = mp (lst (fs ++ putS fs w)) := by
  have h1 := hs.1
  have lp : (putS fs w).length ≤ 1 := by
    unfold putS
    split
    · split
      · exact Nat.zero_le _
      · exact Nat.le_refl _
    · exact Nat.le_refl _
  refine ev_nv (ev_bin (x := lst fs) (y := lst (putS fs w)) rfl ?_ (fAdd_l (by omega))) rfl
  have t1 : cTest (cBin fNotIn (cVar 3) (cVar 2)) [x0, x1, some (lst fs), some (.d (.str w)), x4] = mp (!decide (w ∈ fs)) := et_val (ev_bin rfl rfl (fNotIn_l fs w))
  have t2 : cAndT (cTest (cBin fNotIn cAlt (cVar 2))) (cTest (cBin fLt (cApp fLen (cCons (cVar 2) cNil)) (cK (.int 8)))) [x0, x1, some (lst fs), some (.d (.str w)), x4] = mp (!decide (altS fs.length w ∈ fs) && decide (((fs.length : Nat) : Int) < 8)) := et_and (et_val (ev_bin (cAlt_is hs hw) rfl (fNotIn_l fs _))) fun _ => et_val (ev_bin (ev_app (ev_1 rfl) (fLen_l fs)) rfl rfl)
  unfold putS
  by_cases h : w ∈ fs
  · rw [if_pos h]
    rw [decide_eq_true h] at t1
    refine ev_ifF t1 ?_
    by_cases h2 : altS fs.length w ∈ fs ∨ ¬ fs.length < 8
    · rw [if_pos h2]
      have q : (!decide (altS fs.length w ∈ fs) && decide (((fs.length : Nat) : Int) < 8)) = false := by
        rcases h2 with h2 | h2
        · rw [decide_eq_true h2]
          rfl
        · rw [decide_eq_false (p := ((fs.length : Nat) : Int) < 8) (by omega), Bool.and_false]
      rw [q] at t2
      exact ev_ifF t2 rfl
    · rw [if_neg h2]
      have q : (!decide (altS fs.length w ∈ fs) && decide (((fs.length : Nat) : Int) < 8)) = true := by
        rw [decide_eq_false fun z => h2 (.inl z), decide_eq_true (p := ((fs.length : Nat) : Int) < 8) (by have h8 : fs.length < 8 := Classical.byContradiction fun z => h2 (.inr z); omega)]
        rfl
      rw [q] at t2
      exact ev_ifT t2 (ev_app (ev_1 (cAlt_is hs hw)) rfl)
  · rw [if_neg h]
    rw [decide_eq_false h] at t1
    exact ev_ifT t1 rfl
def tMore : SS → M Bool := cTest (cBin fLt (cApp fLen (cCons (cVar 2) cNil)) (cVar 1))
def bMore : TSa := aSeq (aSet 3 cWord) (aSet 2 cPut)
theorem wordB_len {z : Str} (h : wordB z = true) : z.length ≤ 8 := by
  unfold wordB at h
  rw [Bool.and_eq_true, Bool.and_eq_true] at h
  have := of_decide_eq_true h.1.2
  omega
theorem letters_small : ∀ (k : Nat) (G : DG) (l : List Int) (G3 : DG), letters k G = some (l, G3) → l.length = k ∧ small l
  | 0, G, l, G3, e => by
    cases e
    exact ⟨rfl, small_nil⟩
  | k + 1, G, l, G3, e => by
    have e : (drawn G 26).bind (fun p => (letters k p.2).map fun q => (p.1 :: q.1, q.2)) = some (l, G3) := e
    obtain ⟨⟨x, G4⟩, e1, e2⟩ := Option.bind_eq_some_iff.mp e
    obtain ⟨⟨l2, G5⟩, e3, e4⟩ := Option.map_eq_some_iff.mp e2
    cases e4
    obtain ⟨q1, q2⟩ := letters_small k _ _ _ e3
    refine ⟨by rw [List.length_cons, q1], fun d hd => ?_⟩
    rcases List.mem_cons.mp hd with rfl | hd
    · exact drawn_range (by decide) e1
    · exact q2 d hd
theorem wordI_ok {G G2 : DG} {ls : List Int} (e : wordI G = some (ls, G2)) : wordB (wordStr ls) = true := by
  obtain ⟨⟨d, G1⟩, e1, e2⟩ := Option.bind_eq_some_iff.mp e
  obtain ⟨d0, d1⟩ := drawn_range (by decide) e1
  obtain ⟨q1, q2⟩ := letters_small _ _ _ _ e2
  have q1 : ls.length = (1 + d).toNat := q1
  exact word_ok (by omega) (by omega) q2
theorem whN_on {A : AE} {t : SS → M Bool} {b : TSa} {n : Nat} {S : SS} {G : DG} (ht : t S = mp true) (h : b { A with nx := aWhN t b n A, ct := aWhN t b n A, bk := A.nx } S G) : aWhN t b (n + 1) A S G := aEv_is (x := true) ht h
theorem loop_run {A : AE} {many : Nat} (hm : many ≤ 5) : ∀ (n : Nat) (fs : List Str) (G : DG) (zs : List Str) (G2 : DG) (x3 x4 : Option DV), wl n many fs G = some (zs, G2) → fs.length ≤ many → (∀ f ∈ fs, wordB f = true) → (∀ x3 x4, zs.length ≤ 10 → (∀ f ∈ zs, wordB f = true) → A.nx [some .dr, some (.d (.int (many : Nat))), some (lst zs), x3, x4] G2) → aWhN tMore bMore n A [some .dr, some (.d (.int (many : Nat))), some (lst fs), x3, x4] G
  | 0, _, _, _, _, _, _, e, _, _, _ => nomatch e
  | n + 1, fs, G, zs, G2, x3, x4, e, hl, hw, h => by
    have e : (if fs.length < many then (wordI G).bind fun p => wl n many (fs ++ putS fs (wordStr p.1)) p.2 else some (fs, G)) = some (zs, G2) := e
    have ht : tMore [some .dr, some (.d (.int (many : Nat))), some (lst fs), x3, x4] = mp (decide (((fs.length : Nat) : Int) < (many : Nat))) := et_val (ev_bin (ev_app (ev_1 rfl) (fLen_l fs)) rfl rfl)
    by_cases hc : fs.length < many
    · rw [if_pos hc] at e
      rw [decide_eq_true (by omega)] at ht
      obtain ⟨⟨ls, G1⟩, e1, e2⟩ := Option.bind_eq_some_iff.mp e
      have ow := wordI_ok e1
      refine whN_on ht ?_
      show aSeq (aSet 3 cWord) (aSet 2 cPut) { A with nx := aWhN tMore bMore n A, ct := aWhN tMore bMore n A, bk := A.nx } [some .dr, some (.d (.int (many : Nat))), some (lst fs), x3, x4] G
      refine aEv_ok (cWord_is e1) ?_
      have hp := cPut_is (fs := fs) (w := wordStr ls) (x0 := some .dr) (x1 := some (.d (.int (many : Nat)))) (x4 := x4) ⟨by omega, fun f hf => by have := wordB_len (hw f hf); omega⟩ (by have := wordB_len ow; omega)
      refine as_set (A := { A with nx := aWhN tMore bMore n A, ct := aWhN tMore bMore n A, bk := A.nx }) hp ?_
      refine loop_run hm n _ G1 zs G2 _ _ e2 ?_ ?_ h
      · rcases add_cases fs ow with ea | ⟨x, ea, _, _⟩
        · rw [show putS fs (wordStr (ls, G1).1) = [] from ea, List.append_nil]
          exact hl
        · rw [show putS fs (wordStr (ls, G1).1) = [x] from ea, List.length_append, List.length_singleton]
          omega
      · rcases add_cases fs ow with ea | ⟨x, ea, _, ox⟩
        · rw [show putS fs (wordStr (ls, G1).1) = [] from ea, List.append_nil]
          exact hw
        · rw [show putS fs (wordStr (ls, G1).1) = [x] from ea]
          intro f hf
          rcases List.mem_append.mp hf with h | h
          · exact hw f h
          · rw [List.mem_singleton.mp h]
            exact ox
    · rw [if_neg hc] at e
      rw [decide_eq_false (by omega)] at ht
      cases e
      exact whN_off ht (h _ _ (by omega) hw)
end K66

namespace K66
open PySem PySem.Spec PyProof.Rows L2 LamX DL
/-! ### texts in order -/
def leS (a b : Str) : Bool := decide (a.cps.toList ≤ b.cps.toList)
def srtS (zs : List Str) : List Str := zs.mergeSort leS
theorem srt_map (zs : List Str) : srt (zs.map .str) = (srtS zs).map .str := by
  unfold srt srtS
  refine (List.map_mergeSort fun a _ b _ => ?_).symm
  have e := congrFun (congrFun (PySem.W.dataLe_str (β := Str) fun z => z) a) b
  exact e.symm
theorem sortOk_strs {zs : List Str} (h : zs.length ≤ 1000) : sortOk (zs.map .str) = true := by
  have e1 : alikeB (zs.map .str) = true := List.all_eq_true.mpr fun d hd => List.all_eq_true.mpr fun e he => by
    obtain ⟨a, _, rfl⟩ := List.mem_map.mp hd
    obtain ⟨b, _, rfl⟩ := List.mem_map.mp he
    rfl
  have e2 : sortB (zs.map .str) = true := Bool.or_eq_true_iff.mpr (.inr (List.all_eq_true.mpr fun d hd => by
    obtain ⟨a, _, rfl⟩ := List.mem_map.mp hd
    rfl))
  have e3 : ((zs.map PyData.str).all fun d => decide (d.depth ≤ 50)) = true := List.all_eq_true.mpr fun d hd => by
    obtain ⟨a, _, rfl⟩ := List.mem_map.mp hd
    exact decide_eq_true (by simp [PyData.depth])
  unfold sortOk
  rw [e1, e2, plain_strs, e3, decide_eq_true (by rw [List.length_map]; omega)]
  rfl
theorem fSorted_l {zs : List Str} (h : zs.length ≤ 1000) : fSorted [lst zs] = mp (lst (srtS zs)) := by
  show gd (sortOk (zs.map .str) = true) (mp (DV.d (.list (srt (zs.map .str))))) = _
  rw [gd_yes (sortOk_strs h), srt_map]
/-! ### the words, drawn -/
open Classical in
noncomputable def mWl (many : Nat) : M DV := fun G => if h : ∃ p : Nat × (List Str × DG), wl p.1 many [] G = some p.2 then some (.ok (lst (srtS h.choose.2.1)), h.choose.2.2) else none
theorem mWl_is {many n : Nat} {G G' : DG} {zs : List Str} (h : wl n many [] G = some (zs, G')) : mWl many G = some (.ok (lst (srtS zs)), G') := by
  classical
  have q : ∃ p : Nat × (List Str × DG), wl p.1 many [] G = some p.2 := ⟨(n, (zs, G')), h⟩
  have e := wl_one q.choose_spec h
  unfold mWl
  rw [dif_pos q, e]
noncomputable def m_words (xs : List DV) : M DV := on2 xs fun s x => onR s (onI x fun n => gd (0 ≤ n ∧ n ≤ 5) (mWl n.toNat))
theorem words_is {n : Int} (h : 0 ≤ n ∧ n ≤ 5) : m_words [.dr, .d (.int n)] = mWl n.toNat := gd_yes h
theorem spec_words (A : AD) (xs : List DV) (G : DG) (r : Rs DV) (G' : DG) (e : m_words xs G = some (r, G')) : a_l_words A m_draw m_pick (AEof r G') (xs.map some ++ List.replicate (5 - xs.length) none) G := by
  classical
  obtain ⟨s, k, rfl, e1⟩ := on2_inv e
  cases s with
  | dr =>
    obtain ⟨n, rfl, e2⟩ := onI_inv (show onI k (fun n => gd (0 ≤ n ∧ n ≤ 5) (mWl n.toNat)) G = some (r, G') from e1)
    obtain ⟨hn, e3⟩ := gd_of e2
    unfold mWl at e3
    by_cases q : ∃ p : Nat × (List Str × DG), wl p.1 n.toNat [] G = some p.2
    · rw [dif_pos q] at e3
      obtain ⟨⟨f, zs, G2⟩, hw⟩ := q
      have hw : wl f n.toNat [] G = some (zs, G2) := hw
      have e4 := mWl_is hw
      unfold mWl at e4
      rw [dif_pos ⟨(f, (zs, G2)), hw⟩, e3] at e4
      cases e4
      show a_l_words A m_draw m_pick _ [some .dr, some (.d (.int n)), none, none, none] G
      unfold a_l_words
      refine sq_set (x := lst []) rfl ?_
      refine ⟨f, ?_⟩
      have go := loop_run (A := { AEof (.ok (lst (srtS zs))) G' with nx := aRet (cApp fSorted (cCons (cVar 2) cNil)) (AEof (.ok (lst (srtS zs))) G') }) (many := n.toNat) (by omega) f [] G zs G' none none hw (Nat.zero_le _) (fun _ h => absurd h List.not_mem_nil) fun x3 x4 hl _ => ?_
      · rw [show ((n.toNat : Nat) : Int) = n by omega] at go
        exact go
      · exact aRet_is (x := lst (srtS zs)) (ev_app (ev_1 rfl) (fSorted_l (by omega))) ⟨rfl, rfl⟩
    · rw [dif_neg q] at e3
      cases e3
  | d => cases e1
  | vl => cases e1
  | sc => cases e1
  | fn => cases e1
  | ex => cases e1
end K66

namespace K66
open PySem PySem.Spec PyProof.Rows L2 LamX DL
/-! ### what is drawn are things -/
theorem srtS_perm (zs : List Str) : (srtS zs).Perm zs := List.mergeSort_perm zs leS
theorem srtS_pair (zs : List Str) : (srtS zs).Pairwise fun a b => leS a b = true := by
  refine List.pairwise_mergeSort (fun a b c h1 h2 => ?_) (fun a b => ?_) zs
  · exact decide_eq_true (List.le_trans (of_decide_eq_true h1) (of_decide_eq_true h2))
  · rcases List.le_total a.cps.toList b.cps.toList with h | h
    · exact Bool.or_eq_true_iff.mpr (.inl (decide_eq_true h))
    · exact Bool.or_eq_true_iff.mpr (.inr (decide_eq_true h))
theorem lt_of_leS {a b : Str} (h : leS a b = true) (hn : a ≠ b) : a.cps.toList < b.cps.toList := by
  have h := of_decide_eq_true h
  rcases Classical.em (a.cps.toList < b.cps.toList) with q | q
  · exact q
  · exact absurd (str_ext (List.le_antisymm h q)) hn
theorem things_of : ∀ zs : List Str, zs.Pairwise (fun a b => leS a b = true) → zs.Nodup → things zs = true
  | [], _, _ => rfl
  | [_], _, _ => rfl
  | a :: b :: r, h, hn => by
    obtain ⟨h1, h2⟩ := List.pairwise_cons.mp h
    obtain ⟨n1, n2⟩ := List.nodup_cons.mp hn
    show (decide (a.cps.toList < b.cps.toList) && things (b :: r)) = true
    rw [things_of (b :: r) h2 n2, decide_eq_true (lt_of_leS (h1 b (List.mem_cons_self ..)) fun e => n1 (e ▸ List.mem_cons_self ..))]
    rfl
/-- words as the law draws them -/
structure Words (zs : List Str) : Prop where
  lo : 2 ≤ zs.length
  hi : zs.length ≤ 5
  nd : zs.Nodup
  wd : ∀ z ∈ zs, wordB z = true
  th : things zs = true
  st : srtS zs = zs
theorem srtS_idem (zs : List Str) : srtS (srtS zs) = srtS zs := List.mergeSort_of_pairwise (srtS_pair zs)
theorem words_of {zs : List Str} (h1 : 2 ≤ zs.length) (h2 : zs.length ≤ 5) (hf : Found zs) : Words (srtS zs) := by
  have p := srtS_perm zs
  have nd := p.nodup_iff.mpr hf.1
  exact ⟨by rw [p.length_eq]; exact h1, by rw [p.length_eq]; exact h2, nd, fun z hz => hf.2 z (p.mem_iff.mp hz), things_of _ (srtS_pair zs) nd, srtS_idem zs⟩
theorem Words.are {zs : List Str} (h : Words zs) : areB zs = true := by
  unfold areB
  rw [h.th, List.all_eq_true.mpr h.wd]
  have := h.lo
  cases zs with
  | nil => exact absurd this (by decide)
  | cons => rfl
/-- the words of one lap -/
theorem words_drawn {cs : List Int} {t : Int} {G : DG} {many : Nat} (hn : cs.length < 64) (h1 : 2 ≤ many) (h2 : many ≤ 5) (ht : t + PP * many < 2 ^ 200) (hu : Upto cs t G) : ∃ zs G', m_words [.dr, .d (.int (many : Nat))] G = some (.ok (lst zs), G') ∧ zs.length = many ∧ Words zs ∧ Upto cs (t + PP * many) G' := by
  obtain ⟨n, zs, G', e, ln, hf, hu2⟩ := wl_ends hn many [] many t G (by rw [List.length_nil]; omega) h2 ht hu ⟨List.nodup_nil, fun _ h => absurd h List.not_mem_nil⟩
  have w := words_of (by omega) (by omega) hf
  refine ⟨srtS zs, G', ?_, by rw [(srtS_perm zs).length_eq, ln], w, hu2⟩
  rw [words_is (by omega)]
  exact mWl_is e
end K66

namespace K66
open PySem PySem.Spec PyProof.Rows L2 LamX DL
/-! ### margins, added up -/
theorem marg_app (a b : Str) (vs ws : List (List Str)) : margS a b (vs ++ ws) = margS a b vs + margS a b ws := by
  unfold margS
  rw [List.map_append, List.sum_append]
theorem marg_rep (a b : Str) (vs : List (List Str)) : ∀ k : Nat, margS a b (List.replicate k vs).flatten = (k : Int) * margS a b vs
  | 0 => by
    rw [Int.natCast_zero, Int.zero_mul]
    rfl
  | k + 1 => by
    rw [List.replicate_succ, List.flatten_cons, marg_app, marg_rep a b vs k, Int.natCast_succ, Int.add_mul, Int.one_mul]
    omega
/-! ### the same for any labels -/
section
variable {α β : Type} [DecidableEq α] [DecidableEq β]
def posA (v : List α) (z : α) : Nat := v.findIdx fun y => decide (y = z)
def ballotA (a b : α) (v : List α) : Int := if posA v a < posA v b then 1 else -1
def margA (a b : α) (vs : List (List α)) : Int := (vs.map (ballotA a b)).sum
def restA (zs : List α) (a b : α) : List α := zs.filter fun z => !(decide (a = z) || decide (b = z))
def twoA (zs : List α) (a b : α) : List (List α) := [a :: b :: restA zs a b, (restA zs a b).reverse ++ [a, b]]
theorem posA_map {f : α → β} (hf : ∀ x y, f x = f y → x = y) (v : List α) (z : α) : posA (v.map f) (f z) = posA v z := by
  unfold posA
  rw [List.findIdx_map]
  congr 1
  funext y
  show decide (f y = f z) = decide (y = z)
  exact decide_eq_decide.mpr ⟨hf y z, fun e => congrArg f e⟩
theorem ballotA_map {f : α → β} (hf : ∀ x y, f x = f y → x = y) (a b : α) (v : List α) : ballotA (f a) (f b) (v.map f) = ballotA a b v := by
  unfold ballotA
  rw [posA_map hf, posA_map hf]
theorem restA_map {f : α → β} (hf : ∀ x y, f x = f y → x = y) (zs : List α) (a b : α) : restA (zs.map f) (f a) (f b) = (restA zs a b).map f := by
  unfold restA
  rw [List.filter_map]
  congr 1
  refine List.filter_congr fun z _ => ?_
  show (!(decide (f a = f z) || decide (f b = f z))) = (!(decide (a = z) || decide (b = z)))
  rw [decide_eq_decide.mpr ⟨hf a z, fun e => congrArg f e⟩, decide_eq_decide.mpr ⟨hf b z, fun e => congrArg f e⟩]
theorem margA_two {f : α → β} (hf : ∀ x y, f x = f y → x = y) (zs : List α) (a b p q : α) : margA (f p) (f q) (twoA (zs.map f) (f a) (f b)) = margA p q (twoA zs a b) := by
  unfold margA twoA
  rw [restA_map hf]
  have e1 : f a :: f b :: (restA zs a b).map f = (a :: b :: restA zs a b).map f := rfl
  have e2 : ((restA zs a b).map f).reverse ++ [f a, f b] = ((restA zs a b).reverse ++ [a, b]).map f := by
    rw [List.map_append, List.map_reverse]
    rfl
  rw [e1, e2]
  show [ballotA (f p) (f q) ((a :: b :: restA zs a b).map f), ballotA (f p) (f q) (((restA zs a b).reverse ++ [a, b]).map f)].sum = _
  rw [ballotA_map hf, ballotA_map hf]
  rfl
end
theorem restS_is (zs : List Str) (a b : Str) : restS zs a b = restA zs a b := rfl
theorem twoS_is (zs : List Str) (a b : Str) : twoS zs a b = twoA zs a b := rfl
theorem margS_is (a b : Str) (vs : List (List Str)) : margS a b vs = margA a b vs := rfl
/-- two voters move their own pair by two and no other -/
theorem two2 : ∀ a b p q : Fin 2, a ≠ b → p ≠ q → margA p q (twoA (List.finRange 2) a b) = if p = a ∧ q = b then 2 else if p = b ∧ q = a then -2 else 0 := by decide +kernel
theorem two3 : ∀ a b p q : Fin 3, a ≠ b → p ≠ q → margA p q (twoA (List.finRange 3) a b) = if p = a ∧ q = b then 2 else if p = b ∧ q = a then -2 else 0 := by decide +kernel
theorem two4 : ∀ a b p q : Fin 4, a ≠ b → p ≠ q → margA p q (twoA (List.finRange 4) a b) = if p = a ∧ q = b then 2 else if p = b ∧ q = a then -2 else 0 := by decide +kernel
theorem two5 : ∀ a b p q : Fin 5, a ≠ b → p ≠ q → margA p q (twoA (List.finRange 5) a b) = if p = a ∧ q = b then 2 else if p = b ∧ q = a then -2 else 0 := by decide +kernel
theorem two_gen {n : Nat} (H : ∀ a b p q : Fin n, a ≠ b → p ≠ q → margA p q (twoA (List.finRange n) a b) = if p = a ∧ q = b then 2 else if p = b ∧ q = a then -2 else 0) {f : Fin n → Str} (hf : ∀ x y, f x = f y → x = y) {zs : List Str} (hz : zs = (List.finRange n).map f) {a b p q : Str} (ha : a ∈ zs) (hb : b ∈ zs) (hp : p ∈ zs) (hq : q ∈ zs) (h1 : a ≠ b) (h2 : p ≠ q) : margS p q (twoS zs a b) = if p = a ∧ q = b then 2 else if p = b ∧ q = a then -2 else 0 := by
  subst hz
  obtain ⟨a, _, rfl⟩ := List.mem_map.mp ha
  obtain ⟨b, _, rfl⟩ := List.mem_map.mp hb
  obtain ⟨p, _, rfl⟩ := List.mem_map.mp hp
  obtain ⟨q, _, rfl⟩ := List.mem_map.mp hq
  rw [margS_is, twoS_is, margA_two hf, H a b p q (fun e => h1 (congrArg f e)) fun e => h2 (congrArg f e)]
  have e : ∀ x y : Fin n, (f x = f y) = (x = y) := fun x y => propext ⟨hf x y, fun e => congrArg f e⟩
  simp only [e]
theorem get_inj {zs : List Str} (h : zs.Nodup) (x y : Fin zs.length) (e : zs.get x = zs.get y) : x = y := by
  have q := (List.getElem_inj (h₀ := x.2) (h₁ := y.2) h).mp e
  exact Fin.ext q
theorem fin_map {n : Nat} (zs : List Str) (h : zs.length = n) (hn : zs.Nodup) : ∃ f : Fin n → Str, (∀ x y, f x = f y → x = y) ∧ zs = (List.finRange n).map f := by
  subst h
  refine ⟨zs.get, get_inj hn, ?_⟩
  refine List.ext_getElem (by rw [List.length_map, List.length_finRange]) fun i h1 h2 => ?_
  rw [List.getElem_map, List.getElem_finRange]
  rfl
theorem two_marg {zs : List Str} (hw : Words zs) {a b p q : Str} (ha : a ∈ zs) (hb : b ∈ zs) (hp : p ∈ zs) (hq : q ∈ zs) (h1 : a ≠ b) (h2 : p ≠ q) : margS p q (twoS zs a b) = if p = a ∧ q = b then 2 else if p = b ∧ q = a then -2 else 0 := by
  have l1 := hw.lo
  have l2 := hw.hi
  have c : zs.length = 2 ∨ zs.length = 3 ∨ zs.length = 4 ∨ zs.length = 5 := by omega
  rcases c with c | c | c | c <;> obtain ⟨f, hf, hz⟩ := fin_map zs c hw.nd
  · exact two_gen two2 hf hz ha hb hp hq h1 h2
  · exact two_gen two3 hf hz ha hb hp hq h1 h2
  · exact two_gen two4 hf hz ha hb hp hq h1 h2
  · exact two_gen two5 hf hz ha hb hp hq h1 h2
end K66

namespace K66
open PySem PySem.Spec PyProof.Rows L2 LamX DL
/-! ### margins of the even voters -/
theorem pairs_ne {α : Type} : ∀ {zs : List α}, zs.Nodup → ∀ p ∈ pairsS zs, p.1 ≠ p.2 ∧ (p.2, p.1) ∉ pairsS zs
  | [], _, _, h => absurd h List.not_mem_nil
  | a :: r, hn, p, h => by
    obtain ⟨n1, n2⟩ := List.nodup_cons.mp hn
    rcases List.mem_append.mp h with h | h
    · obtain ⟨b, hb, rfl⟩ := List.mem_map.mp h
      refine ⟨fun e => n1 (by rw [show a = b from e]; exact hb), fun h2 => ?_⟩
      rcases List.mem_append.mp h2 with h2 | h2
      · obtain ⟨c, hc, e⟩ := List.mem_map.mp h2
        have e1 : c = a := (Prod.mk.inj e).2
        exact n1 (e1 ▸ hc)
      · exact n1 (pairs_mem h2).2
    · obtain ⟨q1, q2⟩ := pairs_ne n2 p h
      refine ⟨q1, fun h2 => ?_⟩
      rcases List.mem_append.mp h2 with h2 | h2
      · obtain ⟨c, hc, e⟩ := List.mem_map.mp h2
        have e1 : a = p.2 := (Prod.mk.inj e).1
        exact n1 (e1 ▸ (pairs_mem h).2)
      · exact q2 h2
theorem pairs_nd {α : Type} : ∀ {zs : List α}, zs.Nodup → (pairsS zs).Nodup
  | [], _ => List.nodup_nil
  | a :: r, hn => by
    obtain ⟨n1, n2⟩ := List.nodup_cons.mp hn
    refine List.nodup_append.mpr ⟨List.Pairwise.map _ (fun x y h e => h (Prod.mk.inj e).2) n2, pairs_nd n2, fun x hx y hy e => ?_⟩
    obtain ⟨b, hb, rfl⟩ := List.mem_map.mp hx
    subst e
    exact n1 (pairs_mem hy).1
theorem half_even {n : Int} (h : n.fmod 2 = 0) : 2 * (half n : Int) = if n < 0 then -n else n := by
  unfold half
  rw [Int.fmod_eq_emod_of_nonneg _ (by decide)] at h
  rw [Int.fdiv_eq_ediv_of_nonneg _ (by decide)]
  split <;> omega
theorem add_marg {zs : List Str} (hw : Words zs) {l p : Str × Str} (hl : l ∈ pairsS zs) (hp : p ∈ pairsS zs) {n : Int} (hn : n.fmod 2 = 0) : margS p.1 p.2 (addS zs l n) = if p = l then n else 0 := by
  have he := half_even hn
  obtain ⟨l1, l2⟩ := pairs_mem hl
  obtain ⟨p1, p2⟩ := pairs_mem hp
  obtain ⟨nl, rl⟩ := pairs_ne hw.nd l hl
  obtain ⟨np, rp⟩ := pairs_ne hw.nd p hp
  have rv : ¬ (p.1 = l.2 ∧ p.2 = l.1) := fun e => rl (by rw [← e.1, ← e.2]; exact hp)
  have pe : (p.1 = l.1 ∧ p.2 = l.2) ↔ p = l := ⟨fun e => Prod.ext e.1 e.2, fun e => by rw [e]; exact ⟨rfl, rfl⟩⟩
  unfold addS
  rw [marg_rep]
  by_cases h : 0 < n
  · rw [if_pos h, two_marg hw l1 l2 p1 p2 nl np]
    by_cases e : p = l
    · rw [if_pos (pe.mpr e), if_pos e]
      rw [if_neg (by omega)] at he
      omega
    · rw [if_neg fun q => e (pe.mp q), if_neg rv, if_neg e, Int.mul_zero]
  · rw [if_neg h, two_marg hw l2 l1 p1 p2 (fun q => nl q.symm) np, if_neg rv]
    by_cases e : p = l
    · rw [if_pos (pe.mpr e), if_pos e]
      by_cases hz : n < 0
      · rw [if_pos hz] at he
        omega
      · rw [if_neg hz] at he
        omega
    · rw [if_neg fun q => e (pe.mp q), if_neg e, Int.mul_zero]
theorem sum_zero {zs : List Str} (hw : Words zs) {p : Str × Str} (hp : p ∈ pairsS zs) : ∀ (L : List (Str × Str)) (ns : List Int), (∀ l ∈ L, l ∈ pairsS zs) → p ∉ L → (∀ n ∈ ns, n.fmod 2 = 0) → margS p.1 p.2 (sumS zs (L.zip ns)) = 0
  | [], _, _, _, _ => rfl
  | _ :: _, [], _, _, _ => rfl
  | l :: L, n :: ns, hL, hn, he => by
    show margS p.1 p.2 (addS zs l n ++ sumS zs (L.zip ns)) = 0
    rw [marg_app, add_marg hw (hL l (List.mem_cons_self ..)) hp (he n (List.mem_cons_self ..)), if_neg fun e => hn (by rw [e]; exact List.mem_cons_self ..), sum_zero hw hp L ns (fun l h => hL l (List.mem_cons_of_mem _ h)) (fun h => hn (List.mem_cons_of_mem _ h)) fun n h => he n (List.mem_cons_of_mem _ h)]
    rfl
theorem sum_marg {zs : List Str} (hw : Words zs) : ∀ (L : List (Str × Str)) (ns : List Int), L.length = ns.length → (∀ l ∈ L, l ∈ pairsS zs) → L.Nodup → (∀ n ∈ ns, n.fmod 2 = 0) → L.map (fun p => margS p.1 p.2 (sumS zs (L.zip ns))) = ns
  | [], [], _, _, _, _ => rfl
  | [], _ :: _, h, _, _, _ => nomatch h
  | _ :: _, [], h, _, _, _ => nomatch h
  | l :: L, n :: ns, hl, hL, hn, he => by
    obtain ⟨n1, n2⟩ := List.nodup_cons.mp hn
    have ih := sum_marg hw L ns (Nat.succ.inj hl) (fun l h => hL l (List.mem_cons_of_mem _ h)) n2 fun n h => he n (List.mem_cons_of_mem _ h)
    have lm := hL l (List.mem_cons_self ..)
    have ln := he n (List.mem_cons_self ..)
    rw [List.map_cons]
    congr 1
    · show margS l.1 l.2 (addS zs l n ++ sumS zs (L.zip ns)) = n
      rw [marg_app, add_marg hw lm lm ln, if_pos rfl, sum_zero hw lm L ns (fun l h => hL l (List.mem_cons_of_mem _ h)) n1 fun n h => he n (List.mem_cons_of_mem _ h)]
      omega
    · refine Eq.trans (List.map_congr_left fun p hp => ?_) ih
      show margS p.1 p.2 (addS zs l n ++ sumS zs (L.zip ns)) = _
      rw [marg_app, add_marg hw lm (hL p (List.mem_cons_of_mem _ hp)) ln, if_neg fun e => n1 (by rw [← e]; exact hp)]
      omega
end K66

namespace K66
open PySem PySem.Spec PyProof.Rows L2 LamX DL
/-! ### all the voters: margins -/
theorem ord2 : ∀ p ∈ pairsS (List.finRange 2), ballotA p.1 p.2 (List.finRange 2) = 1 ∧ ballotA p.1 p.2 (List.finRange 2).reverse = -1 := by decide +kernel
theorem ord3 : ∀ p ∈ pairsS (List.finRange 3), ballotA p.1 p.2 (List.finRange 3) = 1 ∧ ballotA p.1 p.2 (List.finRange 3).reverse = -1 := by decide +kernel
theorem ord4 : ∀ p ∈ pairsS (List.finRange 4), ballotA p.1 p.2 (List.finRange 4) = 1 ∧ ballotA p.1 p.2 (List.finRange 4).reverse = -1 := by decide +kernel
theorem ord5 : ∀ p ∈ pairsS (List.finRange 5), ballotA p.1 p.2 (List.finRange 5) = 1 ∧ ballotA p.1 p.2 (List.finRange 5).reverse = -1 := by decide +kernel
theorem pairs_map {α β : Type} (f : α → β) : ∀ zs : List α, pairsS (zs.map f) = (pairsS zs).map fun p => (f p.1, f p.2)
  | [] => rfl
  | a :: r => by
    show (r.map f).map (fun b => (f a, b)) ++ pairsS (r.map f) = (r.map (fun b => (a, b)) ++ pairsS r).map fun p => (f p.1, f p.2)
    rw [pairs_map f r, List.map_append, List.map_map, List.map_map]
    rfl
theorem ballot_is (a b : Str) (v : List Str) : ballot a b v = ballotA a b v := rfl
theorem ord_gen {n : Nat} (H : ∀ p ∈ pairsS (List.finRange n), ballotA p.1 p.2 (List.finRange n) = 1 ∧ ballotA p.1 p.2 (List.finRange n).reverse = -1) {f : Fin n → Str} (hf : ∀ x y, f x = f y → x = y) {zs : List Str} (hz : zs = (List.finRange n).map f) {p : Str × Str} (hp : p ∈ pairsS zs) : ballot p.1 p.2 zs = 1 ∧ ballot p.1 p.2 zs.reverse = -1 := by
  subst hz
  rw [pairs_map] at hp
  obtain ⟨q, hq, rfl⟩ := List.mem_map.mp hp
  rw [ballot_is, ballot_is, ← List.map_reverse, ballotA_map hf, ballotA_map hf]
  exact H q hq
theorem ord_is {zs : List Str} (hw : Words zs) {p : Str × Str} (hp : p ∈ pairsS zs) : ballot p.1 p.2 zs = 1 ∧ ballot p.1 p.2 zs.reverse = -1 := by
  have l1 := hw.lo
  have l2 := hw.hi
  have c : zs.length = 2 ∨ zs.length = 3 ∨ zs.length = 4 ∨ zs.length = 5 := by omega
  rcases c with c | c | c | c <;> obtain ⟨f, hf, hz⟩ := fin_map zs c hw.nd
  · exact ord_gen ord2 hf hz hp
  · exact ord_gen ord3 hf hz hp
  · exact ord_gen ord4 hf hz hp
  · exact ord_gen ord5 hf hz hp
theorem margs_sum {zs : List Str} (hw : Words zs) {ns : List Int} (hl : ns.length = (pairsS zs).length) (he : ∀ n ∈ ns, n.fmod 2 = 0) : margsS zs (sumS zs ((pairsS zs).zip ns)) = ns := sum_marg hw (pairsS zs) ns hl.symm (fun _ h => h) (pairs_nd hw.nd) he
theorem margs_even {zs : List Str} (hw : Words zs) {ns : List Int} (hl : ns.length = (pairsS zs).length) (he : ∀ n ∈ ns, n.fmod 2 = 0) : margsS zs (evenS zs ns) = ns := by
  have e := margs_sum hw hl he
  unfold evenS
  by_cases h : (sumS zs ((pairsS zs).zip ns)).isEmpty = true
  · rw [if_pos h]
    rw [List.isEmpty_iff.mp h] at e
    refine Eq.trans (List.map_congr_left fun p hp => ?_) e
    obtain ⟨q1, q2⟩ := ord_is hw hp
    show ballot p.1 p.2 zs + (ballot p.1 p.2 zs.reverse + 0) = 0
    rw [q1, q2]
    rfl
  · rw [if_neg h]
    exact e
end K66

namespace K66
open PySem PySem.Spec PyProof.Rows L2 LamX DL
/-! ### the duels' voters: margins -/
theorem margs_cons {zs : List Str} (hw : Words zs) (vs : List (List Str)) : margsS zs (zs :: vs) = (margsS zs vs).map fun n => 1 + n := by
  unfold margsS
  rw [List.map_map]
  refine List.map_congr_left fun p hp => ?_
  show ballot p.1 p.2 zs + margS p.1 p.2 vs = 1 + margS p.1 p.2 vs
  rw [(ord_is hw hp).1]
theorem left_back : ∀ ns : List Int, (leftN ns).map (fun n => 1 + n) = ns
  | [] => rfl
  | n :: r => by
    show (1 + (n - 1)) :: (leftN r).map (fun n => 1 + n) = n :: r
    rw [left_back r]
    congr 1
    omega
theorem margs_voters_even {zs : List Str} (hw : Words zs) {ns : List Int} (hl : ns.length = (pairsS zs).length) (he : ∀ n ∈ ns, n.fmod 2 = 0) : margsS zs (votersS zs ns) = ns := by
  cases ns with
  | nil =>
    have e : pairsS zs = [] := List.length_eq_zero_iff.mp hl.symm
    unfold margsS
    rw [e]
    rfl
  | cons n r =>
    rw [votersS_cons, if_pos (he n (List.mem_cons_self ..))]
    exact margs_even hw hl he
theorem fmod_left {n : Int} (h : n.fmod 2 ≠ 0) : (n - 1).fmod 2 = 0 := by
  rw [Int.fmod_eq_emod_of_nonneg _ (by decide)] at h ⊢
  omega
theorem margs_voters_odd {zs : List Str} (hw : Words zs) {ns : List Int} (hl : ns.length = (pairsS zs).length) (he : ∀ n ∈ ns, n.fmod 2 ≠ 0) : margsS zs (votersS zs ns) = ns := by
  cases ns with
  | nil =>
    have e : pairsS zs = [] := List.length_eq_zero_iff.mp hl.symm
    unfold margsS
    rw [e]
    rfl
  | cons n r =>
    have hl2 : (leftN (n :: r)).length = (pairsS zs).length := by
      unfold leftN
      rw [List.length_map]
      exact hl
    have he2 : ∀ m ∈ leftN (n :: r), m.fmod 2 = 0 := fun m hm => by
      obtain ⟨k, hk, rfl⟩ := List.mem_map.mp hm
      exact fmod_left (he k hk)
    rw [votersS_cons, if_neg (he n (List.mem_cons_self ..)), margs_cons hw]
    by_cases h : (leftN (n :: r)).any (fun k => !(k == 0)) = true
    · rw [if_pos h, margs_even hw hl2 he2]
      exact left_back _
    · rw [if_neg h]
      have z : ∀ m ∈ leftN (n :: r), m = 0 := fun m hm => Classical.byContradiction fun hn => h (List.any_eq_true.mpr ⟨m, hm, by simpa using hn⟩)
      have e : margsS zs [] = leftN (n :: r) := by
        rw [List.eq_replicate_iff.mpr ⟨hl2, z⟩]
        refine List.eq_replicate_iff.mpr ⟨by unfold margsS; rw [List.length_map], fun b hb => ?_⟩
        obtain ⟨p, _, rfl⟩ := List.mem_map.mp hb
        rfl
      rw [e]
      exact left_back _
def sgn (n : Int) : Int := if n = 0 then 0 else if 0 < n then 1 else -1
def signs1 (ns : List Int) : Prop := ∀ n ∈ ns, n = -1 ∨ n = 0 ∨ n = 1
/-- the margins have the duels' signs -/
theorem duel_signs {zs : List Str} (hw : Words zs) {ns : List Int} (hl : ns.length = (pairsS zs).length) (hs : signs1 ns) (odd : Bool) (hz : ¬ (odd = true ∧ 0 ∈ ns)) : (margsS zs (votersS zs (ns.map fun s => if odd = true then s else 2 * s))).map sgn = ns := by
  cases odd with
  | true =>
    have e : (ns.map fun s => if true = true then s else 2 * s) = ns := by simp
    rw [e, margs_voters_odd hw hl fun n hn => ?_]
    · refine Eq.trans (List.map_congr_left fun n hn => ?_) (List.map_id _)
      rcases hs n hn with rfl | rfl | rfl <;> rfl
    · rcases hs n hn with rfl | rfl | rfl
      · decide
      · exact absurd ⟨rfl, hn⟩ hz
      · decide
  | false =>
    have e : (ns.map fun s => if false = true then s else 2 * s) = ns.map fun s => 2 * s := by simp
    rw [e, margs_voters_even hw (by rw [List.length_map]; exact hl) fun n hn => ?_]
    · rw [List.map_map]
      refine Eq.trans (List.map_congr_left fun n hn => ?_) (List.map_id _)
      rcases hs n hn with rfl | rfl | rfl <;> rfl
    · obtain ⟨m, hm, rfl⟩ := List.mem_map.mp hn
      rcases hs m hm with rfl | rfl | rfl <;> decide
end K66

namespace K66
open PySem PySem.Spec PyProof.Rows L2 LamX DL
/-! ### the voters are well formed -/
theorem rest_perm : ∀ {zs : List Str} {a b : Str}, zs.Nodup → a ∈ zs → b ∈ zs → a ≠ b → (a :: b :: restS zs a b).Perm zs := fun {zs a b} hn ha hb hne => by
  have e : restS zs a b = (zs.erase a).erase b := by
    rw [hn.erase_eq_filter, (hn.sublist (List.filter_sublist ..)).erase_eq_filter, List.filter_filter]
    unfold restS
    refine List.filter_congr fun z _ => ?_
    rw [Bool.eq_iff_iff]
    simp only [Bool.not_eq_true', Bool.or_eq_false_iff, beq_eq_false_iff_ne, Bool.and_eq_true, bne_iff_ne]
    exact ⟨fun h => ⟨fun e => h.2 e.symm, fun e => h.1 e.symm⟩, fun h => ⟨fun e => h.2 e.symm, fun e => h.1 e.symm⟩⟩
  rw [e]
  have hb2 : b ∈ zs.erase a := (List.mem_erase_of_ne fun e => hne e.symm).mpr hb
  exact ((List.perm_cons_erase hb2).symm.cons a).trans (List.perm_cons_erase ha).symm
theorem two_perm {zs : List Str} {a b : Str} (hn : zs.Nodup) (ha : a ∈ zs) (hb : b ∈ zs) (hne : a ≠ b) : ∀ v ∈ twoS zs a b, v.Perm zs := fun v hv => by
  have p := rest_perm hn ha hb hne
  rcases List.mem_cons.mp hv with rfl | hv
  · exact p
  · rw [List.mem_singleton.mp hv]
    refine List.Perm.trans ?_ p
    refine (List.perm_append_comm).trans ?_
    exact ((List.reverse_perm _).cons b).cons a
theorem add_perm {zs : List Str} (hn : zs.Nodup) {l : Str × Str} (hl : l ∈ pairsS zs) (n : Int) : ∀ v ∈ addS zs l n, v.Perm zs := fun v hv => by
  obtain ⟨l1, l2⟩ := pairs_mem hl
  obtain ⟨nl, _⟩ := pairs_ne hn l hl
  obtain ⟨vs, h1, h2⟩ := List.mem_flatten.mp hv
  rw [(List.mem_replicate.mp h1).2] at h2
  by_cases h : 0 < n
  · rw [if_pos h] at h2
    exact two_perm hn l1 l2 nl v h2
  · rw [if_neg h] at h2
    exact two_perm hn l2 l1 (fun e => nl e.symm) v h2
theorem sum_perm {zs : List Str} (hn : zs.Nodup) : ∀ (L : List ((Str × Str) × Int)), (∀ q ∈ L, q.1 ∈ pairsS zs) → ∀ v ∈ sumS zs L, v.Perm zs
  | [], _, v, hv => absurd hv List.not_mem_nil
  | q :: r, h, v, hv => by
    rcases List.mem_append.mp hv with hv | hv
    · exact add_perm hn (h q (List.mem_cons_self ..)) _ v hv
    · exact sum_perm hn r (fun q hq => h q (List.mem_cons_of_mem _ hq)) v hv
theorem even_perm {zs : List Str} (hn : zs.Nodup) (ns : List Int) : ∀ v ∈ evenS zs ns, v.Perm zs := fun v hv => by
  unfold evenS at hv
  split at hv
  · rcases List.mem_cons.mp hv with rfl | hv
    · exact .refl _
    · rw [List.mem_singleton.mp hv]
      exact List.reverse_perm _
  · exact sum_perm hn _ (fun q hq => (List.of_mem_zip hq).1) v hv
theorem voters_perm {zs : List Str} (hn : zs.Nodup) (ns : List Int) : ∀ v ∈ votersS zs ns, v.Perm zs := fun v hv => by
  cases ns with
  | nil => exact absurd hv List.not_mem_nil
  | cons n r =>
    rw [votersS_cons] at hv
    split at hv
    · exact even_perm hn _ v hv
    · rcases List.mem_cons.mp hv with rfl | hv
      · exact .refl _
      · split at hv
        · exact even_perm hn _ v hv
        · exact absurd hv List.not_mem_nil
end K66

namespace K66
open PySem PySem.Spec PyProof.Rows L2 LamX DL
/-! ### so they are voters, in the law's eyes -/
theorem leS_anti {a b : Str} (h1 : leS a b = true) (h2 : leS b a = true) : a = b := str_ext (List.le_antisymm (of_decide_eq_true h1) (of_decide_eq_true h2))
theorem srtS_of {v zs : List Str} (h : v.Perm zs) : srtS v = srtS zs := by
  refine List.Perm.eq_of_pairwise (le := fun a b => leS a b = true) (fun a b _ _ h1 h2 => leS_anti h1 h2) (srtS_pair v) (srtS_pair zs) ?_
  exact (srtS_perm v).trans (h.trans (srtS_perm zs).symm)
theorem dc_nodup (xs : List Str) (h : xs.Nodup) : ∀ i ≤ xs.length, dcN xs i = i
  | 0, _ => rfl
  | i + 1, hi => by
    have hi2 : i < xs.length := hi
    have q : (xs.take i).any (· == xs.getD i Str.empty) = false := by
      rw [List.any_eq_false]
      intro z hz e
      have e : z = xs.getD i Str.empty := eq_of_beq e
      rw [List.getD_eq_getElem?_getD, List.getElem?_eq_getElem hi2] at e
      obtain ⟨j, hj, e2⟩ := List.mem_iff_getElem.mp hz
      rw [List.length_take] at hj
      rw [List.getElem_take] at e2
      have := (List.getElem_inj (h₀ := show j < xs.length by omega) (h₁ := hi2) h).mp (e2.trans e)
      omega
    unfold dcN
    rw [q, if_neg Bool.false_ne_true, dc_nodup xs h i (by omega)]
theorem okVs_of {zs : List Str} (hw : Words zs) {vs : List (List Str)} (h1 : 1 ≤ vs.length) (h2 : vs.length ≤ 300) (hp : ∀ v ∈ vs, v.Perm zs) : okVs vs := by
  cases vs with
  | nil => exact absurd h1 (by decide)
  | cons v0 r =>
    have p0 := hp v0 (List.mem_cons_self ..)
    have l0 := p0.length_eq
    have lo := hw.lo
    have hi := hw.hi
    refine ⟨h2, by omega, by omega, sortOk_strs (by omega), fun v hv => ?_⟩
    have p := hp v hv
    have l := p.length_eq
    refine ⟨by omega, fun z hz => ?_, dc_nodup v (p.nodup_iff.mpr hw.nd) _ (Nat.le_refl _), sortOk_strs (by omega), ?_⟩
    · have w := hw.wd z (p.mem_iff.mp hz)
      have := wordB_len w
      exact ⟨w, by omega⟩
    · rw [srt_map, srt_map, srtS_of p, srtS_of p0]
theorem okM_of {zs : List Str} (hw : Words zs) {vs : List (List Str)} (h2 : vs.length ≤ 300) (hp : ∀ v ∈ vs, v.Perm zs) : okM zs vs := by
  have hi := hw.hi
  exact ⟨by omega, by omega, fun v hv z hz => (hp v hv).mem_iff.mpr hz⟩
end K66

namespace K66
open PySem PySem.Spec PyProof.Rows L2 LamX DL
/-! ### how many voters -/
theorem two_len (zs : List Str) (a b : Str) : (twoS zs a b).length = 2 := rfl
theorem addS_len2 (zs : List Str) (l : Str × Str) (n : Int) : (addS zs l n).length = half n * 2 := by
  unfold addS
  rw [List.length_flatten, List.map_replicate, List.sum_replicate_nat]
  split <;> rfl
theorem half_le2 {n : Int} (h : n.natAbs ≤ 2) : half n ≤ 1 := by
  unfold half
  rw [Int.fdiv_eq_ediv_of_nonneg _ (by decide)]
  split <;> omega
theorem sumS_even (zs : List Str) : ∀ L : List ((Str × Str) × Int), (sumS zs L).length % 2 = 0
  | [] => rfl
  | q :: r => by
    have h := sumS_even zs r
    show (addS zs q.1 q.2 ++ sumS zs r).length % 2 = 0
    rw [List.length_append, addS_len2]
    omega
theorem sumS_le (zs : List Str) : ∀ L : List ((Str × Str) × Int), (∀ q ∈ L, q.2.natAbs ≤ 2) → (sumS zs L).length ≤ 2 * L.length
  | [], _ => Nat.le_refl _
  | q :: r, h => by
    have h1 := sumS_le zs r fun q hq => h q (List.mem_cons_of_mem _ hq)
    have h2 := half_le2 (h q (List.mem_cons_self ..))
    show (addS zs q.1 q.2 ++ sumS zs r).length ≤ 2 * (q :: r).length
    rw [List.length_append, addS_len2, List.length_cons]
    omega
theorem evenS_sizes (zs : List Str) {ns : List Int} (h : ∀ n ∈ ns, n.natAbs ≤ 2) (hl : ns.length ≤ 100) : 1 ≤ (evenS zs ns).length ∧ (evenS zs ns).length % 2 = 0 ∧ (evenS zs ns).length ≤ 200 := by
  unfold evenS
  split
  · exact ⟨Nat.le_add_left 1 1, show 2 % 2 = 0 from rfl, show 2 ≤ 200 by decide⟩
  · rename_i hz
    have h1 := sumS_even zs ((pairsS zs).zip ns)
    have h2 := sumS_le zs ((pairsS zs).zip ns) fun q hq => h _ (List.of_mem_zip hq).2
    rw [List.length_zip] at h2
    have h3 : (sumS zs ((pairsS zs).zip ns)).length ≠ 0 := fun e => hz (by rw [List.length_eq_zero_iff.mp e]; rfl)
    omega
theorem voters_sizes (zs : List Str) {ns : List Int} (hn : ns ≠ []) (h : ∀ n ∈ ns, n.natAbs ≤ 2) (h1 : (∀ n ∈ ns, n.fmod 2 = 0) ∨ ∀ n ∈ ns, n = 1 ∨ n = -1) (hl : ns.length ≤ 100) : 1 ≤ (votersS zs ns).length ∧ (votersS zs ns).length ≤ 300 ∧ ((∀ n ∈ ns, n = 1 ∨ n = -1) → (votersS zs ns).length % 2 = 1) := by
  cases ns with
  | nil => exact absurd rfl hn
  | cons n r =>
    have hm := List.mem_cons_self (a := n) (l := r)
    rw [votersS_cons]
    by_cases hz : n.fmod 2 = 0
    · rw [if_pos hz]
      obtain ⟨q1, q2, q3⟩ := evenS_sizes zs h hl
      refine ⟨q1, by omega, fun h2 => ?_⟩
      rcases h2 n hm with rfl | rfl <;> exact absurd hz (by decide)
    · rw [if_neg hz]
      have ho : ∀ k ∈ n :: r, k = 1 ∨ k = -1 := h1.resolve_left fun q => hz (q n hm)
      have hl2 : ∀ m ∈ leftN (n :: r), m.natAbs ≤ 2 := fun m hm => by
        obtain ⟨k, hk, rfl⟩ := List.mem_map.mp hm
        rcases ho k hk with rfl | rfl <;> decide
      obtain ⟨q1, q2, q3⟩ := evenS_sizes zs hl2 (by unfold leftN; rw [List.length_map]; exact hl)
      split
      · rw [List.length_cons]
        exact ⟨by omega, by omega, fun _ => by omega⟩
      · exact ⟨Nat.le_refl 1, show 1 ≤ 300 by decide, fun _ => rfl⟩
end K66

namespace K66
open PySem PySem.Spec PyProof.Rows L2 LamX DL
/-! ### draws that always come -/
theorem upto_mono {cs : List Int} {t t' : Int} {G : DG} (h : Upto cs t G) (hl : t ≤ t') : Upto cs t' G := ⟨h.1, h.2.1, Int.le_trans h.2.2.1 hl, h.2.2.2⟩
theorem upto_rest {cs : List Int} {t n : Int} {G : DG} (h : Upto cs t G) (hn : 0 < n) : Upto cs t { G with rest := G.rest.fdiv n } := by
  obtain ⟨h1, h2, h3, h4, h5⟩ := h
  exact ⟨h1, h2, h3, Int.fdiv_nonneg h4 (Int.le_of_lt hn), h5⟩
theorem draw_up {cs : List Int} {t n : Int} {G : DG} (h : Upto cs t G) (ht : t < 2 ^ 200) (hn : 0 < n) : ∃ d G', drawn G n = some (d, G') ∧ 0 ≤ d ∧ d < n ∧ Upto cs (t + 1) G' := by
  have key : ∀ G1, refill G = some G1 → Upto cs (t + 1) G1 → ∃ d G', drawn G n = some (d, G') ∧ 0 ≤ d ∧ d < n ∧ Upto cs (t + 1) G' := fun G1 e u => by
    refine ⟨G1.rest.fmod n, { G1 with rest := G1.rest.fdiv n }, ?_, Int.fmod_nonneg_of_pos _ hn, Int.fmod_lt_of_pos _ hn, upto_rest u hn⟩
    unfold drawn
    rw [e]
    rfl
  obtain ⟨gr, cells, re, tu⟩ := G
  have h0 := h
  obtain ⟨h1, h2, h3, h4, h5⟩ := h
  have h1 : cells = cs := h1
  have h2 : 0 ≤ tu := h2
  have h3 : tu ≤ t := h3
  have h4 : 0 ≤ re := h4
  by_cases hz : re = 0
  · subst hz
    cases gr with
    | cons x r => exact key ⟨r, cells, x, tu⟩ rfl ⟨h1, h2, by show tu ≤ t + 1; omega, h5 x (List.mem_cons_self ..), fun y hy => h5 y (List.mem_cons_of_mem _ hy)⟩
    | nil =>
      refine key ⟨[], cells, blended cells (tu + 1), tu + 1⟩ ?_ ⟨h1, by show 0 ≤ tu + 1; omega, by show tu + 1 ≤ t + 1; omega, blended_nn _ _, fun y hy => absurd hy List.not_mem_nil⟩
      show (if (0 : Int) = 0 then (if 0 ≤ tu ∧ tu < 2 ^ 200 then some (⟨[], cells, blended cells (tu + 1), tu + 1⟩ : DG) else none) else some ⟨[], cells, 0, tu⟩) = _
      rw [if_pos rfl, if_pos ⟨h2, by omega⟩]
  · exact key ⟨gr, cells, re, tu⟩ (if_neg hz) (upto_mono h0 (by omega))
theorem mdraw_up {cs : List Int} {t n : Int} {G : DG} (h : Upto cs t G) (ht : t < 2 ^ 200) (hn : 0 < n) (hn2 : n < 1073741824) : ∃ d G', m_draw [.dr, .d (.int n)] G = some (.ok (.d (.int d)), G') ∧ 0 ≤ d ∧ d < n ∧ Upto cs (t + 1) G' := by
  obtain ⟨d, G', e, h1, h2, u⟩ := draw_up h ht hn
  refine ⟨d, G', ?_, h1, h2, u⟩
  rw [draw_is ⟨hn, hn2⟩]
  show (drawn G n).map (fun p => (Rs.ok (DV.d (.int p.1)), p.2)) = _
  rw [e]
  rfl
theorem mpick_up {cs : List Int} {t : Int} {G : DG} {ds : List D} (h : Upto cs t G) (ht : t < 2 ^ 200) (h1 : 0 < ds.length) (h2 : ds.length ≤ 100000) : ∃ d G', m_pick [.dr, .d (.list ds)] G = some (.ok (.d d), G') ∧ d ∈ ds ∧ Upto cs (t + 1) G' := by
  obtain ⟨i, G', e, q1, q2, u⟩ := draw_up (n := (ds.length : Nat)) h ht (by omega)
  have hi : i.toNat < ds.length := by omega
  have ea : atI ds i = some ds[i.toNat] := by
    have q : atI ds ((i.toNat : Nat) : Int) = some ds[i.toNat] := atI_nat (by rw [List.getElem?_eq_getElem hi])
    rwa [show ((i.toNat : Nat) : Int) = i by omega] at q
  refine ⟨ds[i.toNat], G', ?_, List.getElem_mem hi, u⟩
  rw [pick_is ⟨h1, h2⟩]
  show ((drawn G (ds.length : Nat)).bind fun p => (atI ds p.1).map fun d => (d, p.2)).map (fun p => (Rs.ok (DV.d p.1), p.2)) = _
  rw [e]
  show ((atI ds i).map fun d => (d, G')).map (fun p => (Rs.ok (DV.d p.1), p.2)) = _
  rw [ea]
  rfl
/-- [pick(draws, pool) for x in ..] -/
theorem lc_picks {cs : List Int} {g : D → SS → Option SS} {ce : SS → M DV} {W : SS} {pool : List D} (h1 : 0 < pool.length) (h2 : pool.length ≤ 100000) : ∀ (ds acc : List D) (G : DG) (t : Int), (∀ d ∈ ds, ∃ S1, g d W = some S1 ∧ ce S1 = m_pick [.dr, .d (.list pool)]) → Upto cs t G → t + ds.length < 2 ^ 200 →
    ∃ es G', lcL g tYesC ce W ds acc G = some (.ok (acc ++ es), G') ∧ es.length = ds.length ∧ (∀ e ∈ es, e ∈ pool) ∧ Upto cs (t + ds.length) G'
  | [], acc, G, t, _, u, _ => ⟨[], G, by rw [List.append_nil]; rfl, rfl, fun _ h => absurd h List.not_mem_nil, by simpa using u⟩
  | d :: r, acc, G, t, hg, u, ht => by
    rw [List.length_cons] at ht
    obtain ⟨S1, e1, e2⟩ := hg d (List.mem_cons_self ..)
    obtain ⟨x, G1, e3, hx, u1⟩ := mpick_up (ds := pool) u (by omega) h1 h2
    obtain ⟨es, G2, e4, l4, m4, u4⟩ := lc_picks h1 h2 r (acc ++ [x]) G1 (t + 1) (fun y hy => hg y (List.mem_cons_of_mem _ hy)) u1 (by omega)
    refine ⟨x :: es, G2, ?_, by rw [List.length_cons, List.length_cons, l4], fun e he => ?_, ?_⟩
    · unfold lcL
      rw [e1, mo_mp, mb_mp]
      show mb (nx (mp true)) (fun k => if k = true then mb (nx (ce S1)) fun y => onD y fun z => lcL g tYesC ce W r (acc ++ [z]) else lcL g tYesC ce W r acc) G = _
      rw [nx_mp, mb_mp, if_pos rfl, e2, mb_some (nx_some e3)]
      show lcL g tYesC ce W r (acc ++ [x]) G1 = _
      rw [e4, List.append_assoc]
      rfl
    · rcases List.mem_cons.mp he with rfl | he
      · exact hx
      · exact m4 e he
    · rw [List.length_cons]
      have q : t + 1 + (r.length : Int) = t + ((r.length + 1 : Nat) : Int) := by omega
      rwa [q] at u4
end K66

namespace K66
open PySem PySem.Spec PyProof.Rows L2 LamX DL
/-! ### the calls of one lap -/
abbrev toldD (zs : List Str) (ns : List Int) : D := .tuple [.str duels, txs zs, ins ns]
theorem wd_len {zs : List Str} (hw : Words zs) : ∀ z ∈ zs, z.length ≤ 100000 := fun z hz => by
  have := wordB_len (hw.wd z hz)
  omega
theorem pairs_pos {zs : List Str} (hw : Words zs) : 1 ≤ (pairsS zs).length ∧ (pairsS zs).length ≤ 25 := by
  have h1 := hw.lo
  have h2 := hw.hi
  refine ⟨?_, Nat.le_trans (pairs_len zs) (Nat.mul_le_mul h2 h2)⟩
  match zs, h1 with
  | a :: b :: r, _ =>
    show 1 ≤ (((b :: r).map fun y => (a, y)) ++ pairsS (b :: r)).length
    rw [List.length_append, List.length_map, List.length_cons]
    omega
theorem ns_ne {zs : List Str} {ns : List Int} (hw : Words zs) (hl : ns.length = (pairsS zs).length) : ns ≠ [] := fun z => by
  have := (pairs_pos hw).1
  rw [← hl, z] at this
  exact absurd this (by decide)
theorem table_told {zs : List Str} {ns : List Int} (hw : Words zs) (hl : ns.length = (pairsS zs).length) (hs : signs1 ns) : m_is_duels [.d (toldD zs ns)] = mp (.d (.bool true)) := by
  have h5 := hw.hi
  have h2 := hw.lo
  have hp := pairs_pos hw
  have q : m_is_duels [.d (toldD zs ns)] = mp (.d (.bool (tableB duels duels zs (ns.map .int)))) := duels_is (by omega) (wd_len hw) (by rw [List.length_map, hl]; omega)
  rw [q]
  have e : tableB duels duels zs (ns.map .int) = true := by
    unfold tableB
    rw [decide_eq_true rfl, hw.are, decide_eq_true (show (2 : Int) ≤ (zs.length : Int) by omega), decide_eq_true (show (zs.length : Int) ≤ 5 by omega), decide_eq_true (show (ns.map PyData.int).length = (pairsS zs).length by rw [List.length_map, hl])]
    show (ns.map PyData.int).all okN = true
    rw [List.all_eq_true]
    intro d hd
    obtain ⟨n, hn, rfl⟩ := List.mem_map.mp hd
    show (true && signB n) = true
    rcases hs n hn with rfl | rfl | rfl <;> decide
  rw [e]
theorem signs_small {ns : List Int} (hs : signs1 ns) : ∀ n ∈ ns, n.natAbs ≤ 1 := fun n hn => by
  rcases hs n hn with rfl | rfl | rfl <;> decide
theorem duel_is {zs : List Str} {ns : List Int} (hw : Words zs) (hl : ns.length = (pairsS zs).length) (hs : signs1 ns) (odd : Bool) : m_duel [.d (toldD zs ns), .d (.bool odd)] = mp (.d (duelS zs ns odd)) := by
  have h5 := hw.hi
  have hp := pairs_pos hw
  show mb (m_is_duels [.d (toldD zs ns)]) (fun b => onB b fun k => if k = true then onTab (.d (toldD zs ns)) (fun _ zs ds => onNs (.d (.tuple ds)) fun ns => gd (okD zs ns) (mp (DV.d (duelS zs ns odd)))) else bad "BadDuels") = _
  rw [table_told hw hl hs, mb_mp]
  show onTab (.d (toldD zs ns)) (fun _ zs ds => onNs (.d (.tuple ds)) fun ns => gd (okD zs ns) (mp (DV.d (duelS zs ns odd)))) = _
  rw [onTab_is (by omega) (wd_len hw) (by rw [List.length_map, hl]; omega)]
  show onNs (.d (ins ns)) (fun ns => gd (okD zs ns) (mp (DV.d (duelS zs ns odd)))) = _
  rw [onNs_is, gd_yes ⟨ns_ne hw hl, by omega, by omega, fun n hn => Nat.le_trans (signs_small hs n hn) (by decide)⟩]
theorem duel_odd_er {zs : List Str} {ns : List Int} (hw : Words zs) (hl : ns.length = (pairsS zs).length) (hs : signs1 ns) {d : D} (hd : d = .none ∨ d = .int 0 ∨ d = .int 1 ∨ d = .str "True" ∨ d = .tuple []) : m_duel [.d (toldD zs ns), .d d] = me ⟨"BadOdd", []⟩ := by
  show mb (m_is_duels [.d (toldD zs ns)]) _ = _
  rw [table_told hw hl hs, mb_mp]
  rcases hd with rfl | rfl | rfl | rfl | rfl <;> rfl
theorem duel_bad_er {d e : D} (h : m_is_duels [.d d] = mp (.d (.bool false))) : m_duel [.d d, .d e] = me ⟨"BadDuels", []⟩ := by
  show mb (m_is_duels [.d d]) _ = _
  rw [h, mb_mp]
  rfl
/-! ### voters found -/
abbrev votS (zs : List Str) (ns : List Int) (odd : Bool) : List (List Str) := votersS zs (ns.map fun s => if odd = true then s else 2 * s)
theorem duelS_none {zs : List Str} {ns : List Int} {odd : Bool} (h : odd = true ∧ 0 ∈ ns) : duelS zs ns odd = .none := if_pos h
theorem duelS_vot {zs : List Str} {ns : List Int} {odd : Bool} (h : ¬ (odd = true ∧ 0 ∈ ns)) : duelS zs ns odd = vot (votS zs ns odd) := if_neg h
theorem vot_sizes {zs : List Str} {ns : List Int} (hw : Words zs) (hl : ns.length = (pairsS zs).length) (hs : signs1 ns) {odd : Bool} (h : ¬ (odd = true ∧ 0 ∈ ns)) : 1 ≤ (votS zs ns odd).length ∧ (votS zs ns odd).length ≤ 300 ∧ (odd = true → (votS zs ns odd).length % 2 = 1) := by
  have hp := pairs_pos hw
  have hne : (ns.map fun s => if odd = true then s else 2 * s) ≠ [] := fun z => ns_ne hw hl (List.map_eq_nil_iff.mp z)
  have sm : ∀ n ∈ ns.map (fun s => if odd = true then s else 2 * s), n.natAbs ≤ 2 := fun n hn => by
    obtain ⟨s, hs2, rfl⟩ := List.mem_map.mp hn
    cases odd <;> rcases hs s hs2 with rfl | rfl | rfl <;> decide
  have ll : (ns.map fun s => if odd = true then s else 2 * s).length ≤ 100 := by
    rw [List.length_map]
    omega
  cases odd with
  | true =>
    have o1 : ∀ n ∈ ns.map (fun s => if true = true then s else 2 * s), n = 1 ∨ n = -1 := fun n hn => by
      obtain ⟨s, hs2, rfl⟩ := List.mem_map.mp hn
      rcases hs s hs2 with rfl | rfl | rfl
      · exact .inr rfl
      · exact absurd ⟨rfl, hs2⟩ h
      · exact .inl rfl
    obtain ⟨q1, q2, q3⟩ := voters_sizes zs hne sm (.inr o1) ll
    exact ⟨q1, q2, fun _ => q3 o1⟩
  | false =>
    have e1 : ∀ n ∈ ns.map (fun s => if false = true then s else 2 * s), n.fmod 2 = 0 := fun n hn => by
      obtain ⟨s, hs2, rfl⟩ := List.mem_map.mp hn
      rcases hs s hs2 with rfl | rfl | rfl <;> decide
    obtain ⟨q1, q2, q3⟩ := voters_sizes zs hne sm (.inl e1) ll
    exact ⟨q1, q2, fun z => nomatch z⟩
theorem vot_perm {zs : List Str} {ns : List Int} (hw : Words zs) (odd : Bool) : ∀ v ∈ votS zs ns odd, v.Perm zs := voters_perm hw.nd _
theorem duel_same {zs : List Str} {ns : List Int} (hw : Words zs) (hl : ns.length = (pairsS zs).length) (hs : signs1 ns) (odd : Bool) : sameD (duelS zs ns odd) := by
  by_cases h : odd = true ∧ 0 ∈ ns
  · exact .inl (duelS_none h)
  · obtain ⟨q1, q2, _⟩ := vot_sizes hw hl hs h
    have h5 := hw.hi
    refine .inr ⟨_, duelS_vot h, by omega, fun v hv => ?_⟩
    rw [(vot_perm hw odd v hv).length_eq]
    omega
end K66

namespace K66
open PySem PySem.Spec PyProof.Rows L2 LamX DL
/-! ### the inner loop -/
theorem ev_kw {f : List DV → M DV} {perm : List Nat} {n : Nat} {e : SS → M (List DV)} {xs : List DV} {S : SS} (h1 : e S = mp xs) (hl : xs.length = n) (hv : (perm.map fun j => xs.getD j (.d .none)).all (fun x => !isVl x) = true) : cKw f perm n e S = f (perm.map fun j => xs.getD j (.d .none)) := by
  unfold cKw
  rw [h1, mb_mp, gd_yes ⟨hl, hv⟩]
theorem in_ints (ns : List Int) (k : Int) : fIn (.d (.int k)) (.d (ins ns)) = mp (.d (.bool (decide (k ∈ ns)))) := by
  show mb (mo (some (PyData.int k))) (fun d => gd (eqOk d = true ∧ eqOk (.list (ns.map .int)) = true) (mp (DV.d (.bool ((ns.map PyData.int).any fun z => PyData.eqv z d))))) = _
  rw [mo_some, mb_mp, gd_yes ⟨rfl, eqOk_ints ns⟩]
  have e : ((ns.map PyData.int).any fun z => PyData.eqv z (.int k)) = decide (k ∈ ns) := by
    rw [Bool.eq_iff_iff, List.any_eq_true, decide_eq_true_eq]
    constructor
    · rintro ⟨d, hd, e⟩
      obtain ⟨n, hn, rfl⟩ := List.mem_map.mp hd
      rw [eqv_int] at e
      have e : n = k := by simpa using e
      rw [← e]
      exact hn
    · exact fun h => ⟨.int k, List.mem_map.mpr ⟨k, h, rfl⟩, by rw [eqv_int]; simp⟩
  rw [e]
theorem ne_bools (a b : Bool) : fNe (.d (.bool a)) (.d (.bool b)) = mp (.d (.bool (!(a == b)))) := by
  rw [fNe_d rfl rfl]
  cases a <;> cases b <;> simp [PyData.eqv]
theorem is_none_none : fIs (.d .none) (.d .none) = mp (.d (.bool true)) := rfl
abbrev sl (sc : List Int) (zs : List Str) (ns : List Int) (x2 x4 o x8 x9 x10 x11 x12 x13 : Option DV) : SS := [some (.sc sc), some .dr, x2, some (.d (txs zs)), x4, some (.d (ins ns)), some (.d (toldD zs ns)), o, x8, x9, x10, x11, x12, x13]
def c13 : SS → M DV := cApp fTupOf (cCons (cFz (cLc (cSeqH (cVar 9)) (gN 13) tYesC (cIf (cTest (cBin fEq (cVar 13) (cK (.int 0)))) (cK (.int 0)) (cIf (cTest (cBin fGt (cVar 13) (cK (.int 0)))) (cK (.int 1)) (cUn fNeg (cK (.int 1))))) [13])) cNil)
def bOdd2 : TSa := (aIf (cTest (cBin fIsnt (cVar 8) (cK .none))) ((aSeq (aSet 9 (cNv (cIf (cAndT (cTest (cCall m_vots (cCons (cVar 8) cNil))) (cTest (cBin fEq (cApp fTupOf (cCons (cApp fSorted (cCons (cBin fIx (cVar 8) (cK (.int 0))) cNil)) cNil)) (cVar 3)))) (cCall m_marg (cCons (cVar 3) (cCons (cVar 8) cNil))) (cApp fTup cNil))))
    (aIf (cOrT (cTest (cBin fNe c13 (cVar 5))) (cAndT (cTest (cVar 7)) (cTest (cBin fNe (cBin fMod (cApp fLen (cCons (cVar 8) cNil)) (cK (.int 2))) (cK (.int 1)))))) ((aRet (cK (.bool false)))) (aNext)))) (aNext))
def bOdd : TSa := (aSeq (aSet 8 (cNv (cCall m_duel (cCons (cVar 6) (cCons (cVar 7) cNil)))))
    (aSeq (aIf (cOrT (cNotT (cTest (cCall m_same (cCons (cKw m_duel [1, 0] 2 (cCons (cVar 7) (cCons (cVar 6) cNil))) (cCons (cVar 8) cNil))))) (cTest (cBin fNe (cBin fIs (cVar 8) (cK .none)) (cAnd (cVar 7) (cBin fIn (cK (.int 0)) (cVar 5)))))) ((aRet (cK (.bool false)))) (aNext))
    bOdd2))
def sgnD : D → D
  | .int n => .int (sgn n)
  | _ => .none
theorem c13_is {ms : List Int} {S : SS} (h9 : S[9]? = some (some (.d (ins ms)))) (hl : ms.length ≤ 1000) (hn : S.length = 14) : c13 S = mp (.d (ins (ms.map sgn))) := by
  have hc : cLc (cSeqH (cVar 9)) (gN 13) tYesC (cIf (cTest (cBin fEq (cVar 13) (cK (.int 0)))) (cK (.int 0)) (cIf (cTest (cBin fGt (cVar 13) (cK (.int 0)))) (cK (.int 1)) (cUn fNeg (cK (.int 1))))) [13] S = mp (.vl ((ms.map PyData.int).map sgnD)) := by
    refine cLc_all (ds := ms.map PyData.int) sgnD ?_ (by rw [List.length_map]; omega) fun d hd => ?_
    · exact ev_seqH (x := .d (ins ms)) (cVar_of h9) rfl
    · obtain ⟨n, hn2, rfl⟩ := List.mem_map.mp hd
      refine ⟨(wipeS S [13]).set 13 (some (.d (.int n))), rfl, ?_⟩
      have h13 : ((wipeS S [13]).set 13 (some (.d (.int n))))[13]? = some (some (.d (.int n))) := List.getElem?_set_self (by rw [wipeS_length, hn]; decide)
      have e13 : cVar 13 ((wipeS S [13]).set 13 (some (.d (.int n)))) = mp (.d (.int n)) := cVar_of h13
      have t1 : cTest (cBin fEq (cVar 13) (cK (.int 0))) ((wipeS S [13]).set 13 (some (.d (.int n)))) = mp (n == 0) := et_val (ev_bin e13 rfl (by rw [fEq_d rfl rfl, eqv_int]))
      have t2 : cTest (cBin fGt (cVar 13) (cK (.int 0))) ((wipeS S [13]).set 13 (some (.d (.int n)))) = mp (decide (0 < n)) := et_val (ev_bin e13 rfl rfl)
      show _ = mp (DV.d (.int (sgn n)))
      unfold sgn
      by_cases hz : n = 0
      · subst hz
        rw [if_pos rfl]
        exact ev_ifT t1 rfl
      · rw [if_neg hz]
        have t1' : (n == 0) = false := by simpa using hz
        rw [t1'] at t1
        refine ev_ifF t1 ?_
        by_cases hp : 0 < n
        · rw [if_pos hp]
          rw [decide_eq_true hp] at t2
          exact ev_ifT t2 rfl
        · rw [if_neg hp]
          rw [decide_eq_false hp] at t2
          exact ev_ifF t2 rfl
  have em : (ms.map PyData.int).map sgnD = (ms.map sgn).map .int := by
    rw [List.map_map, List.map_map]
    rfl
  rw [em] at hc
  exact ev_app (ev_1 (ev_fz hc)) (fTupOf_l _)
theorem eqvAll_ints : ∀ ns : List Int, PyData.eqvAll (ns.map .int) (ns.map .int) = true
  | [] => by simp [PyData.eqvAll]
  | n :: r => by simp [PyData.eqvAll, PyData.eqv, eqvAll_ints r]
theorem eqv_ins (ns : List Int) : PyData.eqv (ins ns) (ins ns) = true := by
  simp only [PyData.eqv]
  exact eqvAll_ints ns
theorem eqOk_ins (ns : List Int) : eqOk (ins ns) = true := eqOk_ints ns
theorem eqvAll_strs : ∀ ns : List Str, PyData.eqvAll (ns.map .str) (ns.map .str) = true
  | [] => by simp [PyData.eqvAll]
  | n :: r => by simp [PyData.eqvAll, PyData.eqv, eqvAll_strs r]
theorem eqv_txs (ns : List Str) : PyData.eqv (txs ns) (txs ns) = true := by
  simp only [PyData.eqv]
  exact eqvAll_strs ns
section
variable {sc : List Int} {zs : List Str} {ns : List Int} {x2 x4 x8 x9 x10 x11 x12 x13 : Option DV} {odd : Bool} {A' : AE} {G : DG}
theorem odd2_none (h : A'.nx (sl sc zs ns x2 x4 (some (.d (.bool odd))) (some (.d .none)) x9 x10 x11 x12 x13) G) : bOdd2 A' (sl sc zs ns x2 x4 (some (.d (.bool odd))) (some (.d .none)) x9 x10 x11 x12 x13) G := by
  unfold bOdd2
  exact as_if (k := false) rfl (fun z => nomatch z) fun _ => h
theorem odd2_vot (hw : Words zs) (hl : ns.length = (pairsS zs).length) (hs : signs1 ns) (hz : ¬ (odd = true ∧ 0 ∈ ns)) (h : ∀ y9, A'.nx (sl sc zs ns x2 x4 (some (.d (.bool odd))) (some (.d (vot (votS zs ns odd)))) y9 x10 x11 x12 x13) G) :
    bOdd2 A' (sl sc zs ns x2 x4 (some (.d (.bool odd))) (some (.d (vot (votS zs ns odd)))) x9 x10 x11 x12 x13) G := by
  obtain ⟨q1, q2, q3⟩ := vot_sizes hw hl hs hz
  have hp := vot_perm (ns := ns) hw odd
  have mm : (margsS zs (votS zs ns odd)).map sgn = ns := duel_signs hw hl hs odd hz
  have okv := okVs_of hw q1 q2 hp
  have okm := okM_of hw q2 hp
  have h5 := hw.hi
  have hpp := pairs_pos hw
  generalize hvs : votS zs ns odd = vs at *
  cases vs with
  | nil => exact absurd q1 (by decide)
  | cons v0 r =>
    unfold bOdd2
    refine as_if (k := true) rfl (fun _ => ?_) fun z => nomatch z
    have pv := hp v0 (List.mem_cons_self ..)
    have ix : cBin fIx (cVar 8) (cK (.int 0)) (sl sc zs ns x2 x4 (some (.d (.bool odd))) (some (.d (vot (v0 :: r)))) x9 x10 x11 x12 x13) = mp (.d (txs v0)) := by
      refine ev_bin (x := .d (vot (v0 :: r))) (y := .d (.int 0)) rfl rfl ?_
      show mo ((atI ((v0 :: r).map txs) 0).map DV.d) = _
      have q : atI ((v0 :: r).map txs) ((0 : Nat) : Int) = some (txs v0) := atI_nat rfl
      have q : atI ((v0 :: r).map txs) 0 = some (txs v0) := q
      rw [q]
      rfl
    have lv : v0.length ≤ 1000 := by
      rw [pv.length_eq]
      omega
    have es : srt (v0.map .str) = zs.map .str := by
      rw [srt_map, srtS_of pv, hw.st]
    have hsort : cApp fTupOf (cCons (cApp fSorted (cCons (cBin fIx (cVar 8) (cK (.int 0))) cNil)) cNil) (sl sc zs ns x2 x4 (some (.d (.bool odd))) (some (.d (vot (v0 :: r)))) x9 x10 x11 x12 x13) = mp (.d (txs zs)) := by
      have f := fSorted_is (v := v0) (sortOk_strs lv)
      rw [es] at f
      exact ev_app (ev_1 (ev_app (ev_1 ix) f)) (fTupOf_l _)
    have h9 : cNv (cIf (cAndT (cTest (cCall m_vots (cCons (cVar 8) cNil))) (cTest (cBin fEq (cApp fTupOf (cCons (cApp fSorted (cCons (cBin fIx (cVar 8) (cK (.int 0))) cNil)) cNil)) (cVar 3)))) (cCall m_marg (cCons (cVar 3) (cCons (cVar 8) cNil))) (cApp fTup cNil)) (sl sc zs ns x2 x4 (some (.d (.bool odd))) (some (.d (vot (v0 :: r)))) x9 x10 x11 x12 x13) = mp (.d (ins (margsS zs (v0 :: r)))) := by
      refine ev_nv (ev_ifT ?_ ?_) rfl
      · refine et_and (k := true) (j := true) (et_val ?_) fun _ => et_val ?_
        · rw [ev_call (ev_1 rfl) rfl]
          exact vots_is okv
        · refine ev_bin hsort (y := .d (txs zs)) rfl ?_
          rw [fEq_d (eqOk_txs zs) (eqOk_txs zs), eqv_txs]
      · rw [ev_call (ev_2 (x := .d (txs zs)) (y := .d (vot (v0 :: r))) rfl rfl) rfl]
        exact marg_is okm
    refine sq_set h9 ?_
    refine as_if (k := false) ?_ (fun z => nomatch z) fun _ => h _
    have hml : (margsS zs (v0 :: r)).length ≤ 1000 := by
      unfold margsS
      rw [List.length_map]
      omega
    refine et_or (k := false) (j := false) (et_val ?_) fun _ => ?_
    · refine ev_bin (x := .d (ins ns)) (y := .d (ins ns)) ?_ rfl ?_
      · have q := c13_is (ms := margsS zs (v0 :: r)) (S := (sl sc zs ns x2 x4 (some (.d (.bool odd))) (some (.d (vot (v0 :: r)))) (some (.d (ins (margsS zs (v0 :: r))))) x10 x11 x12 x13)) rfl hml rfl
        rw [mm] at q
        exact q
      · rw [fNe_d (eqOk_ins ns) (eqOk_ins ns), eqv_ins]
        rfl
    · have hlen : cBin fMod (cApp fLen (cCons (cVar 8) cNil)) (cK (.int 2)) (sl sc zs ns x2 x4 (some (.d (.bool odd))) (some (.d (vot (v0 :: r)))) (some (.d (ins (margsS zs (v0 :: r))))) x10 x11 x12 x13) = mp (.d (.int ((((v0 :: r).map txs).length : Int).fmod 2))) := by
        refine ev_bin (x := .d (.int ((((v0 :: r).map txs).length : Nat) : Int))) (y := .d (.int 2)) rfl rfl (fMod_i (by decide))
      cases odd with
      | false => exact et_and (k := false) (j := true) rfl fun z => nomatch z
      | true =>
        refine et_and (k := true) (j := false) rfl fun _ => et_val ?_
        refine ev_bin hlen (y := .d (.int 1)) rfl ?_
        have e1 : ((((v0 :: r).map txs).length : Nat) : Int).fmod 2 = 1 := by
          have := q3 rfl
          rw [List.length_map, Int.fmod_eq_emod_of_nonneg _ (by decide)]
          omega
        rw [e1, fNe_d rfl rfl, eqv_int]
        rfl
theorem odd_run (hw : Words zs) (hl : ns.length = (pairsS zs).length) (hs : signs1 ns) (h : ∀ y8 y9, A'.nx (sl sc zs ns x2 x4 (some (.d (.bool odd))) y8 y9 x10 x11 x12 x13) G) : bOdd A' (sl sc zs ns x2 x4 (some (.d (.bool odd))) x8 x9 x10 x11 x12 x13) G := by
  unfold bOdd
  have hd := duel_is hw hl hs odd
  refine sq_set (x := .d (duelS zs ns odd)) (ev_nv ?_ rfl) ?_
  · rw [ev_call (ev_2 (x := .d (toldD zs ns)) (y := .d (.bool odd)) rfl rfl) rfl, hd]
  show aSeq _ _ A' (sl sc zs ns x2 x4 (some (.d (.bool odd))) (some (.d (duelS zs ns odd))) x9 x10 x11 x12 x13) G
  have hk : cKw m_duel [1, 0] 2 (cCons (cVar 7) (cCons (cVar 6) cNil)) (sl sc zs ns x2 x4 (some (.d (.bool odd))) (some (.d (duelS zs ns odd))) x9 x10 x11 x12 x13) = mp (.d (duelS zs ns odd)) := by
    rw [ev_kw (n := 2) (xs := [.d (.bool odd), .d (toldD zs ns)]) (ev_2 rfl rfl) rfl rfl]
    exact hd
  have hsame : cNotT (cTest (cCall m_same (cCons (cKw m_duel [1, 0] 2 (cCons (cVar 7) (cCons (cVar 6) cNil))) (cCons (cVar 8) cNil)))) (sl sc zs ns x2 x4 (some (.d (.bool odd))) (some (.d (duelS zs ns odd))) x9 x10 x11 x12 x13) = mp false := by
    refine et_not (k := true) (et_val ?_)
    rw [ev_call (ev_2 hk (y := .d (duelS zs ns odd)) rfl) rfl]
    exact same_is (duel_same hw hl hs odd)
  have hin : cAnd (cVar 7) (cBin fIn (cK (.int 0)) (cVar 5)) (sl sc zs ns x2 x4 (some (.d (.bool odd))) (some (.d (duelS zs ns odd))) x9 x10 x11 x12 x13) = mp (.d (.bool (odd && decide (0 ∈ ns)))) := ev_and (k := odd) (j := decide (0 ∈ ns)) rfl fun _ => ev_bin (x := .d (.int 0)) (y := .d (ins ns)) rfl rfl (in_ints ns 0)
  by_cases hz : odd = true ∧ 0 ∈ ns
  · have e0 := duelS_none (zs := zs) hz
    refine sq_if (k := false) (et_or (k := false) (j := false) hsame fun _ => et_val (ev_bin (x := .d (.bool true)) (ev_bin (x := .d .none) (y := .d .none) ?_ rfl is_none_none) hin ?_)) (fun z => nomatch z) fun _ => sq_nx ?_
    · show mp (DV.d (duelS zs ns odd)) = _
      rw [e0]
    · rw [ne_bools, hz.1, decide_eq_true hz.2]
      rfl
    · rw [e0]
      exact odd2_none (h _ _)
  · have e0 := duelS_vot (zs := zs) hz
    refine sq_if (k := false) (et_or (k := false) (j := false) hsame fun _ => et_val (ev_bin (x := .d (.bool false)) (ev_bin (x := .d (vot (votS zs ns odd))) (y := .d .none) ?_ rfl rfl) hin ?_)) (fun z => nomatch z) fun _ => sq_nx ?_
    · show mp (DV.d (duelS zs ns odd)) = _
      rw [e0]
    · have q : (odd && decide (0 ∈ ns)) = false := by
        cases odd with
        | false => rfl
        | true => exact decide_eq_false fun w => hz ⟨rfl, w⟩
      rw [ne_bools, q]
      rfl
    · rw [e0]
      exact odd2_vot hw hl hs hz fun y9 => h _ _
end
end K66

namespace K66
open PySem PySem.Spec PyProof.Rows L2 LamX DL
/-! ### the kind of an error -/
def kT : D → Bool
  | .tuple [_, .bool b] => b
  | _ => false
def kN : D → D
  | .tuple [a, _] => a
  | d => d
def kindL (c : Str) : List D := ((enDs 0 [.bool (is_BadDuels c), .bool (is_BadOdd c), .bool (is_BadMargins c)]).filter kT).map kN
def m_kind (xs : List DV) : M DV := on1 xs fun x => match x with
  | .ex e => gd (e.cls ∈ errs) (mp (.d (.list (kindL e.cls))))
  | _ => mz
theorem kind_is {e : Er} (h : e.cls ∈ errs) : m_kind [.ex e] = mp (.d (.list (kindL e.cls))) := gd_yes h
theorem spec_kind (A : AD) (xs : List DV) (G : DG) (r : Rs DV) (G' : DG) (e : m_kind xs G = some (r, G')) : a_l_k66_kind A (AEof r G') (xs.map some ++ List.replicate (4 - xs.length) none) G := by
  obtain ⟨x, rfl, e1⟩ := on1_inv e
  cases x with
  | ex er =>
    obtain ⟨hm, e2⟩ := gd_of e1
    cases e2
    show a_l_k66_kind A _ [some (.ex er), none, none, none] G
    unfold a_l_k66_kind
    have f : ∀ is, fIsE errs is (.ex er) = mp (.d (.bool (is er.cls))) := fun is => gd_yes hm
    refine sq_set (x := .d (.list [.bool (is_BadDuels er.cls), .bool (is_BadOdd er.cls), .bool (is_BadMargins er.cls)])) (ev_nv (ev_app (ev_3 (ev_un rfl (f _)) (ev_un rfl (f _)) (ev_un rfl (f _))) rfl) rfl) ?_
    have hc : cLc (cItr fEnum (cCons (cVar 1) cNil)) (gTp 2 (gsCons (gN 2) (gsCons (gN 3) gsNil))) (cTest (cVar 3)) (cVar 2) [2, 3] [some (.ex er), some (.d (.list [.bool (is_BadDuels er.cls), .bool (is_BadOdd er.cls), .bool (is_BadMargins er.cls)])), none, none] = mp (.vl (kindL er.cls)) := by
      refine cLc_map (ds := enDs 0 [.bool (is_BadDuels er.cls), .bool (is_BadOdd er.cls), .bool (is_BadMargins er.cls)]) kT kN rfl (by rw [enDs_len]; show 3 ≤ 100000; decide) fun d hd => ?_
      have hd : d ∈ [PyData.tuple [.int 0, .bool (is_BadDuels er.cls)], .tuple [.int 1, .bool (is_BadOdd er.cls)], .tuple [.int 2, .bool (is_BadMargins er.cls)]] := hd
      simp only [List.mem_cons, List.not_mem_nil, or_false] at hd
      rcases hd with rfl | rfl | rfl
      · exact ⟨_, rfl, rfl, fun _ => rfl⟩
      · exact ⟨_, rfl, rfl, fun _ => rfl⟩
      · exact ⟨_, rfl, rfl, fun _ => rfl⟩
    exact aRet_is (x := .d (.list (kindL er.cls))) (ev_fz hc) ⟨rfl, rfl⟩
  | d => cases e1
  | vl => cases e1
  | sc => cases e1
  | dr => cases e1
  | fn => cases e1
theorem kind_duels : kindL "BadDuels" = [.int 0] := by
  have h1 : is_BadDuels "BadDuels" = true := by decide +kernel
  have h2 : is_BadOdd "BadDuels" = false := by decide +kernel
  have h3 : is_BadMargins "BadDuels" = false := by decide +kernel
  unfold kindL
  rw [h1, h2, h3]
  rfl
theorem kind_odd : kindL "BadOdd" = [.int 1] := by
  have h1 : is_BadDuels "BadOdd" = false := by decide +kernel
  have h2 : is_BadOdd "BadOdd" = true := by decide +kernel
  have h3 : is_BadMargins "BadOdd" = false := by decide +kernel
  unfold kindL
  rw [h1, h2, h3]
  rfl
theorem mem_duels : ("BadDuels" : Str) ∈ errs := by decide +kernel
theorem mem_odd : ("BadOdd" : Str) ∈ errs := by decide +kernel
theorem ne_one (k : Int) : fNe (.d (.list [.int k])) (.d (.list [.int k])) = mp (.d (.bool false)) := by
  rw [fNe_d rfl rfl]
  simp [PyData.eqv, PyData.eqvAll]
/-! ### wrong duels -/
theorem things_end : ∀ (l : List Str) (a b : Str), things (l ++ [b, a]) = true → b.cps.toList < a.cps.toList
  | [], a, b, h => by
    have h : (decide (b.cps.toList < a.cps.toList) && true) = true := h
    rw [Bool.and_true, decide_eq_true_eq] at h
    exact h
  | [x], a, b, h => by
    have h : (decide (x.cps.toList < b.cps.toList) && things ([] ++ [b, a])) = true := h
    exact things_end [] a b (Bool.and_eq_true_iff.mp h).2
  | x :: y :: l, a, b, h => by
    have h : (decide (x.cps.toList < y.cps.toList) && things ((y :: l) ++ [b, a])) = true := h
    exact things_end (y :: l) a b (Bool.and_eq_true_iff.mp h).2
theorem things_rev {zs : List Str} (hw : Words zs) : things zs.reverse = false := by
  have h1 := hw.lo
  have h2 := hw.th
  match zs, h1, h2 with
  | a :: b :: r, _, h2 =>
    have h2 : (decide (a.cps.toList < b.cps.toList) && things (b :: r)) = true := h2
    have l1 := of_decide_eq_true (Bool.and_eq_true_iff.mp h2).1
    cases h : things (a :: b :: r).reverse with
    | false => rfl
    | true =>
      have e : (a :: b :: r).reverse = r.reverse ++ [b, a] := by simp
      rw [e] at h
      exact absurd (things_end _ a b h) (List.lt_asymm l1)
section
variable {zs : List Str} {ns : List Int}
abbrev wrongs (zs : List Str) (ns : List Int) : List D := [.none, .tuple [.str "margins", txs zs, ins ns], .tuple [.str duels, txs zs, .tuple (ns.map .int ++ [.int 0])], .tuple [.str duels, txs zs, .tuple ([.int 2] ++ (ns.map PyData.int).drop 1)], .tuple [.str duels, .tuple (zs.map PyData.str).reverse, ins ns], .tuple [.str duels, txs zs, .tuple ([.bool true] ++ (ns.map PyData.int).drop 1)]]
theorem wrong_is (hw : Words zs) (hl : ns.length = (pairsS zs).length) : ∀ d ∈ wrongs zs ns, m_is_duels [.d d] = mp (.d (.bool false)) := by
  have h5 := hw.hi
  have hp := pairs_pos hw
  have lz : zs.length ≤ 100 := by omega
  have wl := wd_len hw
  have key : ∀ (nm : Str) (ws : List Str) (ds : List D), ws.length ≤ 100 → (∀ z ∈ ws, z.length ≤ 100000) → ds.length ≤ 100000 → tableB nm duels ws ds = false → m_is_duels [.d (.tuple [.str nm, txs ws, .tuple ds])] = mp (.d (.bool false)) := fun nm ws ds a b c e => by
    have q : m_is_duels [.d (.tuple [.str nm, txs ws, .tuple ds])] = mp (.d (.bool (tableB nm duels ws ds))) := duels_is a b c
    rw [q, e]
  intro d hd
  simp only [List.mem_cons, List.not_mem_nil, or_false] at hd
  have ld : ((ns.map PyData.int).drop 1).length ≤ 1000 := by
    rw [List.length_drop, List.length_map]
    omega
  rcases hd with rfl | rfl | rfl | rfl | rfl | rfl
  · exact duels_none
  · refine key _ zs (ns.map .int) lz wl (by rw [List.length_map]; omega) ?_
    have e : decide (("margins" : Str) = duels) = false := by decide +kernel
    unfold tableB
    rw [e]
    rfl
  · refine key _ zs _ lz wl (by rw [List.length_append, List.length_map]; simp; omega) ?_
    have e : decide ((ns.map PyData.int ++ [PyData.int 0]).length = (pairsS zs).length) = false := decide_eq_false (by rw [List.length_append, List.length_map, hl]; simp)
    unfold tableB
    rw [e]
    simp
  · refine key _ zs _ lz wl (by rw [List.length_append]; simp only [List.length_cons, List.length_nil]; omega) ?_
    unfold tableB
    have e : (([PyData.int 2] ++ (ns.map PyData.int).drop 1).all okN) = false := rfl
    rw [e]
    simp
  · rw [← List.map_reverse]
    refine key _ zs.reverse (ns.map .int) (by rw [List.length_reverse]; exact lz) (fun z hz => wl z (List.mem_reverse.mp hz)) (by rw [List.length_map]; omega) ?_
    unfold tableB areB
    rw [things_rev hw]
    simp
  · refine key _ zs _ lz wl (by rw [List.length_append]; simp only [List.length_cons, List.length_nil]; omega) ?_
    unfold tableB
    have e : (([PyData.bool true] ++ (ns.map PyData.int).drop 1).all okN) = false := rfl
    rw [e]
    simp
end
end K66

namespace K66
open PySem PySem.Spec PyProof.Rows L2 LamX DL
/-! ### a lap, the law -/
noncomputable abbrev cWords : SS → M DV := cNv (cApp fTupOf (cCons (cCall m_words (cCons (cVar 1) (cCons (cBin fAdd (cK (.int 2)) (cCall m_draw (cCons (cVar 1) (cCons (cK (.int 4)) cNil)))) cNil))) cNil))
abbrev cPool : SS → M DV := cNv (cCall m_pick (cCons (cVar 1) (cCons (cApp fLst (cCons (cApp fLst (cCons (cUn fNeg (cK (.int 1))) (cCons (cK (.int 1)) cNil))) (cCons (cApp fLst (cCons (cUn fNeg (cK (.int 1))) (cCons (cK (.int 0)) (cCons (cK (.int 1)) cNil)))) (cCons (cApp fLst (cCons (cK (.int 0)) cNil)) (cCons (cApp fLst (cCons (cK (.int 1)) cNil)) cNil))))) cNil)))
abbrev cSigns : SS → M DV := cNv (cApp fTupOf (cCons (cFz (cLc (cSeqH (cCall m_pairs (cCons (cVar 3) cNil))) (gN 12) tYesC (cCall m_pick (cCons (cVar 1) (cCons (cVar 4) cNil))) [12])) cNil))
abbrev cTold : SS → M DV := cNv (cApp fTup (cCons (cK (.str "duels")) (cCons (cVar 3) (cCons (cVar 5) cNil))))
abbrev cSome : SS → M DV := cNv (cApp fLst (cCons (cK .none) (cCons (cApp fTup (cCons (cK (.str "margins")) (cCons (cVar 3) (cCons (cVar 5) cNil)))) (cCons (cApp fTup (cCons (cK (.str "duels")) (cCons (cVar 3) (cCons (cBin fAdd (cVar 5) (cApp fTup (cCons (cK (.int 0)) cNil))) cNil)))) (cCons (cApp fTup (cCons (cK (.str "duels")) (cCons (cVar 3) (cCons (cBin fAdd (cApp fTup (cCons (cK (.int 2)) cNil)) (cSl (cVar 5) (cPart (cK (.int 1))) cNoP)) cNil)))) (cCons (cApp fTup (cCons (cK (.str "duels")) (cCons (cUn fBack (cVar 3)) (cCons (cVar 5) cNil)))) cNil))))))
abbrev cWrong : SS → M DV := cNv (cCall m_pick (cCons (cVar 1) (cCons (cBin fAdd (cVar 10) (cApp fLst (cCons (cApp fTup (cCons (cK (.str "duels")) (cCons (cVar 3) (cCons (cBin fAdd (cApp fTup (cCons (cK (.bool true)) cNil)) (cSl (cVar 5) (cPart (cK (.int 1))) cNoP)) cNil)))) cNil))) cNil)))
abbrev tBad1 : SS → M Bool := cTest (cBin fNe (cCall m_kind (cCons (cCaught errs (cCall m_duel (cCons (cVar 11) (cCons (cK .none) cNil)))) cNil)) (cApp fLst (cCons (cK (.int 0)) cNil)))
abbrev tBad2 : SS → M Bool := cTest (cBin fNe (cCall m_kind (cCons (cCaught errs (cCall m_duel (cCons (cVar 6) (cCons (cCall m_pick (cCons (cVar 1) (cCons (cApp fLst (cCons (cK .none) (cCons (cK (.int 0)) (cCons (cK (.int 1)) (cCons (cK (.str "True")) (cCons (cApp fTup cNil) cNil)))))) cNil))) cNil)))) cNil)) (cApp fLst (cCons (cK (.int 1)) cNil)))
section
variable {sc : List Int} {zs : List Str} {ns : List Int} {cs : List Int} {t : Int} {G : DG} {x2 x3 x4 x5 x6 x7 x8 x9 x10 x11 x12 x13 : Option DV}
theorem words_run (hn : cs.length < 64) (hu : Upto cs t G) (ht : t + PP * 5 + 10 < 2 ^ 200) : ∃ zs G', cWords [some (.sc sc), some .dr, x2, x3, x4, x5, x6, x7, x8, x9, x10, x11, x12, x13] G = some (.ok (.d (txs zs)), G') ∧ Words zs ∧ Upto cs (t + PP * 5 + 1) G' := by
  have pp : (0 : Int) ≤ PP := by decide
  obtain ⟨d, G1, e1, d0, d1, u1⟩ := mdraw_up (n := 4) hu (by omega) (by decide) (by decide)
  have hm : (2 + d).toNat ≤ 5 := by omega
  have hle : PP * ((2 + d).toNat : Int) ≤ PP * 5 := Int.mul_le_mul_of_nonneg_left (by omega) pp
  obtain ⟨zs, G2, e2, l2, w2, u2⟩ := words_drawn (many := (2 + d).toNat) hn (by omega) hm (by omega) u1
  refine ⟨zs, G2, ?_, w2, upto_mono u2 (by omega)⟩
  have e2 : m_words [.dr, .d (.int (2 + d))] G1 = some (.ok (lst zs), G2) := by
    rw [show ((2 + d).toNat : Int) = 2 + d by omega] at e2
    exact e2
  exact eg_nv (eg_app (eg_1 (eg_call (eg_2 (x := .dr) rfl (eg_bin (x := .d (.int 2)) rfl (eg_call (eg_2 (x := .dr) (y := .d (.int 4)) rfl rfl) rfl e1) rfl)) rfl e2)) (pg (fTupOf_l _) _)) rfl
abbrev pools : List D := [.list [.int (-1), .int 1], .list [.int (-1), .int 0, .int 1], .list [.int 0], .list [.int 1]]
theorem pool_run (hu : Upto cs t G) (ht : t < 2 ^ 200) : ∃ d G', cPool [some (.sc sc), some .dr, x2, x3, x4, x5, x6, x7, x8, x9, x10, x11, x12, x13] G = some (.ok (.d d), G') ∧ d ∈ pools ∧ Upto cs (t + 1) G' := by
  obtain ⟨d, G1, e1, hd, u1⟩ := mpick_up (ds := pools) hu ht (by decide) (by decide)
  exact ⟨d, G1, eg_nv (eg_call (eg_2 (x := .dr) (y := .d (.list pools)) rfl rfl) rfl e1) rfl, hd, u1⟩
theorem signs_of : ∀ es : List D, (∀ e ∈ es, e = .int (-1) ∨ e = .int 0 ∨ e = .int 1) → ∃ ns : List Int, es = ns.map .int ∧ signs1 ns
  | [], _ => ⟨[], rfl, fun _ h => absurd h List.not_mem_nil⟩
  | e :: r, h => by
    obtain ⟨ns, rfl, hs⟩ := signs_of r fun x hx => h x (List.mem_cons_of_mem _ hx)
    have key : ∀ k : Int, (k = -1 ∨ k = 0 ∨ k = 1) → ∃ ms : List Int, PyData.int k :: ns.map .int = ms.map .int ∧ signs1 ms := fun k hk => ⟨k :: ns, rfl, fun n hn => by
      rcases List.mem_cons.mp hn with rfl | hn
      · exact hk
      · exact hs n hn⟩
    rcases h e (List.mem_cons_self ..) with rfl | rfl | rfl
    · exact key (-1) (.inl rfl)
    · exact key 0 (.inr (.inl rfl))
    · exact key 1 (.inr (.inr rfl))
theorem signs_run (hw : Words zs) {pool : D} (hp : pool ∈ pools) (hu : Upto cs t G) (ht : t + 30 < 2 ^ 200) : ∃ ns G', cSigns [some (.sc sc), some .dr, x2, some (.d (txs zs)), some (.d pool), x5, x6, x7, x8, x9, x10, x11, x12, x13] G = some (.ok (.d (ins ns)), G') ∧ ns.length = (pairsS zs).length ∧ signs1 ns ∧ Upto cs (t + 30) G' := by
  have hpp := pairs_pos hw
  have h5 := hw.hi
  obtain ⟨pl, rfl, l1, l2, hpl⟩ : ∃ pl, pool = .list pl ∧ 0 < pl.length ∧ pl.length ≤ 100000 ∧ ∀ e ∈ pl, e = PyData.int (-1) ∨ e = .int 0 ∨ e = .int 1 := by
    simp only [pools, List.mem_cons, List.not_mem_nil, or_false] at hp
    rcases hp with rfl | rfl | rfl | rfl
    · exact ⟨_, rfl, by decide, by decide, fun e he => by
        simp only [List.mem_cons, List.not_mem_nil, or_false] at he
        rcases he with rfl | rfl <;> simp⟩
    · exact ⟨_, rfl, by decide, by decide, fun e he => by
        simp only [List.mem_cons, List.not_mem_nil, or_false] at he
        rcases he with rfl | rfl | rfl <;> simp⟩
    · exact ⟨_, rfl, by decide, by decide, fun e he => by
        simp only [List.mem_cons, List.not_mem_nil, or_false] at he
        subst he
        simp⟩
    · exact ⟨_, rfl, by decide, by decide, fun e he => by
        simp only [List.mem_cons, List.not_mem_nil, or_false] at he
        subst he
        simp⟩
  obtain ⟨es, G1, e1, le, me, u1⟩ := lc_picks (cs := cs) (g := gN 12) (ce := cCall m_pick (cCons (cVar 1) (cCons (cVar 4) cNil))) (W := wipeS [some (.sc sc), some .dr, x2, some (.d (txs zs)), some (.d (.list pl)), x5, x6, x7, x8, x9, x10, x11, x12, x13] [12]) l1 l2 ((pairsS zs).map pairD) [] G t (fun d hd => ⟨_, rfl, by
    rw [ev_call (ev_2 (x := .dr) (y := .d (.list pl)) rfl rfl) rfl]⟩) hu (by rw [List.length_map]; omega)
  obtain ⟨ns, rfl, hs⟩ := signs_of es fun e he => hpl e (me e he)
  rw [List.length_map, List.length_map] at le
  refine ⟨ns, G1, ?_, le, hs, upto_mono u1 (by rw [List.length_map]; omega)⟩
  refine eg_nv (eg_app (eg_1 (eg_fz (eg_lc (ds := (pairsS zs).map pairD) (es := ns.map .int) (G1 := G) (pg (ev_seqH (x := .d (.list ((pairsS zs).map pairD))) ?_ rfl) G) (by rw [List.length_map]; omega) e1))) (pg (fTupOf_l _) _)) rfl
  rw [ev_call (ev_1 (x := .d (txs zs)) rfl) rfl]
  exact pairs_is (by omega)
theorem drop1 (ns : List Int) : cut (ns.map PyData.int) (some 1) none = (ns.map PyData.int).drop 1 := by
  have q := cut_from (ns.map PyData.int) 1
  exact q
theorem some_is (hl : ns.length ≤ 1000) : cSome (sl sc zs ns x2 x4 x7 x8 x9 x10 x11 x12 x13) = mp (.d (.list [.none, .tuple [.str "margins", txs zs, ins ns], .tuple [.str duels, txs zs, .tuple (ns.map .int ++ [.int 0])], .tuple [.str duels, txs zs, .tuple ([.int 2] ++ (ns.map PyData.int).drop 1)], .tuple [.str duels, .tuple (zs.map PyData.str).reverse, ins ns]])) := by
  have e1 : cBin fAdd (cVar 5) (cApp fTup (cCons (cK (.int 0)) cNil)) (sl sc zs ns x2 x4 x7 x8 x9 x10 x11 x12 x13) = mp (.d (.tuple (ns.map .int ++ [.int 0]))) := ev_bin (x := .d (ins ns)) (y := .d (.tuple [.int 0])) rfl rfl (fAdd_t (by rw [List.length_map]; simp; omega))
  have e2 : cSl (cVar 5) (cPart (cK (.int 1))) cNoP (sl sc zs ns x2 x4 x7 x8 x9 x10 x11 x12 x13) = mp (.d (.tuple ((ns.map PyData.int).drop 1))) := ev_sl (x := .d (ins ns)) (l := some 1) (h := none) rfl rfl rfl (by
    show some (DV.d (.tuple (cut (ns.map PyData.int) (some 1) none))) = _
    rw [drop1])
  have e3 : cBin fAdd (cApp fTup (cCons (cK (.int 2)) cNil)) (cSl (cVar 5) (cPart (cK (.int 1))) cNoP) (sl sc zs ns x2 x4 x7 x8 x9 x10 x11 x12 x13) = mp (.d (.tuple ([.int 2] ++ (ns.map PyData.int).drop 1))) := ev_bin (x := .d (.tuple [.int 2])) rfl e2 (fAdd_t (by rw [List.length_drop, List.length_map]; simp; omega))
  refine ev_nv (ev_app (ev_cons (x := .d .none) rfl (ev_cons (ev_app (ev_3 (x := .d (.str "margins")) (y := .d (txs zs)) (z := .d (ins ns)) rfl rfl rfl) rfl) (ev_cons (ev_app (ev_3 (x := .d (.str duels)) (y := .d (txs zs)) rfl rfl e1) rfl) (ev_2 (ev_app (ev_3 (x := .d (.str duels)) (y := .d (txs zs)) rfl rfl e3) rfl) (ev_app (ev_3 (x := .d (.str duels)) (y := .d (.tuple (zs.map PyData.str).reverse)) (z := .d (ins ns)) rfl rfl rfl) rfl))))) rfl) rfl
theorem wrong_run (hl : ns.length ≤ 1000) (hu : Upto cs t G) (ht : t < 2 ^ 200) : ∃ d G', cWrong (sl sc zs ns x2 x4 x7 x8 x9 (some (.d (.list [.none, .tuple [.str "margins", txs zs, ins ns], .tuple [.str duels, txs zs, .tuple (ns.map .int ++ [.int 0])], .tuple [.str duels, txs zs, .tuple ([.int 2] ++ (ns.map PyData.int).drop 1)], .tuple [.str duels, .tuple (zs.map PyData.str).reverse, ins ns]]))) x11 x12 x13) G = some (.ok (.d d), G') ∧ d ∈ wrongs zs ns ∧ Upto cs (t + 1) G' := by
  obtain ⟨d, G1, e1, hd, u1⟩ := mpick_up (ds := wrongs zs ns) hu ht (Nat.le_add_left 1 5) (by show 6 ≤ 100000; decide)
  refine ⟨d, G1, eg_nv (eg_call (eg_2 (x := .dr) (y := .d (.list (wrongs zs ns))) rfl (pg (ev_bin rfl (ev_app (ev_1 (ev_app (ev_3 (x := .d (.str duels)) (y := .d (txs zs)) rfl rfl (ev_bin (x := .d (.tuple [.bool true])) rfl (ev_sl (x := .d (ins ns)) (l := some 1) (h := none) (z := .d (.tuple ((ns.map PyData.int).drop 1))) rfl rfl rfl ?_) (fAdd_t (by rw [List.length_drop, List.length_map]; simp; omega)))) rfl)) rfl) rfl) _)) rfl e1) rfl, hd, u1⟩
  show some (DV.d (.tuple (cut (ns.map PyData.int) (some 1) none))) = _
  rw [drop1]
theorem bad1_is {d : D} (hd : m_is_duels [.d d] = mp (.d (.bool false))) : tBad1 (sl sc zs ns x2 x4 x7 x8 x9 x10 (some (.d d)) x12 x13) = mp false := by
  have e1 : cCall m_duel (cCons (cVar 11) (cCons (cK .none) cNil)) (sl sc zs ns x2 x4 x7 x8 x9 x10 (some (.d d)) x12 x13) = me ⟨"BadDuels", []⟩ := by
    rw [ev_call (ev_2 (x := .d d) (y := .d .none) rfl rfl) rfl]
    exact duel_bad_er hd
  funext G
  refine eg_test (eg_bin (x := .d (.list [.int 0])) (y := .d (.list [.int 0])) (G1 := G) (eg_call (eg_1 (eg_caught (e := ⟨"BadDuels", []⟩) (congrFun e1 G) ⟨rfl, mem_duels⟩)) rfl ?_) rfl (ne_one 0))
  rw [kind_is mem_duels, kind_duels]
  rfl
theorem bad2_run (hw : Words zs) (hl : ns.length = (pairsS zs).length) (hs : signs1 ns) (hu : Upto cs t G) (ht : t < 2 ^ 200) : ∃ G', tBad2 (sl sc zs ns x2 x4 x7 x8 x9 x10 x11 x12 x13) G = some (.ok false, G') ∧ Upto cs (t + 1) G' := by
  obtain ⟨d, G1, e1, hd, u1⟩ := mpick_up (ds := [.none, .int 0, .int 1, .str "True", .tuple []]) hu ht (by decide) (by decide)
  have hd : d = .none ∨ d = .int 0 ∨ d = .int 1 ∨ d = .str "True" ∨ d = .tuple [] := by simpa using hd
  refine ⟨G1, eg_test (eg_bin (x := .d (.list [.int 1])) (y := .d (.list [.int 1])) (eg_call (eg_1 (eg_caught (e := ⟨"BadOdd", []⟩) (eg_call (eg_2 (x := .d (toldD zs ns)) rfl (eg_call (eg_2 (x := .dr) (y := .d (.list [.none, .int 0, .int 1, .str "True", .tuple []])) rfl rfl) rfl e1)) rfl (congrFun (duel_odd_er hw hl hs hd) G1)) ⟨rfl, mem_odd⟩)) rfl ?_) rfl (ne_one 1)), u1⟩
  rw [kind_is mem_odd, kind_odd]
  rfl
end
end K66

namespace K66
open PySem PySem.Spec PyProof.Rows L2 LamX DL
def cOdds : SS → M (List D) := cSeq (cApp fLst (cCons (cK (.bool true)) (cCons (cK (.bool false)) cNil)))
def bTail : TSa := (aSeq (aSet 10 cSome) (aSeq (aSet 11 cWrong) (aSeq (aIf tBad1 ((aRet (cK (.bool false)))) (aNext)) (aIf tBad2 ((aRet (cK (.bool false)))) (aNext)))))
def bMid : TSa := (aSeq (aSet 6 cTold) (aSeq (aFor cOdds (gN 7) bOdd) bTail))
def bLap : TSa := (aSeq (aSet 3 cWords) (aSeq (aSet 4 cPool) (aSeq (aSet 5 cSigns) bMid)))
section
variable {sc : List Int} {zs : List Str} {ns : List Int} {cs : List Int} {t : Int} {G : DG} {A : AE} {x2 x3 x4 x5 x6 x7 x8 x9 x10 x11 x12 x13 : Option DV}
theorem tail_run (hw : Words zs) (hl : ns.length = (pairsS zs).length) (hs : signs1 ns) (hu : Upto cs t G) (ht : t + 10 < 2 ^ 200) (h : ∀ S G', (∃ y10 y11, S = sl sc zs ns x2 x4 x7 x8 x9 y10 y11 x12 x13) → Upto cs (t + 2) G' → A.nx S G') : bTail A (sl sc zs ns x2 x4 x7 x8 x9 x10 x11 x12 x13) G := by
  have hp := pairs_pos hw
  unfold bTail
  refine sq_set (some_is (by omega)) ?_
  obtain ⟨d, G1, e1, hd, u1⟩ := wrong_run (sc := sc) (zs := zs) (ns := ns) (x2 := x2) (x4 := x4) (x7 := x7) (x8 := x8) (x9 := x9) (x11 := x11) (x12 := x12) (x13 := x13) (by omega) hu (by omega)
  refine sq_setG e1 ?_
  refine sq_if (k := false) (bad1_is (wrong_is hw hl d hd)) (fun z => nomatch z) fun _ => sq_nx ?_
  obtain ⟨G2, e2, u2⟩ := bad2_run (sc := sc) (x2 := x2) (x4 := x4) (x7 := x7) (x8 := x8) (x9 := x9) (x10 := some (.d (.list [.none, .tuple [.str "margins", txs zs, ins ns], .tuple [.str duels, txs zs, .tuple (ns.map .int ++ [.int 0])], .tuple [.str duels, txs zs, .tuple ([.int 2] ++ (ns.map PyData.int).drop 1)], .tuple [.str duels, .tuple (zs.map PyData.str).reverse, ins ns]]))) (x11 := some (.d d)) (x12 := x12) (x13 := x13) hw hl hs u1 (by omega)
  refine as_ifG e2 (fun z => nomatch z) fun _ => h _ G2 ⟨_, _, rfl⟩ (upto_mono u2 (by omega))
theorem mid_run (hw : Words zs) (hl : ns.length = (pairsS zs).length) (hs : signs1 ns) (hu : Upto cs t G) (ht : t + 10 < 2 ^ 200) (h : ∀ S G', (∃ y7 y8 y9 y10 y11, S = sl sc zs ns x2 x4 y7 y8 y9 y10 y11 x12 x13) → Upto cs (t + 2) G' → A.nx S G') :
    bMid A [some (.sc sc), some .dr, x2, some (.d (txs zs)), x4, some (.d (ins ns)), x6, x7, x8, x9, x10, x11, x12, x13] G := by
  unfold bMid
  refine sq_set (x := .d (toldD zs ns)) (ev_nv (ev_app (ev_3 (x := .d (.str duels)) (y := .d (txs zs)) (z := .d (ins ns)) rfl rfl rfl) rfl) rfl) ?_
  show aSeq _ _ A (sl sc zs ns x2 x4 x7 x8 x9 x10 x11 x12 x13) G
  refine sq_for (ds := [.bool true, .bool false]) rfl ?_
  refine for_inv (fun ds S G1 => G1 = G ∧ (∀ d ∈ ds, ∃ b, d = .bool b) ∧ ∃ y7 y8 y9, S = sl sc zs ns x2 x4 y7 y8 y9 x10 x11 x12 x13) ?_ ?_ _ _ _ ⟨rfl, fun d hd => ?_, x7, x8, x9, rfl⟩
  · rintro d r S G1 A' ⟨rfl, hb, y7, y8, y9, rfl⟩ hn _ _ _ _
    obtain ⟨b, rfl⟩ := hb d (List.mem_cons_self ..)
    exact ⟨_, rfl, odd_run hw hl hs fun z8 z9 => hn _ _ ⟨rfl, fun e he => hb e (List.mem_cons_of_mem _ he), _, _, _, rfl⟩⟩
  · rintro S G1 ⟨rfl, _, y7, y8, y9, rfl⟩
    exact tail_run hw hl hs hu ht fun S G' ⟨y10, y11, e⟩ u => h S G' ⟨_, _, _, _, _, e⟩ u
  · simp only [List.mem_cons, List.not_mem_nil, or_false] at hd
    rcases hd with rfl | rfl
    · exact ⟨_, rfl⟩
    · exact ⟨_, rfl⟩
abbrev lapT : Int := PP * 5 + 100
def Sl (sc : List Int) (S : SS) : Prop := ∃ x2 x3 x4 x5 x6 x7 x8 x9 x10 x11 x12 x13, S = [some (.sc sc), some .dr, x2, x3, x4, x5, x6, x7, x8, x9, x10, x11, x12, x13]
theorem lap_run (hn : cs.length < 64) (hu : Upto cs t G) (ht : t + lapT < 2 ^ 200) (h : ∀ S G', Sl sc S → Upto cs (t + lapT) G' → A.nx S G') : bLap A [some (.sc sc), some .dr, x2, x3, x4, x5, x6, x7, x8, x9, x10, x11, x12, x13] G := by
  unfold bLap
  have hT : lapT = PP * 5 + 100 := rfl
  obtain ⟨zs, G1, e1, hw, u1⟩ := words_run (sc := sc) (x2 := x2) (x3 := x3) (x4 := x4) (x5 := x5) (x6 := x6) (x7 := x7) (x8 := x8) (x9 := x9) (x10 := x10) (x11 := x11) (x12 := x12) (x13 := x13) hn hu (by omega)
  refine sq_setG e1 ?_
  obtain ⟨d, G2, e2, hd, u2⟩ := pool_run (sc := sc) (x2 := x2) (x3 := some (.d (txs zs))) (x4 := x4) (x5 := x5) (x6 := x6) (x7 := x7) (x8 := x8) (x9 := x9) (x10 := x10) (x11 := x11) (x12 := x12) (x13 := x13) u1 (by omega)
  refine sq_setG e2 ?_
  obtain ⟨ns, G3, e3, hl, hs, u3⟩ := signs_run (sc := sc) (x2 := x2) (x5 := x5) (x6 := x6) (x7 := x7) (x8 := x8) (x9 := x9) (x10 := x10) (x11 := x11) (x12 := x12) (x13 := x13) hw hd u2 (by omega)
  refine sq_setG e3 ?_
  refine mid_run hw hl hs u3 (by omega) fun S G' ⟨y7, y8, y9, y10, y11, e⟩ u => h S G' ⟨_, _, _, _, _, _, _, _, _, _, _, _, e⟩ (upto_mono u (by omega))
end
theorem upto0 (ns : List Int) : Upto (cellsS ns) 0 (G0 ns) := by
  refine ⟨rfl, Int.le_refl _, Int.le_refl _, Int.le_refl _, fun x hx => ?_⟩
  have hx : x ∈ greatsS ns := hx
  obtain ⟨n, hn, rfl⟩ := List.mem_map.mp hx
  have := of_decide_eq_true (List.mem_filter.mp hn).2
  omega
theorem law_run (A : AD) (ns : List Int) (hl : ns.length ≤ 63) : a_law A m_duel m_draw m_pick m_same m_words m_pairs m_marg m_vots m_kind ALaw (some (.sc ns) :: some .dr :: List.replicate 12 none) (G0 ns) := by
  unfold a_law
  have hT : lapT * 11 < 2 ^ 200 := by decide +kernel
  have h0 : (0 : Int) ≤ lapT := by decide +kernel
  have hk : ∃ k : Nat, k ≤ 11 ∧ (5 : Int) + (if (6 : Int) < (ns.length : Nat) then 6 else ((ns.length : Nat) : Int)) = (k : Nat) := by
    by_cases h : (6 : Int) < (ns.length : Nat)
    · rw [if_pos h]
      exact ⟨11, by decide, rfl⟩
    · rw [if_neg h]
      exact ⟨5 + ns.length, by omega, by omega⟩
  obtain ⟨k, hk, ek⟩ := hk
  have hr : cItr fRng1 (cCons (cBin fAdd (cK (.int 5)) (cApp fMin2 (cCons (cApp fLen (cCons (cVar 0) cNil)) (cCons (cK (.int 6)) cNil)))) cNil) (some (.sc ns) :: some .dr :: List.replicate 12 none) = mp (rng 0 k) := by
    have e1 : cBin fAdd (cK (.int 5)) (cApp fMin2 (cCons (cApp fLen (cCons (cVar 0) cNil)) (cCons (cK (.int 6)) cNil))) (some (.sc ns) :: some .dr :: List.replicate 12 none) = mp (.d (.int ((5 : Int) + (if (6 : Int) < (ns.length : Nat) then 6 else ((ns.length : Nat) : Int))))) :=
      ev_bin (x := .d (.int 5)) rfl (ev_app (ev_2 (x := .d (.int (ns.length : Nat))) (y := .d (.int 6)) rfl rfl) rfl) rfl
    rw [ek] at e1
    refine ev_itr (ev_1 e1) ?_
    show gd (-1000000000 ≤ ((k : Nat) : Int) ∧ ((k : Nat) : Int) ≤ 1000000000) (mp (rng 0 ((k : Nat) : Int).toNat)) = _
    rw [gd_yes (by omega)]
    rfl
  refine sq_for hr ?_
  refine for_inv (fun ds S G => Sl ns S ∧ ds.length ≤ 11 ∧ Upto (cellsS ns) (lapT * (11 - (ds.length : Int))) G) ?_ ?_ _ _ _ ⟨⟨_, _, _, _, _, _, _, _, _, _, _, _, rfl⟩, by simpa [rng] using hk, upto_mono (upto0 ns) ?_⟩
  · rintro d r S G A' ⟨⟨x2, x3, x4, x5, x6, x7, x8, x9, x10, x11, x12, x13, rfl⟩, hl2, u⟩ hn _ _ _ _
    rw [List.length_cons] at hl2 u
    have e : lapT * (11 - ((r.length + 1 : Nat) : Int)) + lapT = lapT * (11 - (r.length : Int)) := by
      have : lapT * (11 - ((r.length + 1 : Nat) : Int)) + lapT = lapT * ((11 - ((r.length + 1 : Nat) : Int)) + 1) := by rw [Int.mul_add, Int.mul_one]
      rw [this]
      congr 1
      omega
    have le : lapT * (11 - (r.length : Int)) ≤ lapT * 11 := Int.mul_le_mul_of_nonneg_left (by omega) h0
    refine ⟨_, rfl, ?_⟩
    refine lap_run (t := lapT * (11 - ((r.length + 1 : Nat) : Int))) (cs := cellsS ns) (sc := ns) (by show (ns.map absI).length < 64; rw [List.length_map]; omega) u (by rw [e]; omega) fun S G' hS hu => hn S G' ⟨hS, by omega, by rw [e] at hu; exact hu⟩
  · rintro S G ⟨_, _, _⟩
    show aRet (cK (.bool true)) ALaw S G
    exact aRet_is (A := ALaw) (x := .d (.bool true)) rfl (show frz (DV.d (.bool true)) = .d (.bool true) from rfl)
  · refine Int.mul_nonneg h0 ?_
    have : (rng 0 k).length = k := by simp [rng]
    omega
end K66

namespace K66
open PySem PySem.Spec PyProof.Rows L2 LamX DL
section
variable {TB : List (Addr × Str)}
theorem grD {gb : Gb} {gg gc : Addr} {cells : List Int} {f : List DV → M DV} : ∀ xs G r G', f xs G = some (r, G') → (mD TB gb.dr gg gc cells).gr G G' := fun _ _ _ _ _ => trivial
theorem gr0 {f : List DV → M DV} (h : ∀ xs, Pu (f xs)) : ∀ xs G r G', f xs G = some (r, G') → (m0 TB).gr G G' := fun xs G r G' e => h xs G r G' e
end
section
variable {P : Program} {w : World} {K : PySem.W.Frag} {mg : Str → Option Value} {base : Heap} {gb : Gb} {A : AD} {D : FDS} {TB : List (Addr × Str)} {gg gc : Addr} {cells : List Int}
theorem pu_is_word : ∀ xs, Pu (m_is_word xs) := fun xs => by
  unfold m_is_word
  (repeat (first | exact pu_mp | exact pu_mz | exact pu_me | exact pu_mo | refine pu_gd ?_ | (refine pu_on1 fun _ => ?_) | (refine pu_on2 fun _ _ => ?_) | (refine pu_on3 fun _ _ _ => ?_) | (refine pu_onTS fun _ => ?_) | (refine pu_onD fun _ => ?_) | (refine pu_onS fun _ => ?_) | (refine pu_onI fun _ => ?_) | (refine pu_onB fun _ => ?_) | (refine pu_onT fun _ => ?_) | (refine pu_mb ?_ fun _ => ?_) | refine pu_ite ?_ ?_ | split))
theorem pu_are_things : ∀ xs, Pu (m_are_things xs) := fun xs => by
  unfold m_are_things
  (repeat (first | exact pu_mp | exact pu_mz | exact pu_me | exact pu_mo | refine pu_gd ?_ | (refine pu_on1 fun _ => ?_) | (refine pu_on2 fun _ _ => ?_) | (refine pu_on3 fun _ _ _ => ?_) | (refine pu_onTS fun _ => ?_) | (refine pu_onD fun _ => ?_) | (refine pu_onS fun _ => ?_) | (refine pu_onI fun _ => ?_) | (refine pu_onB fun _ => ?_) | (refine pu_onT fun _ => ?_) | (refine pu_mb ?_ fun _ => ?_) | refine pu_ite ?_ ?_ | split))
theorem pu_is_whole : ∀ xs, Pu (m_is_whole xs) := fun xs => by
  unfold m_is_whole
  (repeat (first | exact pu_mp | exact pu_mz | exact pu_me | exact pu_mo | refine pu_gd ?_ | (refine pu_on1 fun _ => ?_) | (refine pu_on2 fun _ _ => ?_) | (refine pu_on3 fun _ _ _ => ?_) | (refine pu_onTS fun _ => ?_) | (refine pu_onD fun _ => ?_) | (refine pu_onS fun _ => ?_) | (refine pu_onI fun _ => ?_) | (refine pu_onB fun _ => ?_) | (refine pu_onT fun _ => ?_) | (refine pu_mb ?_ fun _ => ?_) | refine pu_ite ?_ ?_ | split))
theorem pu_pairs_of : ∀ xs, Pu (m_pairs xs) := fun xs => by
  unfold m_pairs
  (repeat (first | exact pu_mp | exact pu_mz | exact pu_me | exact pu_mo | refine pu_gd ?_ | (refine pu_on1 fun _ => ?_) | (refine pu_on2 fun _ _ => ?_) | (refine pu_on3 fun _ _ _ => ?_) | (refine pu_onTS fun _ => ?_) | (refine pu_onD fun _ => ?_) | (refine pu_onS fun _ => ?_) | (refine pu_onI fun _ => ?_) | (refine pu_onB fun _ => ?_) | (refine pu_onT fun _ => ?_) | (refine pu_mb ?_ fun _ => ?_) | refine pu_ite ?_ ?_ | split))
theorem pu_is_table {A : AD} : ∀ xs, Pu (m_is_table A xs) := fun xs => by
  unfold m_is_table
  (repeat (first | exact pu_mp | exact pu_mz | exact pu_me | exact pu_mo | refine pu_gd ?_ | (refine pu_on1 fun _ => ?_) | (refine pu_on2 fun _ _ => ?_) | (refine pu_on3 fun _ _ _ => ?_) | (refine pu_onTS fun _ => ?_) | (refine pu_onD fun _ => ?_) | (refine pu_onS fun _ => ?_) | (refine pu_onI fun _ => ?_) | (refine pu_onB fun _ => ?_) | (refine pu_onT fun _ => ?_) | (refine pu_mb ?_ fun _ => ?_) | refine pu_ite ?_ ?_ | split))
theorem pu_is_sign : ∀ xs, Pu (m_is_sign xs) := fun xs => by
  unfold m_is_sign
  (repeat (first | exact pu_mp | exact pu_mz | exact pu_me | exact pu_mo | refine pu_gd ?_ | (refine pu_on1 fun _ => ?_) | (refine pu_on2 fun _ _ => ?_) | (refine pu_on3 fun _ _ _ => ?_) | (refine pu_onTS fun _ => ?_) | (refine pu_onD fun _ => ?_) | (refine pu_onS fun _ => ?_) | (refine pu_onI fun _ => ?_) | (refine pu_onB fun _ => ?_) | (refine pu_onT fun _ => ?_) | (refine pu_mb ?_ fun _ => ?_) | refine pu_ite ?_ ?_ | split))
theorem pu_is_duels : ∀ xs, Pu (m_is_duels xs) := fun xs => by
  unfold m_is_duels
  (repeat (first | exact pu_mp | exact pu_mz | exact pu_me | exact pu_mo | refine pu_gd ?_ | (refine pu_on1 fun _ => ?_) | (refine pu_on2 fun _ _ => ?_) | (refine pu_on3 fun _ _ _ => ?_) | (refine pu_onTS fun _ => ?_) | (refine pu_onD fun _ => ?_) | (refine pu_onS fun _ => ?_) | (refine pu_onI fun _ => ?_) | (refine pu_onB fun _ => ?_) | (refine pu_onT fun _ => ?_) | (refine pu_mb ?_ fun _ => ?_) | refine pu_ite ?_ ?_ | split))
theorem pu_two_for : ∀ xs, Pu (m_two_for xs) := fun xs => by
  unfold m_two_for
  (repeat (first | exact pu_mp | exact pu_mz | exact pu_me | exact pu_mo | refine pu_gd ?_ | (refine pu_on1 fun _ => ?_) | (refine pu_on2 fun _ _ => ?_) | (refine pu_on3 fun _ _ _ => ?_) | (refine pu_onTS fun _ => ?_) | (refine pu_onD fun _ => ?_) | (refine pu_onS fun _ => ?_) | (refine pu_onI fun _ => ?_) | (refine pu_onB fun _ => ?_) | (refine pu_onT fun _ => ?_) | (refine pu_mb ?_ fun _ => ?_) | refine pu_ite ?_ ?_ | split))
theorem pu_even_voters : ∀ xs, Pu (m_even xs) := fun xs => by
  unfold m_even
  (repeat (first | exact pu_mp | exact pu_mz | exact pu_me | exact pu_mo | refine pu_gd ?_ | (refine pu_on1 fun _ => ?_) | (refine pu_on2 fun _ _ => ?_) | (refine pu_on3 fun _ _ _ => ?_) | (refine pu_onTS fun _ => ?_) | (refine pu_onD fun _ => ?_) | (refine pu_onS fun _ => ?_) | (refine pu_onI fun _ => ?_) | (refine pu_onB fun _ => ?_) | (refine pu_onT fun _ => ?_) | (refine pu_mb ?_ fun _ => ?_) | refine pu_ite ?_ ?_ | split))
theorem pu_voters_for : ∀ xs, Pu (m_vfor xs) := fun xs => by
  unfold m_vfor
  (repeat (first | exact pu_mp | exact pu_mz | exact pu_me | exact pu_mo | refine pu_gd ?_ | (refine pu_on1 fun _ => ?_) | (refine pu_on2 fun _ _ => ?_) | (refine pu_on3 fun _ _ _ => ?_) | (refine pu_onTS fun _ => ?_) | (refine pu_onD fun _ => ?_) | (refine pu_onS fun _ => ?_) | (refine pu_onI fun _ => ?_) | (refine pu_onB fun _ => ?_) | (refine pu_onT fun _ => ?_) | (refine pu_mb ?_ fun _ => ?_) | refine pu_ite ?_ ?_ | split))
theorem pu_duel_voters : ∀ xs, Pu (m_duel xs) := fun xs => by
  unfold m_duel
  (repeat (first | exact pu_mp | exact pu_mz | exact pu_me | exact pu_mo | refine pu_gd ?_ | (refine pu_on1 fun _ => ?_) | (refine pu_on2 fun _ _ => ?_) | (refine pu_on3 fun _ _ _ => ?_) | (refine pu_onTS fun _ => ?_) | (refine pu_onD fun _ => ?_) | (refine pu_onS fun _ => ?_) | (refine pu_onI fun _ => ?_) | (refine pu_onB fun _ => ?_) | (refine pu_onT fun _ => ?_) | (refine pu_mb ?_ fun _ => ?_) | refine pu_ite ?_ ?_ | split))
theorem pu_l_is_truth : ∀ xs, Pu (m_truth xs) := fun xs => by
  unfold m_truth
  (repeat (first | exact pu_mp | exact pu_mz | exact pu_me | exact pu_mo | refine pu_gd ?_ | (refine pu_on1 fun _ => ?_) | (refine pu_on2 fun _ _ => ?_) | (refine pu_on3 fun _ _ _ => ?_) | (refine pu_onTS fun _ => ?_) | (refine pu_onD fun _ => ?_) | (refine pu_onS fun _ => ?_) | (refine pu_onI fun _ => ?_) | (refine pu_onB fun _ => ?_) | (refine pu_onT fun _ => ?_) | (refine pu_mb ?_ fun _ => ?_) | refine pu_ite ?_ ?_ | split))
theorem pu_l_same : ∀ xs, Pu (m_same xs) := fun xs => by
  unfold m_same
  (repeat (first | exact pu_mp | exact pu_mz | exact pu_me | exact pu_mo | refine pu_gd ?_ | (refine pu_on1 fun _ => ?_) | (refine pu_on2 fun _ _ => ?_) | (refine pu_on3 fun _ _ _ => ?_) | (refine pu_onTS fun _ => ?_) | (refine pu_onD fun _ => ?_) | (refine pu_onS fun _ => ?_) | (refine pu_onI fun _ => ?_) | (refine pu_onB fun _ => ?_) | (refine pu_onT fun _ => ?_) | (refine pu_mb ?_ fun _ => ?_) | refine pu_ite ?_ ?_ | split))
theorem pu_l_is_word : ∀ xs, Pu (m_lword xs) := fun xs => by
  unfold m_lword
  (repeat (first | exact pu_mp | exact pu_mz | exact pu_me | exact pu_mo | refine pu_gd ?_ | (refine pu_on1 fun _ => ?_) | (refine pu_on2 fun _ _ => ?_) | (refine pu_on3 fun _ _ _ => ?_) | (refine pu_onTS fun _ => ?_) | (refine pu_onD fun _ => ?_) | (refine pu_onS fun _ => ?_) | (refine pu_onI fun _ => ?_) | (refine pu_onB fun _ => ?_) | (refine pu_onT fun _ => ?_) | (refine pu_mb ?_ fun _ => ?_) | refine pu_ite ?_ ?_ | split))
theorem pu_l_tg_pairs : ∀ xs, Pu (m_pairs xs) := fun xs => by
  unfold m_pairs
  (repeat (first | exact pu_mp | exact pu_mz | exact pu_me | exact pu_mo | refine pu_gd ?_ | (refine pu_on1 fun _ => ?_) | (refine pu_on2 fun _ _ => ?_) | (refine pu_on3 fun _ _ _ => ?_) | (refine pu_onTS fun _ => ?_) | (refine pu_onD fun _ => ?_) | (refine pu_onS fun _ => ?_) | (refine pu_onI fun _ => ?_) | (refine pu_onB fun _ => ?_) | (refine pu_onT fun _ => ?_) | (refine pu_mb ?_ fun _ => ?_) | refine pu_ite ?_ ?_ | split))
theorem pu_l_tg_margins : ∀ xs, Pu (m_marg xs) := fun xs => by
  unfold m_marg
  (repeat (first | exact pu_mp | exact pu_mz | exact pu_me | exact pu_mo | refine pu_gd ?_ | (refine pu_on1 fun _ => ?_) | (refine pu_on2 fun _ _ => ?_) | (refine pu_on3 fun _ _ _ => ?_) | (refine pu_onTS fun _ => ?_) | (refine pu_onD fun _ => ?_) | (refine pu_onS fun _ => ?_) | (refine pu_onI fun _ => ?_) | (refine pu_onB fun _ => ?_) | (refine pu_onT fun _ => ?_) | (refine pu_mb ?_ fun _ => ?_) | refine pu_ite ?_ ?_ | split))
theorem pu_l_tg_are_voters : ∀ xs, Pu (m_vots xs) := fun xs => by
  unfold m_vots
  (repeat (first | exact pu_mp | exact pu_mz | exact pu_me | exact pu_mo | refine pu_gd ?_ | (refine pu_on1 fun _ => ?_) | (refine pu_on2 fun _ _ => ?_) | (refine pu_on3 fun _ _ _ => ?_) | (refine pu_onTS fun _ => ?_) | (refine pu_onD fun _ => ?_) | (refine pu_onS fun _ => ?_) | (refine pu_onI fun _ => ?_) | (refine pu_onB fun _ => ?_) | (refine pu_onT fun _ => ?_) | (refine pu_mb ?_ fun _ => ?_) | refine pu_ite ?_ ?_ | split))
theorem pu_l_k66_kind : ∀ xs, Pu (m_kind xs) := fun xs => by
  unfold m_kind
  (repeat (first | exact pu_mp | exact pu_mz | exact pu_me | exact pu_mo | refine pu_gd ?_ | (refine pu_on1 fun _ => ?_) | (refine pu_on2 fun _ _ => ?_) | (refine pu_on3 fun _ _ _ => ?_) | (refine pu_onTS fun _ => ?_) | (refine pu_onD fun _ => ?_) | (refine pu_onS fun _ => ?_) | (refine pu_onI fun _ => ?_) | (refine pu_onB fun _ => ?_) | (refine pu_onT fun _ => ?_) | (refine pu_mb ?_ fun _ => ?_) | refine pu_ite ?_ ?_ | split))
theorem okn_is_word (T : TX K mg gb A D) : FnOk P w K mg base (L2.CX P w) 1 A.is_word D.is_word ["value"] (spF K gb (m0 TB) (m_is_word)) :=
  fn_ok T.F_is_word sc_is_word (m0_ok TB) (fun xs G r e => on1_len e) (fun cdv A' outer s H F0 E hr => b_is_word T  cdv A' outer s H F0 E hr) (spec_is_word A)
theorem okn_is_whole (T : TX K mg gb A D) : FnOk P w K mg base (L2.CX P w) 1 A.is_whole D.is_whole ["value"] (spF K gb (m0 TB) (m_is_whole)) :=
  fn_ok T.F_is_whole sc_is_whole (m0_ok TB) (fun xs G r e => on1_len e) (fun cdv A' outer s H F0 E hr => b_is_whole T  cdv A' outer s H F0 E hr) (spec_is_whole A)
theorem okn_pairs_of (T : TX K mg gb A D) : FnOk P w K mg base (L2.CX P w) 1 A.pairs_of D.pairs_of ["things"] (spF K gb (m0 TB) (m_pairs)) :=
  fn_ok T.F_pairs_of sc_pairs_of (m0_ok TB) (fun xs G r e => on1_len e) (fun cdv A' outer s H F0 E hr => b_pairs_of T  cdv A' outer s H F0 E hr) spec_pairs
theorem okn_is_sign (T : TX K mg gb A D) : FnOk P w K mg base (L2.CX P w) 1 A.is_sign D.is_sign ["number"] (spF K gb (m0 TB) (m_is_sign)) :=
  fn_ok T.F_is_sign sc_is_sign (m0_ok TB) (fun xs G r e => on1_len e) (fun cdv A' outer s H F0 E hr => b_is_sign T  cdv A' outer s H F0 E hr) (spec_is_sign A)
theorem okn_two_for (T : TX K mg gb A D) : FnOk P w K mg base (L2.CX P w) 1 A.two_for D.two_for ["things", "one", "other"] (spF K gb (m0 TB) (m_two_for)) :=
  fn_ok T.F_two_for sc_two_for (m0_ok TB) (fun xs G r e => on3_len e) (fun cdv A' outer s H F0 E hr => b_two_for T  cdv A' outer s H F0 E hr) (spec_two_for A)
theorem okn_l_blended (T : TX K mg gb A D) (n1 : gb.dr ≠ gg) (n2 : gb.dr ≠ gc) (n3 : gg ≠ gc) : FnOk P w K mg base (L2.CX P w) 1 A.l_blended D.l_blended ["state"] (spF K gb (mD TB gb.dr gg gc cells) (m_blended)) :=
  fn_ok T.F_l_blended sc_l_blended (mD_ok TB gb.dr gg gc cells) (fun xs G r e => on1_len e) (fun cdv A' outer s H F0 E hr => b_l_blended T n1 n2 n3  cdv A' outer s H F0 E hr) spec_blended
theorem okn_l_is_truth (T : TX K mg gb A D) : FnOk P w K mg base (L2.CX P w) 1 A.l_is_truth D.l_is_truth ["found", "due"] (spF K gb (m0 TB) (m_truth)) :=
  fn_ok T.F_l_is_truth sc_l_is_truth (m0_ok TB) (fun xs G r e => on2_len e) (fun cdv A' outer s H F0 E hr => b_l_is_truth T  cdv A' outer s H F0 E hr) (spec_truth A)
theorem okn_l_is_word (T : TX K mg gb A D) : FnOk P w K mg base (L2.CX P w) 1 A.l_is_word D.l_is_word ["value"] (spF K gb (m0 TB) (m_lword)) :=
  fn_ok T.F_l_is_word sc_l_is_word (m0_ok TB) (fun xs G r e => on1_len e) (fun cdv A' outer s H F0 E hr => b_l_is_word T  cdv A' outer s H F0 E hr) (spec_lword A)
theorem okn_l_tg_pairs (T : TX K mg gb A D) : FnOk P w K mg base (L2.CX P w) 1 A.l_tg_pairs D.l_tg_pairs ["words"] (spF K gb (m0 TB) (m_pairs)) :=
  fn_ok T.F_l_tg_pairs sc_l_tg_pairs (m0_ok TB) (fun xs G r e => on1_len e) (fun cdv A' outer s H F0 E hr => b_l_tg_pairs T  cdv A' outer s H F0 E hr) spec_pairs
theorem okn_l_k66_kind (T : TX K mg gb A D) : FnOk P w K mg base (L2.CX P w) 1 A.l_k66_kind D.l_k66_kind ["error"] (spF K gb (m0 TB) (m_kind)) :=
  fn_ok T.F_l_k66_kind sc_l_k66_kind (m0_ok TB) (fun xs G r e => on1_len e) (fun cdv A' outer s H F0 E hr => b_l_k66_kind T  cdv A' outer s H F0 E hr) (spec_kind A)
theorem okn_are_things (T : TX K mg gb A D) : FnOk P w K mg base (L2.CX P w) 2 A.are_things D.are_things ["value"] (spF K gb (m0 TB) (m_are_things)) :=
  fn_ok T.F_are_things sc_are_things (m0_ok TB) (fun xs G r e => on1_len e) (fun cdv A' outer s H F0 E hr => b_are_things T (okn_is_word T) (gr0 pu_is_word) cdv A' outer s H F0 E hr) (spec_are_things A)
theorem okn_even_voters (T : TX K mg gb A D) : FnOk P w K mg base (L2.CX P w) 2 A.even_voters D.even_voters ["things", "numbers"] (spF K gb (m0 TB) (m_even)) :=
  fn_ok T.F_even_voters sc_even_voters (m0_ok TB) (fun xs G r e => on2_len e) (fun cdv A' outer s H F0 E hr => b_even_voters T (okn_pairs_of T) (gr0 pu_pairs_of) (okn_two_for T) (gr0 pu_two_for) cdv A' outer s H F0 E hr) (spec_even A)
theorem okn_l_draw (T : TX K mg gb A D) (n1 : gb.dr ≠ gg) (n2 : gb.dr ≠ gc) (n3 : gg ≠ gc) : FnOk P w K mg base (L2.CX P w) 2 A.l_draw D.l_draw ["state", "room"] (spF K gb (mD TB gb.dr gg gc cells) (m_draw)) :=
  fn_ok T.F_l_draw sc_l_draw (mD_ok TB gb.dr gg gc cells) (fun xs G r e => on2_len e) (fun cdv A' outer s H F0 E hr => b_l_draw T n1 n2 n3 (okn_l_blended T n1 n2 n3) grD cdv A' outer s H F0 E hr) spec_draw
theorem okn_l_same (T : TX K mg gb A D) : FnOk P w K mg base (L2.CX P w) 2 A.l_same D.l_same ["found", "due"] (spF K gb (m0 TB) (m_same)) :=
  fn_ok T.F_l_same sc_l_same (m0_ok TB) (fun xs G r e => on2_len e) (fun cdv A' outer s H F0 E hr => b_l_same T (okn_l_is_truth T) (gr0 pu_l_is_truth) cdv A' outer s H F0 E hr) (spec_same A)
theorem okn_l_tg_margins (T : TX K mg gb A D) : FnOk P w K mg base (L2.CX P w) 2 A.l_tg_margins D.l_tg_margins ["words", "voters"] (spF K gb (m0 TB) (m_marg)) :=
  fn_ok T.F_l_tg_margins sc_l_tg_margins (m0_ok TB) (fun xs G r e => on2_len e) (fun cdv A' outer s H F0 E hr => b_l_tg_margins T (okn_l_tg_pairs T) (gr0 pu_l_tg_pairs) cdv A' outer s H F0 E hr) (spec_marg A)
theorem okn_l_tg_are_voters (T : TX K mg gb A D) : FnOk P w K mg base (L2.CX P w) 2 A.l_tg_are_voters D.l_tg_are_voters ["value"] (spF K gb (m0 TB) (m_vots)) :=
  fn_ok T.F_l_tg_are_voters sc_l_tg_are_voters (m0_ok TB) (fun xs G r e => on1_len e) (fun cdv A' outer s H F0 E hr => b_l_tg_are_voters T (okn_l_is_word T) (gr0 pu_l_is_word) cdv A' outer s H F0 E hr) (spec_vots A)
theorem okn_is_table (T : TX K mg gb A D) : FnOk P w K mg base (L2.CX P w) 3 A.is_table D.is_table ["value", "name", "judge"] (spF K gb (m0 TB) (m_is_table A)) :=
  fn_ok T.F_is_table sc_is_table (m0_ok TB) (fun xs G r e => on3_len e) (fun cdv A' outer s H F0 E hr => b_is_table T (okn_are_things T) (gr0 pu_are_things) (okn_is_whole T) (gr0 pu_is_whole) (okn_pairs_of T) (gr0 pu_pairs_of) (okn_is_sign T) (gr0 pu_is_sign) cdv A' outer s H F0 E hr) (spec_is_table A)
theorem okn_voters_for (T : TX K mg gb A D) : FnOk P w K mg base (L2.CX P w) 3 A.voters_for D.voters_for ["things", "numbers"] (spF K gb (m0 TB) (m_vfor)) :=
  fn_ok T.F_voters_for sc_voters_for (m0_ok TB) (fun xs G r e => on2_len e) (fun cdv A' outer s H F0 E hr => b_voters_for T (okn_even_voters T) (gr0 pu_even_voters) cdv A' outer s H F0 E hr) (spec_vfor A)
theorem okn_l_pick (T : TX K mg gb A D) (n1 : gb.dr ≠ gg) (n2 : gb.dr ≠ gc) (n3 : gg ≠ gc) : FnOk P w K mg base (L2.CX P w) 3 A.l_pick D.l_pick ["state", "some"] (spF K gb (mD TB gb.dr gg gc cells) (m_pick)) :=
  fn_ok T.F_l_pick sc_l_pick (mD_ok TB gb.dr gg gc cells) (fun xs G r e => on2_len e) (fun cdv A' outer s H F0 E hr => b_l_pick T n1 n2 n3 (okn_l_draw T n1 n2 n3) grD cdv A' outer s H F0 E hr) spec_pick
theorem okn_is_duels (T : TX K mg gb A D) : FnOk P w K mg base (L2.CX P w) 4 A.is_duels D.is_duels ["value"] (spF K gb (m0 TB) (m_is_duels)) :=
  fn_ok T.F_is_duels sc_is_duels (m0_ok TB) (fun xs G r e => on1_len e) (fun cdv A' outer s H F0 E hr => b_is_duels T (okn_is_table T) (gr0 pu_is_table) cdv A' outer s H F0 E hr) (spec_is_duels A)
theorem okn_l_words (T : TX K mg gb A D) (n1 : gb.dr ≠ gg) (n2 : gb.dr ≠ gc) (n3 : gg ≠ gc) : FnOk P w K mg base (L2.CX P w) 4 A.l_words D.l_words ["draws", "many"] (spF K gb (mD TB gb.dr gg gc cells) (m_words)) :=
  fn_ok T.F_l_words sc_l_words (mD_ok TB gb.dr gg gc cells) (fun xs G r e => on2_len e) (fun cdv A' outer s H F0 E hr => b_l_words T n1 n2 n3 (okn_l_draw T n1 n2 n3) grD (okn_l_pick T n1 n2 n3) grD cdv A' outer s H F0 E hr) (spec_words A)
theorem okn_duel_voters (T : TX K mg gb A D) : FnOk P w K mg base (L2.CX P w) 5 A.duel_voters D.duel_voters ["duels", "odd"] (spF K gb (m0 TB) (m_duel)) :=
  fn_ok T.F_duel_voters sc_duel_voters (m0_ok TB) (fun xs G r e => on2_len e) (fun cdv A' outer s H F0 E hr => b_duel_voters T (okn_is_duels T) (gr0 pu_is_duels) (okn_voters_for T) (gr0 pu_voters_for) cdv A' outer s H F0 E hr) (spec_duel A)
end
section
variable {P : Program} {w : World} {K : PySem.W.Frag} {mg : Str → Option Value} {base : Heap} {eo : Er → Addr → HO} {ca : Str → Addr} {A : AD} {D : FDS} {oc : Value} {od : Option Addr} {kV doc pm ct : Value} {an : Option Addr} {osl : Array (Option Value)} {lcc lP : Addr}
theorem okn_law (T : ∀ dr, TX K mg ⟨dr, eo, ca⟩ A D) (lk : K.lookup A.law = some ⟨oc, od, .func (PySem.W.fnOf "law" "law" (defArgs s_law) (defBody s_law) (defScope s_law) .none kV doc pm an (.ref lcc) ct), osl⟩) (hcd : PySem.W.codeIn K (.ref lcc) "law" = true) (TBB : TabB base mg lcc lP) :
    FnOk P w K mg base (L2.CX P w) 8 A.law (PySem.W.fnOf "law" "law" (defArgs s_law) (defBody s_law) (defScope s_law) .none kV doc pm an (.ref lcc) ct) ["script"] (spLaw K [(lP, qLam A lcc)]) := by
  refine fn_of lk hcd sc_law (fun vs H Q E ⟨a, ns, e, _⟩ => by rw [e]; rfl) (fun A' outer s H vs Q E hr ⟨a, ns, e, hS, hl, hT, hQ⟩ => ?_)
  subst e
  refine ⟨tSeq (tAsg (tCall (spBegun K [(lP, qLam A lcc)]) [] E (tCons (tVar 0) tNil)) (gName 1)) (tEx K eo ca [(lP, qLam A lcc)] E (a_law A (m_duel) (m_draw) (m_pick) (m_same) (m_words) (m_pairs) (m_marg) (m_vots) (m_kind))), ?_, law_read hS hl hT hQ (law_run A ns hl)⟩
  have SC := sc_law
  have TK : Takes (cxOf (L2.CX P w) P w K mg base N_law "law" (defScope s_law) A.law (.ref lcc) A' outer s H E) (fun cls d _ H => E cls d H) := takes_of rfl rfl rfl rfl
  have PX := passT TK
  exact pss_cons (ps_set (i := 1) SC.nd rfl (by first | exact Or.inl rfl | exact Or.inr rfl) (pe_call (ok_l_begun (T 0)) (hr.mono (by decide)) rfl (T 0).m_l_begun (T 0).F_l_begun.kp (T 0).B_l_begun .nil PX (pa_cons (pv 0) pa_nil))) (pss_ex fun dr g c cells F0 H0 n1 n2 n3 => b_law (gb := ⟨dr, eo, ca⟩) (T dr) n1 n2 n3 (okn_duel_voters (T dr)) (gr0 pu_duel_voters) (okn_l_draw (T dr) n1 n2 n3) grD (okn_l_pick (T dr) n1 n2 n3) grD (okn_l_same (T dr)) (gr0 pu_l_same) (okn_l_words (T dr) n1 n2 n3) grD (okn_l_tg_pairs (T dr)) (gr0 pu_l_tg_pairs) (okn_l_tg_margins (T dr)) (gr0 pu_l_tg_margins) (okn_l_tg_are_voters (T dr)) (gr0 pu_l_tg_are_voters) (okn_l_k66_kind (T dr)) (gr0 pu_l_k66_kind) TBB (List.mem_cons_self ..) (fun p hp _ => by rw [List.mem_singleton.mp hp]) A' outer s H F0 H0 E hr)
end
def caOf (C_ShownError C_BadMargins C_BadDuels C_BadOdd : Addr) (x : Str) : Addr := if x = "ShownError" then C_ShownError else if x = "BadMargins" then C_BadMargins else if x = "BadDuels" then C_BadDuels else if x = "BadOdd" then C_BadOdd else 0
theorem caOf_is {C_ShownError C_BadMargins C_BadDuels C_BadOdd : Addr} : (caOf C_ShownError C_BadMargins C_BadDuels C_BadOdd) "ShownError" = C_ShownError ∧ (caOf C_ShownError C_BadMargins C_BadDuels C_BadOdd) "BadMargins" = C_BadMargins ∧ (caOf C_ShownError C_BadMargins C_BadDuels C_BadOdd) "BadDuels" = C_BadDuels ∧ (caOf C_ShownError C_BadMargins C_BadDuels C_BadOdd) "BadOdd" = C_BadOdd := by
  exact ⟨(by unfold caOf; rw [if_pos rfl]), (by unfold caOf; rw [if_neg (by decide +kernel), if_pos rfl]), (by unfold caOf; rw [if_neg (by decide +kernel), if_neg (by decide +kernel), if_pos rfl]), (by unfold caOf; rw [if_neg (by decide +kernel), if_neg (by decide +kernel), if_neg (by decide +kernel), if_pos rfl])⟩
theorem all_mk {l : PySem.W.OpenLaw} {w : World} {K : PySem.W.Frag} {h : Heap} {mg : Str → Option Value} {fa lcc lP : Addr} {C_ShownError : Addr} {C_BadMargins : Addr} {C_BadDuels : Addr} {C_BadOdd : Addr} {f0 : Addr} {od0 an0 : Option Addr} {sl0 : Array (Option Value)} {oc0 kV0 dc0 pm0 cd0 ct0 : Value} {f1 : Addr} {od1 an1 : Option Addr} {sl1 : Array (Option Value)} {oc1 kV1 dc1 pm1 cd1 ct1 : Value} {f2 : Addr} {od2 an2 : Option Addr} {sl2 : Array (Option Value)} {oc2 kV2 dc2 pm2 cd2 ct2 : Value} {f3 : Addr} {od3 an3 : Option Addr} {sl3 : Array (Option Value)} {oc3 kV3 dc3 pm3 cd3 ct3 : Value} {f4 : Addr} {od4 an4 : Option Addr} {sl4 : Array (Option Value)} {oc4 kV4 dc4 pm4 cd4 ct4 : Value} {f5 : Addr} {od5 an5 : Option Addr} {sl5 : Array (Option Value)} {oc5 kV5 dc5 pm5 cd5 ct5 : Value} {f6 : Addr} {od6 an6 : Option Addr} {sl6 : Array (Option Value)} {oc6 kV6 dc6 pm6 cd6 ct6 : Value} {f7 : Addr} {od7 an7 : Option Addr} {sl7 : Array (Option Value)} {oc7 kV7 dc7 pm7 cd7 ct7 : Value} {f8 : Addr} {od8 an8 : Option Addr} {sl8 : Array (Option Value)} {oc8 kV8 dc8 pm8 cd8 ct8 : Value} {f9 : Addr} {od9 an9 : Option Addr} {sl9 : Array (Option Value)} {oc9 kV9 dc9 pm9 cd9 ct9 : Value} {f10 : Addr} {od10 an10 : Option Addr} {sl10 : Array (Option Value)} {oc10 kV10 dc10 pm10 cd10 ct10 : Value} {f11 : Addr} {od11 an11 : Option Addr} {sl11 : Array (Option Value)} {oc11 kV11 dc11 pm11 cd11 ct11 : Value} {f12 : Addr} {od12 an12 : Option Addr} {sl12 : Array (Option Value)} {oc12 kV12 dc12 pm12 cd12 ct12 : Value} {f13 : Addr} {od13 an13 : Option Addr} {sl13 : Array (Option Value)} {oc13 kV13 dc13 pm13 cd13 ct13 : Value} {f14 : Addr} {od14 an14 : Option Addr} {sl14 : Array (Option Value)} {oc14 kV14 dc14 pm14 cd14 ct14 : Value} {f15 : Addr} {od15 an15 : Option Addr} {sl15 : Array (Option Value)} {oc15 kV15 dc15 pm15 cd15 ct15 : Value} {f16 : Addr} {od16 an16 : Option Addr} {sl16 : Array (Option Value)} {oc16 kV16 dc16 pm16 cd16 ct16 : Value} {f17 : Addr} {od17 an17 : Option Addr} {sl17 : Array (Option Value)} {oc17 kV17 dc17 pm17 cd17 ct17 : Value} {f18 : Addr} {od18 an18 : Option Addr} {sl18 : Array (Option Value)} {oc18 kV18 dc18 pm18 cd18 ct18 : Value} {f19 : Addr} {od19 an19 : Option Addr} {sl19 : Array (Option Value)} {oc19 kV19 dc19 pm19 cd19 ct19 : Value} {f20 : Addr} {od20 an20 : Option Addr} {sl20 : Array (Option Value)} {oc20 kV20 dc20 pm20 cd20 ct20 : Value} {f21 : Addr} {od21 an21 : Option Addr} {sl21 : Array (Option Value)} {oc21 kV21 dc21 pm21 cd21 ct21 : Value} {f22 : Addr} {od22 an22 : Option Addr} {sl22 : Array (Option Value)} {oc22 kV22 dc22 pm22 cd22 ct22 : Value} {f23 : Addr} {od23 an23 : Option Addr} {sl23 : Array (Option Value)} {oc23 kV23 dc23 pm23 cd23 ct23 : Value} {f24 : Addr} {od24 an24 : Option Addr} {sl24 : Array (Option Value)} {oc24 kV24 dc24 pm24 ct24 : Value} {t_LEAST_THINGS : Tok} {t_LETTERS : Tok} {t_MOST_THINGS : Tok} (X : K.In h) (G : h.Ns mainGlobals mg) (hfa : mg "law" = some (.ref fa)) (hP : h.get? lP = some { cls := .none, data := .fields #[] }) (nP : K.lookup lP = none) (hC : PySem.W.codeHdIn K lcc lP = true)
    (a0 : PySem.W.nsIn K mainGlobals "is_word" = some (some (.ref f0)))
    (l0 : K.lookup f0 = some ⟨oc0, od0, .func (PySem.W.fnOf "is_word" "is_word" (defArgs s_is_word) (defBody s_is_word) (defScope s_is_word) .none kV0 dc0 pm0 an0 cd0 ct0), sl0⟩)
    (c0 : PySem.W.codeIn K cd0 "is_word" = true)
    (k0 : PySem.W.keepIn K (.ref f0) = true)
    (a1 : PySem.W.nsIn K mainGlobals "are_things" = some (some (.ref f1)))
    (l1 : K.lookup f1 = some ⟨oc1, od1, .func (PySem.W.fnOf "are_things" "are_things" (defArgs s_are_things) (defBody s_are_things) (defScope s_are_things) .none kV1 dc1 pm1 an1 cd1 ct1), sl1⟩)
    (c1 : PySem.W.codeIn K cd1 "are_things" = true)
    (k1 : PySem.W.keepIn K (.ref f1) = true)
    (a2 : PySem.W.nsIn K mainGlobals "is_whole" = some (some (.ref f2)))
    (l2 : K.lookup f2 = some ⟨oc2, od2, .func (PySem.W.fnOf "is_whole" "is_whole" (defArgs s_is_whole) (defBody s_is_whole) (defScope s_is_whole) .none kV2 dc2 pm2 an2 cd2 ct2), sl2⟩)
    (c2 : PySem.W.codeIn K cd2 "is_whole" = true)
    (k2 : PySem.W.keepIn K (.ref f2) = true)
    (a3 : PySem.W.nsIn K mainGlobals "pairs_of" = some (some (.ref f3)))
    (l3 : K.lookup f3 = some ⟨oc3, od3, .func (PySem.W.fnOf "pairs_of" "pairs_of" (defArgs s_pairs_of) (defBody s_pairs_of) (defScope s_pairs_of) .none kV3 dc3 pm3 an3 cd3 ct3), sl3⟩)
    (c3 : PySem.W.codeIn K cd3 "pairs_of" = true)
    (k3 : PySem.W.keepIn K (.ref f3) = true)
    (a4 : PySem.W.nsIn K mainGlobals "is_table" = some (some (.ref f4)))
    (l4 : K.lookup f4 = some ⟨oc4, od4, .func (PySem.W.fnOf "is_table" "is_table" (defArgs s_is_table) (defBody s_is_table) (defScope s_is_table) .none kV4 dc4 pm4 an4 cd4 ct4), sl4⟩)
    (c4 : PySem.W.codeIn K cd4 "is_table" = true)
    (k4 : PySem.W.keepIn K (.ref f4) = true)
    (a5 : PySem.W.nsIn K mainGlobals "is_sign" = some (some (.ref f5)))
    (l5 : K.lookup f5 = some ⟨oc5, od5, .func (PySem.W.fnOf "is_sign" "is_sign" (defArgs s_is_sign) (defBody s_is_sign) (defScope s_is_sign) .none kV5 dc5 pm5 an5 cd5 ct5), sl5⟩)
    (c5 : PySem.W.codeIn K cd5 "is_sign" = true)
    (k5 : PySem.W.keepIn K (.ref f5) = true)
    (a6 : PySem.W.nsIn K mainGlobals "is_duels" = some (some (.ref f6)))
    (l6 : K.lookup f6 = some ⟨oc6, od6, .func (PySem.W.fnOf "is_duels" "is_duels" (defArgs s_is_duels) (defBody s_is_duels) (defScope s_is_duels) .none kV6 dc6 pm6 an6 cd6 ct6), sl6⟩)
    (c6 : PySem.W.codeIn K cd6 "is_duels" = true)
    (k6 : PySem.W.keepIn K (.ref f6) = true)
    (a7 : PySem.W.nsIn K mainGlobals "two_for" = some (some (.ref f7)))
    (l7 : K.lookup f7 = some ⟨oc7, od7, .func (PySem.W.fnOf "two_for" "two_for" (defArgs s_two_for) (defBody s_two_for) (defScope s_two_for) .none kV7 dc7 pm7 an7 cd7 ct7), sl7⟩)
    (c7 : PySem.W.codeIn K cd7 "two_for" = true)
    (k7 : PySem.W.keepIn K (.ref f7) = true)
    (a8 : PySem.W.nsIn K mainGlobals "even_voters" = some (some (.ref f8)))
    (l8 : K.lookup f8 = some ⟨oc8, od8, .func (PySem.W.fnOf "even_voters" "even_voters" (defArgs s_even_voters) (defBody s_even_voters) (defScope s_even_voters) .none kV8 dc8 pm8 an8 cd8 ct8), sl8⟩)
    (c8 : PySem.W.codeIn K cd8 "even_voters" = true)
    (k8 : PySem.W.keepIn K (.ref f8) = true)
    (a9 : PySem.W.nsIn K mainGlobals "voters_for" = some (some (.ref f9)))
    (l9 : K.lookup f9 = some ⟨oc9, od9, .func (PySem.W.fnOf "voters_for" "voters_for" (defArgs s_voters_for) (defBody s_voters_for) (defScope s_voters_for) .none kV9 dc9 pm9 an9 cd9 ct9), sl9⟩)
    (c9 : PySem.W.codeIn K cd9 "voters_for" = true)
    (k9 : PySem.W.keepIn K (.ref f9) = true)
    (a10 : PySem.W.nsIn K mainGlobals "duel_voters" = some (some (.ref f10)))
    (l10 : K.lookup f10 = some ⟨oc10, od10, .func (PySem.W.fnOf "duel_voters" "duel_voters" (defArgs s_duel_voters) (defBody s_duel_voters) (defScope s_duel_voters) .none kV10 dc10 pm10 an10 cd10 ct10), sl10⟩)
    (c10 : PySem.W.codeIn K cd10 "duel_voters" = true)
    (k10 : PySem.W.keepIn K (.ref f10) = true)
    (a11 : PySem.W.nsIn K mainGlobals "_law_begun" = some (some (.ref f11)))
    (l11 : K.lookup f11 = some ⟨oc11, od11, .func (PySem.W.fnOf "_law_begun" "_law_begun" (defArgs s_l_begun) (defBody s_l_begun) (defScope s_l_begun) .none kV11 dc11 pm11 an11 cd11 ct11), sl11⟩)
    (c11 : PySem.W.codeIn K cd11 "_law_begun" = true)
    (k11 : PySem.W.keepIn K (.ref f11) = true)
    (a12 : PySem.W.nsIn K mainGlobals "_law_blended" = some (some (.ref f12)))
    (l12 : K.lookup f12 = some ⟨oc12, od12, .func (PySem.W.fnOf "_law_blended" "_law_blended" (defArgs s_l_blended) (defBody s_l_blended) (defScope s_l_blended) .none kV12 dc12 pm12 an12 cd12 ct12), sl12⟩)
    (c12 : PySem.W.codeIn K cd12 "_law_blended" = true)
    (k12 : PySem.W.keepIn K (.ref f12) = true)
    (a13 : PySem.W.nsIn K mainGlobals "_law_draw" = some (some (.ref f13)))
    (l13 : K.lookup f13 = some ⟨oc13, od13, .func (PySem.W.fnOf "_law_draw" "_law_draw" (defArgs s_l_draw) (defBody s_l_draw) (defScope s_l_draw) .none kV13 dc13 pm13 an13 cd13 ct13), sl13⟩)
    (c13 : PySem.W.codeIn K cd13 "_law_draw" = true)
    (k13 : PySem.W.keepIn K (.ref f13) = true)
    (a14 : PySem.W.nsIn K mainGlobals "_law_pick" = some (some (.ref f14)))
    (l14 : K.lookup f14 = some ⟨oc14, od14, .func (PySem.W.fnOf "_law_pick" "_law_pick" (defArgs s_l_pick) (defBody s_l_pick) (defScope s_l_pick) .none kV14 dc14 pm14 an14 cd14 ct14), sl14⟩)
    (c14 : PySem.W.codeIn K cd14 "_law_pick" = true)
    (k14 : PySem.W.keepIn K (.ref f14) = true)
    (a15 : PySem.W.nsIn K mainGlobals "_law_caught" = some (some (.ref f15)))
    (l15 : K.lookup f15 = some ⟨oc15, od15, .func (PySem.W.fnOf "_law_caught" "_law_caught" (defArgs s_l_caught) (defBody s_l_caught) (defScope s_l_caught) .none kV15 dc15 pm15 an15 cd15 ct15), sl15⟩)
    (c15 : PySem.W.codeIn K cd15 "_law_caught" = true)
    (k15 : PySem.W.keepIn K (.ref f15) = true)
    (a16 : PySem.W.nsIn K mainGlobals "_law_is_truth" = some (some (.ref f16)))
    (l16 : K.lookup f16 = some ⟨oc16, od16, .func (PySem.W.fnOf "_law_is_truth" "_law_is_truth" (defArgs s_l_is_truth) (defBody s_l_is_truth) (defScope s_l_is_truth) .none kV16 dc16 pm16 an16 cd16 ct16), sl16⟩)
    (c16 : PySem.W.codeIn K cd16 "_law_is_truth" = true)
    (k16 : PySem.W.keepIn K (.ref f16) = true)
    (a17 : PySem.W.nsIn K mainGlobals "_law_same" = some (some (.ref f17)))
    (l17 : K.lookup f17 = some ⟨oc17, od17, .func (PySem.W.fnOf "_law_same" "_law_same" (defArgs s_l_same) (defBody s_l_same) (defScope s_l_same) .none kV17 dc17 pm17 an17 cd17 ct17), sl17⟩)
    (c17 : PySem.W.codeIn K cd17 "_law_same" = true)
    (k17 : PySem.W.keepIn K (.ref f17) = true)
    (a18 : PySem.W.nsIn K mainGlobals "_law_words" = some (some (.ref f18)))
    (l18 : K.lookup f18 = some ⟨oc18, od18, .func (PySem.W.fnOf "_law_words" "_law_words" (defArgs s_l_words) (defBody s_l_words) (defScope s_l_words) .none kV18 dc18 pm18 an18 cd18 ct18), sl18⟩)
    (c18 : PySem.W.codeIn K cd18 "_law_words" = true)
    (k18 : PySem.W.keepIn K (.ref f18) = true)
    (a19 : PySem.W.nsIn K mainGlobals "_law_is_word" = some (some (.ref f19)))
    (l19 : K.lookup f19 = some ⟨oc19, od19, .func (PySem.W.fnOf "_law_is_word" "_law_is_word" (defArgs s_l_is_word) (defBody s_l_is_word) (defScope s_l_is_word) .none kV19 dc19 pm19 an19 cd19 ct19), sl19⟩)
    (c19 : PySem.W.codeIn K cd19 "_law_is_word" = true)
    (k19 : PySem.W.keepIn K (.ref f19) = true)
    (a20 : PySem.W.nsIn K mainGlobals "_law_tg_pairs" = some (some (.ref f20)))
    (l20 : K.lookup f20 = some ⟨oc20, od20, .func (PySem.W.fnOf "_law_tg_pairs" "_law_tg_pairs" (defArgs s_l_tg_pairs) (defBody s_l_tg_pairs) (defScope s_l_tg_pairs) .none kV20 dc20 pm20 an20 cd20 ct20), sl20⟩)
    (c20 : PySem.W.codeIn K cd20 "_law_tg_pairs" = true)
    (k20 : PySem.W.keepIn K (.ref f20) = true)
    (a21 : PySem.W.nsIn K mainGlobals "_law_tg_margins" = some (some (.ref f21)))
    (l21 : K.lookup f21 = some ⟨oc21, od21, .func (PySem.W.fnOf "_law_tg_margins" "_law_tg_margins" (defArgs s_l_tg_margins) (defBody s_l_tg_margins) (defScope s_l_tg_margins) .none kV21 dc21 pm21 an21 cd21 ct21), sl21⟩)
    (c21 : PySem.W.codeIn K cd21 "_law_tg_margins" = true)
    (k21 : PySem.W.keepIn K (.ref f21) = true)
    (a22 : PySem.W.nsIn K mainGlobals "_law_tg_are_voters" = some (some (.ref f22)))
    (l22 : K.lookup f22 = some ⟨oc22, od22, .func (PySem.W.fnOf "_law_tg_are_voters" "_law_tg_are_voters" (defArgs s_l_tg_are_voters) (defBody s_l_tg_are_voters) (defScope s_l_tg_are_voters) .none kV22 dc22 pm22 an22 cd22 ct22), sl22⟩)
    (c22 : PySem.W.codeIn K cd22 "_law_tg_are_voters" = true)
    (k22 : PySem.W.keepIn K (.ref f22) = true)
    (a23 : PySem.W.nsIn K mainGlobals "_law_k66_kind" = some (some (.ref f23)))
    (l23 : K.lookup f23 = some ⟨oc23, od23, .func (PySem.W.fnOf "_law_k66_kind" "_law_k66_kind" (defArgs s_l_k66_kind) (defBody s_l_k66_kind) (defScope s_l_k66_kind) .none kV23 dc23 pm23 an23 cd23 ct23), sl23⟩)
    (c23 : PySem.W.codeIn K cd23 "_law_k66_kind" = true)
    (k23 : PySem.W.keepIn K (.ref f23) = true)
    (a24 : PySem.W.nsIn K mainGlobals "law" = some (some (.ref f24)))
    (l24 : K.lookup f24 = some ⟨oc24, od24, .func (PySem.W.fnOf "law" "law" (defArgs s_law) (defBody s_law) (defScope s_law) .none kV24 dc24 pm24 an24 (.ref lcc) ct24), sl24⟩)
    (c24 : PySem.W.codeIn K (.ref lcc) "law" = true)
    (k24 : PySem.W.keepIn K (.ref f24) = true)
    (z_abs : PySem.W.nsIn K mainGlobals "abs" = some none)
    (z_all : PySem.W.nsIn K mainGlobals "all" = some none)
    (z_any : PySem.W.nsIn K mainGlobals "any" = some none)
    (z_bool : PySem.W.nsIn K mainGlobals "bool" = some none)
    (z_dict : PySem.W.nsIn K mainGlobals "dict" = some none)
    (z_enumerate : PySem.W.nsIn K mainGlobals "enumerate" = some none)
    (z_int : PySem.W.nsIn K mainGlobals "int" = some none)
    (z_isinstance : PySem.W.nsIn K mainGlobals "isinstance" = some none)
    (z_len : PySem.W.nsIn K mainGlobals "len" = some none)
    (z_list : PySem.W.nsIn K mainGlobals "list" = some none)
    (z_min : PySem.W.nsIn K mainGlobals "min" = some none)
    (z_range : PySem.W.nsIn K mainGlobals "range" = some none)
    (z_set : PySem.W.nsIn K mainGlobals "set" = some none)
    (z_sorted : PySem.W.nsIn K mainGlobals "sorted" = some none)
    (z_str : PySem.W.nsIn K mainGlobals "str" = some none)
    (z_sum : PySem.W.nsIn K mainGlobals "sum" = some none)
    (z_tuple : PySem.W.nsIn K mainGlobals "tuple" = some none)
    (z_zip : PySem.W.nsIn K mainGlobals "zip" = some none)
    (g_LEAST_THINGS : PySem.W.nsIn K mainGlobals "LEAST_THINGS" = some (some (.int 2 t_LEAST_THINGS)))
    (g_LETTERS : PySem.W.nsIn K mainGlobals "LETTERS" = some (some (.str "abcdefghijklmnopqrstuvwxyz" t_LETTERS)))
    (g_MOST_THINGS : PySem.W.nsIn K mainGlobals "MOST_THINGS" = some (some (.int 5 t_MOST_THINGS)))
    (aC_ShownError : PySem.W.nsIn K mainGlobals "ShownError" = some (some (.ref C_ShownError)))
    (kC_ShownError : PySem.W.keepIn K (.ref C_ShownError) = true)
    (qC_ShownError : PySem.W.excIn K C_ShownError [.type "ValueError", .type "Exception", .type "BaseException", .type "object"] "ValueError.__new__" = true)
    (sC_ShownError : PySem.W.subIn K (.ref C_ShownError) (.type "BaseException") = some true)
    (tC_ShownError : PySem.W.typeIn K (.ref C_ShownError) = some (.type "type"))
    (iC_ShownError : PySem.W.isClsIn K C_ShownError = true)
    (aC_BadMargins : PySem.W.nsIn K mainGlobals "BadMargins" = some (some (.ref C_BadMargins)))
    (kC_BadMargins : PySem.W.keepIn K (.ref C_BadMargins) = true)
    (qC_BadMargins : PySem.W.excIn K C_BadMargins [.type "ValueError", .type "Exception", .type "BaseException", .type "object"] "ValueError.__new__" = true)
    (sC_BadMargins : PySem.W.subIn K (.ref C_BadMargins) (.type "BaseException") = some true)
    (tC_BadMargins : PySem.W.typeIn K (.ref C_BadMargins) = some (.type "type"))
    (iC_BadMargins : PySem.W.isClsIn K C_BadMargins = true)
    (aC_BadDuels : PySem.W.nsIn K mainGlobals "BadDuels" = some (some (.ref C_BadDuels)))
    (kC_BadDuels : PySem.W.keepIn K (.ref C_BadDuels) = true)
    (qC_BadDuels : PySem.W.excIn K C_BadDuels [.type "ValueError", .type "Exception", .type "BaseException", .type "object"] "ValueError.__new__" = true)
    (sC_BadDuels : PySem.W.subIn K (.ref C_BadDuels) (.type "BaseException") = some true)
    (tC_BadDuels : PySem.W.typeIn K (.ref C_BadDuels) = some (.type "type"))
    (iC_BadDuels : PySem.W.isClsIn K C_BadDuels = true)
    (aC_BadOdd : PySem.W.nsIn K mainGlobals "BadOdd" = some (some (.ref C_BadOdd)))
    (kC_BadOdd : PySem.W.keepIn K (.ref C_BadOdd) = true)
    (qC_BadOdd : PySem.W.excIn K C_BadOdd [.type "ValueError", .type "Exception", .type "BaseException", .type "object"] "ValueError.__new__" = true)
    (sC_BadOdd : PySem.W.subIn K (.ref C_BadOdd) (.type "BaseException") = some true)
    (tC_BadOdd : PySem.W.typeIn K (.ref C_BadOdd) = some (.type "type"))
    (iC_BadOdd : PySem.W.isClsIn K C_BadOdd = true)
    (xg_BadMargins : PySem.W.findIn K (.ref C_BadMargins) "__getattribute__" = some (some (.builtin "BaseException.__getattribute__")))
    (xk_BadMargins : PySem.W.findIn K (.ref C_BadMargins) "__getattr__" = some none)
    (xd_BadMargins : PySem.W.hasDictIn K C_BadMargins = true)
    (xa_BadMargins : PySem.W.findIn K (.ref C_BadMargins) "__class__" = some (some (.builtin "object.__class__")))
    (xm_BadMargins : PySem.W.mroIn K C_BadMargins (.type "object") = some true)
    (xS_BadMargins : PySem.W.subIn K (.ref C_BadMargins) (.ref C_ShownError) = some true)
    (xs_BadMargins_BadDuels : PySem.W.subIn K (.ref C_BadMargins) (.ref C_BadDuels) = some false)
    (xn_BadMargins_BadDuels : (Value.ref C_BadMargins == Value.ref C_BadDuels) = false)
    (xs_BadMargins_BadOdd : PySem.W.subIn K (.ref C_BadMargins) (.ref C_BadOdd) = some false)
    (xn_BadMargins_BadOdd : (Value.ref C_BadMargins == Value.ref C_BadOdd) = false)
    (xg_BadDuels : PySem.W.findIn K (.ref C_BadDuels) "__getattribute__" = some (some (.builtin "BaseException.__getattribute__")))
    (xk_BadDuels : PySem.W.findIn K (.ref C_BadDuels) "__getattr__" = some none)
    (xd_BadDuels : PySem.W.hasDictIn K C_BadDuels = true)
    (xa_BadDuels : PySem.W.findIn K (.ref C_BadDuels) "__class__" = some (some (.builtin "object.__class__")))
    (xm_BadDuels : PySem.W.mroIn K C_BadDuels (.type "object") = some true)
    (xS_BadDuels : PySem.W.subIn K (.ref C_BadDuels) (.ref C_ShownError) = some true)
    (xs_BadDuels_BadMargins : PySem.W.subIn K (.ref C_BadDuels) (.ref C_BadMargins) = some false)
    (xn_BadDuels_BadMargins : (Value.ref C_BadDuels == Value.ref C_BadMargins) = false)
    (xs_BadDuels_BadOdd : PySem.W.subIn K (.ref C_BadDuels) (.ref C_BadOdd) = some false)
    (xn_BadDuels_BadOdd : (Value.ref C_BadDuels == Value.ref C_BadOdd) = false)
    (xg_BadOdd : PySem.W.findIn K (.ref C_BadOdd) "__getattribute__" = some (some (.builtin "BaseException.__getattribute__")))
    (xk_BadOdd : PySem.W.findIn K (.ref C_BadOdd) "__getattr__" = some none)
    (xd_BadOdd : PySem.W.hasDictIn K C_BadOdd = true)
    (xa_BadOdd : PySem.W.findIn K (.ref C_BadOdd) "__class__" = some (some (.builtin "object.__class__")))
    (xm_BadOdd : PySem.W.mroIn K C_BadOdd (.type "object") = some true)
    (xS_BadOdd : PySem.W.subIn K (.ref C_BadOdd) (.ref C_ShownError) = some true)
    (xs_BadOdd_BadDuels : PySem.W.subIn K (.ref C_BadOdd) (.ref C_BadDuels) = some false)
    (xn_BadOdd_BadDuels : (Value.ref C_BadOdd == Value.ref C_BadDuels) = false)
    (xs_BadOdd_BadMargins : PySem.W.subIn K (.ref C_BadOdd) (.ref C_BadMargins) = some false)
    (xn_BadOdd_BadMargins : (Value.ref C_BadOdd == Value.ref C_BadMargins) = false)
    (xn : PySem.W.specialIn K (.builtin "object.__class__") "__get__" = some (some (.builtin "getset_descriptor.__get__")))
    (xt : PySem.W.takesIn K (.builtin "object.__class__") = some true)
    : LawAtS l w K (L2.CX l.prog w) 8 63 "script" mg fa h := by
  have e := hfa.symm.trans (PySem.W.mg_of X G a24)
  cases e
  obtain ⟨ca_ShownError, ca_BadMargins, ca_BadDuels, ca_BadOdd⟩ := @caOf_is C_ShownError C_BadMargins C_BadDuels C_BadOdd
  have F0 := fun_mk (st := s_is_word) l0 c0 k0
  have F1 := fun_mk (st := s_are_things) l1 c1 k1
  have F2 := fun_mk (st := s_is_whole) l2 c2 k2
  have F3 := fun_mk (st := s_pairs_of) l3 c3 k3
  have F4 := fun_mk (st := s_is_table) l4 c4 k4
  have F5 := fun_mk (st := s_is_sign) l5 c5 k5
  have F6 := fun_mk (st := s_is_duels) l6 c6 k6
  have F7 := fun_mk (st := s_two_for) l7 c7 k7
  have F8 := fun_mk (st := s_even_voters) l8 c8 k8
  have F9 := fun_mk (st := s_voters_for) l9 c9 k9
  have F10 := fun_mk (st := s_duel_voters) l10 c10 k10
  have F11 := fun_mk (st := s_l_begun) l11 c11 k11
  have F12 := fun_mk (st := s_l_blended) l12 c12 k12
  have F13 := fun_mk (st := s_l_draw) l13 c13 k13
  have F14 := fun_mk (st := s_l_pick) l14 c14 k14
  have F15 := fun_mk (st := s_l_caught) l15 c15 k15
  have F16 := fun_mk (st := s_l_is_truth) l16 c16 k16
  have F17 := fun_mk (st := s_l_same) l17 c17 k17
  have F18 := fun_mk (st := s_l_words) l18 c18 k18
  have F19 := fun_mk (st := s_l_is_word) l19 c19 k19
  have F20 := fun_mk (st := s_l_tg_pairs) l20 c20 k20
  have F21 := fun_mk (st := s_l_tg_margins) l21 c21 k21
  have F22 := fun_mk (st := s_l_tg_are_voters) l22 c22 k22
  have F23 := fun_mk (st := s_l_k66_kind) l23 c23 k23
  have F24 := fun_mk (st := s_law) l24 c24 k24
  have T : ∀ dr, TX K mg ⟨dr, fun e a => ErrO (.ref ((caOf C_ShownError C_BadMargins C_BadDuels C_BadOdd) e.cls)) none a, (caOf C_ShownError C_BadMargins C_BadDuels C_BadOdd)⟩ ⟨f0, f1, f2, f3, f4, f5, f6, f7, f8, f9, f10, f11, f12, f13, f14, f15, f16, f17, f18, f19, f20, f21, f22, f23, fa, C_ShownError, C_BadMargins, C_BadDuels, C_BadOdd⟩ ⟨PySem.W.fnOf "is_word" "is_word" (defArgs s_is_word) (defBody s_is_word) (defScope s_is_word) .none kV0 dc0 pm0 an0 cd0 ct0, PySem.W.fnOf "are_things" "are_things" (defArgs s_are_things) (defBody s_are_things) (defScope s_are_things) .none kV1 dc1 pm1 an1 cd1 ct1, PySem.W.fnOf "is_whole" "is_whole" (defArgs s_is_whole) (defBody s_is_whole) (defScope s_is_whole) .none kV2 dc2 pm2 an2 cd2 ct2, PySem.W.fnOf "pairs_of" "pairs_of" (defArgs s_pairs_of) (defBody s_pairs_of) (defScope s_pairs_of) .none kV3 dc3 pm3 an3 cd3 ct3, PySem.W.fnOf "is_table" "is_table" (defArgs s_is_table) (defBody s_is_table) (defScope s_is_table) .none kV4 dc4 pm4 an4 cd4 ct4, PySem.W.fnOf "is_sign" "is_sign" (defArgs s_is_sign) (defBody s_is_sign) (defScope s_is_sign) .none kV5 dc5 pm5 an5 cd5 ct5, PySem.W.fnOf "is_duels" "is_duels" (defArgs s_is_duels) (defBody s_is_duels) (defScope s_is_duels) .none kV6 dc6 pm6 an6 cd6 ct6, PySem.W.fnOf "two_for" "two_for" (defArgs s_two_for) (defBody s_two_for) (defScope s_two_for) .none kV7 dc7 pm7 an7 cd7 ct7, PySem.W.fnOf "even_voters" "even_voters" (defArgs s_even_voters) (defBody s_even_voters) (defScope s_even_voters) .none kV8 dc8 pm8 an8 cd8 ct8, PySem.W.fnOf "voters_for" "voters_for" (defArgs s_voters_for) (defBody s_voters_for) (defScope s_voters_for) .none kV9 dc9 pm9 an9 cd9 ct9, PySem.W.fnOf "duel_voters" "duel_voters" (defArgs s_duel_voters) (defBody s_duel_voters) (defScope s_duel_voters) .none kV10 dc10 pm10 an10 cd10 ct10, PySem.W.fnOf "_law_begun" "_law_begun" (defArgs s_l_begun) (defBody s_l_begun) (defScope s_l_begun) .none kV11 dc11 pm11 an11 cd11 ct11, PySem.W.fnOf "_law_blended" "_law_blended" (defArgs s_l_blended) (defBody s_l_blended) (defScope s_l_blended) .none kV12 dc12 pm12 an12 cd12 ct12, PySem.W.fnOf "_law_draw" "_law_draw" (defArgs s_l_draw) (defBody s_l_draw) (defScope s_l_draw) .none kV13 dc13 pm13 an13 cd13 ct13, PySem.W.fnOf "_law_pick" "_law_pick" (defArgs s_l_pick) (defBody s_l_pick) (defScope s_l_pick) .none kV14 dc14 pm14 an14 cd14 ct14, PySem.W.fnOf "_law_caught" "_law_caught" (defArgs s_l_caught) (defBody s_l_caught) (defScope s_l_caught) .none kV15 dc15 pm15 an15 cd15 ct15, PySem.W.fnOf "_law_is_truth" "_law_is_truth" (defArgs s_l_is_truth) (defBody s_l_is_truth) (defScope s_l_is_truth) .none kV16 dc16 pm16 an16 cd16 ct16, PySem.W.fnOf "_law_same" "_law_same" (defArgs s_l_same) (defBody s_l_same) (defScope s_l_same) .none kV17 dc17 pm17 an17 cd17 ct17, PySem.W.fnOf "_law_words" "_law_words" (defArgs s_l_words) (defBody s_l_words) (defScope s_l_words) .none kV18 dc18 pm18 an18 cd18 ct18, PySem.W.fnOf "_law_is_word" "_law_is_word" (defArgs s_l_is_word) (defBody s_l_is_word) (defScope s_l_is_word) .none kV19 dc19 pm19 an19 cd19 ct19, PySem.W.fnOf "_law_tg_pairs" "_law_tg_pairs" (defArgs s_l_tg_pairs) (defBody s_l_tg_pairs) (defScope s_l_tg_pairs) .none kV20 dc20 pm20 an20 cd20 ct20, PySem.W.fnOf "_law_tg_margins" "_law_tg_margins" (defArgs s_l_tg_margins) (defBody s_l_tg_margins) (defScope s_l_tg_margins) .none kV21 dc21 pm21 an21 cd21 ct21, PySem.W.fnOf "_law_tg_are_voters" "_law_tg_are_voters" (defArgs s_l_tg_are_voters) (defBody s_l_tg_are_voters) (defScope s_l_tg_are_voters) .none kV22 dc22 pm22 an22 cd22 ct22, PySem.W.fnOf "_law_k66_kind" "_law_k66_kind" (defArgs s_l_k66_kind) (defBody s_l_k66_kind) (defScope s_l_k66_kind) .none kV23 dc23 pm23 an23 cd23 ct23, PySem.W.fnOf "law" "law" (defArgs s_law) (defBody s_law) (defScope s_law) .none kV24 dc24 pm24 an24 (.ref lcc) ct24⟩ := fun dr => {
    b_abs := PySem.W.mg_none_of X G z_abs
    b_all := PySem.W.mg_none_of X G z_all
    b_any := PySem.W.mg_none_of X G z_any
    b_bool := PySem.W.mg_none_of X G z_bool
    b_dict := PySem.W.mg_none_of X G z_dict
    b_enumerate := PySem.W.mg_none_of X G z_enumerate
    b_int := PySem.W.mg_none_of X G z_int
    b_isinstance := PySem.W.mg_none_of X G z_isinstance
    b_len := PySem.W.mg_none_of X G z_len
    b_list := PySem.W.mg_none_of X G z_list
    b_min := PySem.W.mg_none_of X G z_min
    b_range := PySem.W.mg_none_of X G z_range
    b_set := PySem.W.mg_none_of X G z_set
    b_sorted := PySem.W.mg_none_of X G z_sorted
    b_str := PySem.W.mg_none_of X G z_str
    b_sum := PySem.W.mg_none_of X G z_sum
    b_tuple := PySem.W.mg_none_of X G z_tuple
    b_zip := PySem.W.mg_none_of X G z_zip
    g_LEAST_THINGS := ⟨_, PySem.W.mg_of X G g_LEAST_THINGS⟩
    g_LETTERS := ⟨_, PySem.W.mg_of X G g_LETTERS⟩
    g_MOST_THINGS := ⟨_, PySem.W.mg_of X G g_MOST_THINGS⟩
    m_is_word := PySem.W.mg_of X G a0
    F_is_word := F0
    B_is_word := F0.binds (ps := ["value"]) fun _ _ _ _ _ _ us hl => match us, hl with | [_], _ => rfl
    m_are_things := PySem.W.mg_of X G a1
    F_are_things := F1
    B_are_things := F1.binds (ps := ["value"]) fun _ _ _ _ _ _ us hl => match us, hl with | [_], _ => rfl
    m_is_whole := PySem.W.mg_of X G a2
    F_is_whole := F2
    B_is_whole := F2.binds (ps := ["value"]) fun _ _ _ _ _ _ us hl => match us, hl with | [_], _ => rfl
    m_pairs_of := PySem.W.mg_of X G a3
    F_pairs_of := F3
    B_pairs_of := F3.binds (ps := ["things"]) fun _ _ _ _ _ _ us hl => match us, hl with | [_], _ => rfl
    m_is_table := PySem.W.mg_of X G a4
    F_is_table := F4
    B_is_table := F4.binds (ps := ["value", "name", "judge"]) fun _ _ _ _ _ _ us hl => match us, hl with | [_, _, _], _ => rfl
    m_is_sign := PySem.W.mg_of X G a5
    F_is_sign := F5
    B_is_sign := F5.binds (ps := ["number"]) fun _ _ _ _ _ _ us hl => match us, hl with | [_], _ => rfl
    m_is_duels := PySem.W.mg_of X G a6
    F_is_duels := F6
    B_is_duels := F6.binds (ps := ["value"]) fun _ _ _ _ _ _ us hl => match us, hl with | [_], _ => rfl
    m_two_for := PySem.W.mg_of X G a7
    F_two_for := F7
    B_two_for := F7.binds (ps := ["things", "one", "other"]) fun _ _ _ _ _ _ us hl => match us, hl with | [_, _, _], _ => rfl
    m_even_voters := PySem.W.mg_of X G a8
    F_even_voters := F8
    B_even_voters := F8.binds (ps := ["things", "numbers"]) fun _ _ _ _ _ _ us hl => match us, hl with | [_, _], _ => rfl
    m_voters_for := PySem.W.mg_of X G a9
    F_voters_for := F9
    B_voters_for := F9.binds (ps := ["things", "numbers"]) fun _ _ _ _ _ _ us hl => match us, hl with | [_, _], _ => rfl
    m_duel_voters := PySem.W.mg_of X G a10
    F_duel_voters := F10
    B_duel_voters := F10.binds (ps := ["duels", "odd"]) fun _ _ _ _ _ _ us hl => match us, hl with | [_, _], _ => rfl
    m_l_begun := PySem.W.mg_of X G a11
    F_l_begun := F11
    B_l_begun := F11.binds (ps := ["script"]) fun _ _ _ _ _ _ us hl => match us, hl with | [_], _ => rfl
    m_l_blended := PySem.W.mg_of X G a12
    F_l_blended := F12
    B_l_blended := F12.binds (ps := ["state"]) fun _ _ _ _ _ _ us hl => match us, hl with | [_], _ => rfl
    m_l_draw := PySem.W.mg_of X G a13
    F_l_draw := F13
    B_l_draw := F13.binds (ps := ["state", "room"]) fun _ _ _ _ _ _ us hl => match us, hl with | [_, _], _ => rfl
    m_l_pick := PySem.W.mg_of X G a14
    F_l_pick := F14
    B_l_pick := F14.binds (ps := ["state", "some"]) fun _ _ _ _ _ _ us hl => match us, hl with | [_, _], _ => rfl
    m_l_caught := PySem.W.mg_of X G a15
    F_l_caught := F15
    B_l_caught := F15.binds (ps := ["action"]) fun _ _ _ _ _ _ us hl => match us, hl with | [_], _ => rfl
    m_l_is_truth := PySem.W.mg_of X G a16
    F_l_is_truth := F16
    B_l_is_truth := F16.binds (ps := ["found", "due"]) fun _ _ _ _ _ _ us hl => match us, hl with | [_, _], _ => rfl
    m_l_same := PySem.W.mg_of X G a17
    F_l_same := F17
    B_l_same := F17.binds (ps := ["found", "due"]) fun _ _ _ _ _ _ us hl => match us, hl with | [_, _], _ => rfl
    m_l_words := PySem.W.mg_of X G a18
    F_l_words := F18
    B_l_words := F18.binds (ps := ["draws", "many"]) fun _ _ _ _ _ _ us hl => match us, hl with | [_, _], _ => rfl
    m_l_is_word := PySem.W.mg_of X G a19
    F_l_is_word := F19
    B_l_is_word := F19.binds (ps := ["value"]) fun _ _ _ _ _ _ us hl => match us, hl with | [_], _ => rfl
    m_l_tg_pairs := PySem.W.mg_of X G a20
    F_l_tg_pairs := F20
    B_l_tg_pairs := F20.binds (ps := ["words"]) fun _ _ _ _ _ _ us hl => match us, hl with | [_], _ => rfl
    m_l_tg_margins := PySem.W.mg_of X G a21
    F_l_tg_margins := F21
    B_l_tg_margins := F21.binds (ps := ["words", "voters"]) fun _ _ _ _ _ _ us hl => match us, hl with | [_, _], _ => rfl
    m_l_tg_are_voters := PySem.W.mg_of X G a22
    F_l_tg_are_voters := F22
    B_l_tg_are_voters := F22.binds (ps := ["value"]) fun _ _ _ _ _ _ us hl => match us, hl with | [_], _ => rfl
    m_l_k66_kind := PySem.W.mg_of X G a23
    F_l_k66_kind := F23
    B_l_k66_kind := F23.binds (ps := ["error"]) fun _ _ _ _ _ _ us hl => match us, hl with | [_], _ => rfl
    m_law := PySem.W.mg_of X G a24
    F_law := F24
    B_law := F24.binds (ps := ["script"]) fun _ _ _ _ _ _ us hl => match us, hl with | [_], _ => rfl
    K_duel_voters := kw_of F10 fun _ _ _ _ _ _ ws hl => match ws, hl with | [_, _], _ => rfl
    m_ShownError := PySem.W.mg_of X G aC_ShownError
    k_ShownError := kC_ShownError
    q_ShownError := qC_ShownError
    s_ShownError := sC_ShownError
    t_ShownError := tC_ShownError
    ca_ShownError := ca_ShownError
    m_BadMargins := PySem.W.mg_of X G aC_BadMargins
    k_BadMargins := kC_BadMargins
    q_BadMargins := qC_BadMargins
    s_BadMargins := sC_BadMargins
    t_BadMargins := tC_BadMargins
    ca_BadMargins := ca_BadMargins
    m_BadDuels := PySem.W.mg_of X G aC_BadDuels
    k_BadDuels := kC_BadDuels
    q_BadDuels := qC_BadDuels
    s_BadDuels := sC_BadDuels
    t_BadDuels := tC_BadDuels
    ca_BadDuels := ca_BadDuels
    m_BadOdd := PySem.W.mg_of X G aC_BadOdd
    k_BadOdd := kC_BadOdd
    q_BadOdd := qC_BadOdd
    s_BadOdd := sC_BadOdd
    t_BadOdd := tC_BadOdd
    ca_BadOdd := ca_BadOdd
    EE := ⟨fun _ _ => rfl, (List.forall_mem_cons.mpr ⟨(by show ExcC K ((caOf C_ShownError C_BadMargins C_BadDuels C_BadOdd) "BadMargins"); rw [ca_BadMargins]; exact ⟨xg_BadMargins, xk_BadMargins, sC_BadMargins, xd_BadMargins, xa_BadMargins, xn, xt, xm_BadMargins⟩), (List.forall_mem_cons.mpr ⟨(by show ExcC K ((caOf C_ShownError C_BadMargins C_BadDuels C_BadOdd) "BadDuels"); rw [ca_BadDuels]; exact ⟨xg_BadDuels, xk_BadDuels, sC_BadDuels, xd_BadDuels, xa_BadDuels, xn, xt, xm_BadDuels⟩), (List.forall_mem_cons.mpr ⟨(by show ExcC K ((caOf C_ShownError C_BadMargins C_BadDuels C_BadOdd) "BadOdd"); rw [ca_BadOdd]; exact ⟨xg_BadOdd, xk_BadOdd, sC_BadOdd, xd_BadOdd, xa_BadOdd, xn, xt, xm_BadOdd⟩), (fun _ h => absurd h List.not_mem_nil)⟩)⟩)⟩)⟩
    i_BadDuels := (List.forall_mem_cons.mpr ⟨(by show PySem.W.kitOne K (.ref ((caOf C_ShownError C_BadMargins C_BadDuels C_BadOdd) "BadMargins")) (.ref C_BadDuels) = some (is_BadDuels "BadMargins"); rw [ca_BadMargins, show is_BadDuels "BadMargins" = false by decide +kernel]; exact kit_of xn_BadMargins_BadDuels iC_BadDuels tC_BadDuels xs_BadMargins_BadDuels), (List.forall_mem_cons.mpr ⟨(by show PySem.W.kitOne K (.ref ((caOf C_ShownError C_BadMargins C_BadDuels C_BadOdd) "BadDuels")) (.ref C_BadDuels) = some (is_BadDuels "BadDuels"); rw [ca_BadDuels, show is_BadDuels "BadDuels" = true by decide +kernel]; exact kit_self), (List.forall_mem_cons.mpr ⟨(by show PySem.W.kitOne K (.ref ((caOf C_ShownError C_BadMargins C_BadDuels C_BadOdd) "BadOdd")) (.ref C_BadDuels) = some (is_BadDuels "BadOdd"); rw [ca_BadOdd, show is_BadDuels "BadOdd" = false by decide +kernel]; exact kit_of xn_BadOdd_BadDuels iC_BadDuels tC_BadDuels xs_BadOdd_BadDuels), (fun _ h => absurd h List.not_mem_nil)⟩)⟩)⟩)
    i_BadMargins := (List.forall_mem_cons.mpr ⟨(by show PySem.W.kitOne K (.ref ((caOf C_ShownError C_BadMargins C_BadDuels C_BadOdd) "BadMargins")) (.ref C_BadMargins) = some (is_BadMargins "BadMargins"); rw [ca_BadMargins, show is_BadMargins "BadMargins" = true by decide +kernel]; exact kit_self), (List.forall_mem_cons.mpr ⟨(by show PySem.W.kitOne K (.ref ((caOf C_ShownError C_BadMargins C_BadDuels C_BadOdd) "BadDuels")) (.ref C_BadMargins) = some (is_BadMargins "BadDuels"); rw [ca_BadDuels, show is_BadMargins "BadDuels" = false by decide +kernel]; exact kit_of xn_BadDuels_BadMargins iC_BadMargins tC_BadMargins xs_BadDuels_BadMargins), (List.forall_mem_cons.mpr ⟨(by show PySem.W.kitOne K (.ref ((caOf C_ShownError C_BadMargins C_BadDuels C_BadOdd) "BadOdd")) (.ref C_BadMargins) = some (is_BadMargins "BadOdd"); rw [ca_BadOdd, show is_BadMargins "BadOdd" = false by decide +kernel]; exact kit_of xn_BadOdd_BadMargins iC_BadMargins tC_BadMargins xs_BadOdd_BadMargins), (fun _ h => absurd h List.not_mem_nil)⟩)⟩)⟩)
    i_BadOdd := (List.forall_mem_cons.mpr ⟨(by show PySem.W.kitOne K (.ref ((caOf C_ShownError C_BadMargins C_BadDuels C_BadOdd) "BadMargins")) (.ref C_BadOdd) = some (is_BadOdd "BadMargins"); rw [ca_BadMargins, show is_BadOdd "BadMargins" = false by decide +kernel]; exact kit_of xn_BadMargins_BadOdd iC_BadOdd tC_BadOdd xs_BadMargins_BadOdd), (List.forall_mem_cons.mpr ⟨(by show PySem.W.kitOne K (.ref ((caOf C_ShownError C_BadMargins C_BadDuels C_BadOdd) "BadDuels")) (.ref C_BadOdd) = some (is_BadOdd "BadDuels"); rw [ca_BadDuels, show is_BadOdd "BadDuels" = false by decide +kernel]; exact kit_of xn_BadDuels_BadOdd iC_BadOdd tC_BadOdd xs_BadDuels_BadOdd), (List.forall_mem_cons.mpr ⟨(by show PySem.W.kitOne K (.ref ((caOf C_ShownError C_BadMargins C_BadDuels C_BadOdd) "BadOdd")) (.ref C_BadOdd) = some (is_BadOdd "BadOdd"); rw [ca_BadOdd, show is_BadOdd "BadOdd" = true by decide +kernel]; exact kit_self), (fun _ h => absurd h List.not_mem_nil)⟩)⟩)⟩)
    x_S := (List.forall_mem_cons.mpr ⟨(by show PySem.W.exmOne K (.ref ((caOf C_ShownError C_BadMargins C_BadDuels C_BadOdd) "BadMargins")) (.ref C_ShownError) = some true; rw [ca_BadMargins]; exact exm_of sC_ShownError iC_ShownError tC_ShownError xS_BadMargins), (List.forall_mem_cons.mpr ⟨(by show PySem.W.exmOne K (.ref ((caOf C_ShownError C_BadMargins C_BadDuels C_BadOdd) "BadDuels")) (.ref C_ShownError) = some true; rw [ca_BadDuels]; exact exm_of sC_ShownError iC_ShownError tC_ShownError xS_BadDuels), (List.forall_mem_cons.mpr ⟨(by show PySem.W.exmOne K (.ref ((caOf C_ShownError C_BadMargins C_BadDuels C_BadOdd) "BadOdd")) (.ref C_ShownError) = some true; rw [ca_BadOdd]; exact exm_of sC_ShownError iC_ShownError tC_ShownError xS_BadOdd), (fun _ h => absurd h List.not_mem_nil)⟩)⟩)⟩) }
  refine ⟨PySem.W.fnOf "law" "law" (defArgs s_law) (defBody s_law) (defScope s_law) .none kV24 dc24 pm24 an24 (.ref lcc) ct24, [(lcc, lP)], spLaw K [(lP, qLam ⟨f0, f1, f2, f3, f4, f5, f6, f7, f8, f9, f10, f11, f12, f13, f14, f15, f16, f17, f18, f19, f20, f21, f22, f23, fa, C_ShownError, C_BadMargins, C_BadDuels, C_BadOdd⟩ lcc)], fun p hp => ?_, fun p hp => ?_, fun p hp => ?_, fun s u => .of_eq rfl, fun H a ns hl _ hH hS => ?_, fun base _ _ hT => okn_law T l24 c24 (hT _ (List.mem_cons_self ..))⟩
  · rw [List.mem_singleton.mp hp]; exact hP
  · rw [List.mem_singleton.mp hp]; exact nP
  · rw [List.mem_singleton.mp hp]; exact PySem.W.codeHd_of_K X hC
  · refine ⟨a, ns, rfl, hS, hl, fun p hp => ?_, fun _ => rfl⟩
    rw [List.mem_singleton.mp hp]
    exact TabS.nil (hH _ (List.mem_cons_self ..))
end K66
open PySem PySem.W PyProof.Rows
set_option maxRecDepth 100000 in
set_option maxHeartbeats 0 in
theorem PySem.Challenge.cw_choiceshown_k66_whole_duels_that_voters_holds : PySem.Challenge.rw_choiceshown_k66_whole_duels_that_voters.Holds := by
  w_on; o_law; k_head; (case hw => w_witness2)
  k_fill
  refine LamX.walk_ofTs (l := PySem.Challenge.rw_choiceshown_k66_whole_duels_that_voters) (n := 63) (k := 8) (x := "script") (CX := fun w => L2.CX (PySem.Challenge.rw_choiceshown_k66_whole_duels_that_voters).prog w) rfl (by decide) rfl ⟨rfl, by decide, by decide⟩ (fun w h Y => km_in_of Y) ?F (fun _ _ _ _ _ z => by obtain ⟨_, _, _, _, _, _, _, _, _, _, _, _, z⟩ := z; exact z)
  case F =>
    intro w mg fa h Y KX G hmg
    refine' K66.all_mk KX G hmg (km_tabs_of Y _ (List.mem_cons_self ..)) ?nP ?hC ?a0 ?l0 ?c0 ?k0 ?a1 ?l1 ?c1 ?k1 ?a2 ?l2 ?c2 ?k2 ?a3 ?l3 ?c3 ?k3 ?a4 ?l4 ?c4 ?k4 ?a5 ?l5 ?c5 ?k5 ?a6 ?l6 ?c6 ?k6 ?a7 ?l7 ?c7 ?k7 ?a8 ?l8 ?c8 ?k8 ?a9 ?l9 ?c9 ?k9 ?a10 ?l10 ?c10 ?k10 ?a11 ?l11 ?c11 ?k11 ?a12 ?l12 ?c12 ?k12 ?a13 ?l13 ?c13 ?k13 ?a14 ?l14 ?c14 ?k14 ?a15 ?l15 ?c15 ?k15 ?a16 ?l16 ?c16 ?k16 ?a17 ?l17 ?c17 ?k17 ?a18 ?l18 ?c18 ?k18 ?a19 ?l19 ?c19 ?k19 ?a20 ?l20 ?c20 ?k20 ?a21 ?l21 ?c21 ?k21 ?a22 ?l22 ?c22 ?k22 ?a23 ?l23 ?c23 ?k23 ?a24 ?l24 ?c24 ?k24 ?z_abs ?z_all ?z_any ?z_bool ?z_dict ?z_enumerate ?z_int ?z_isinstance ?z_len ?z_list ?z_min ?z_range ?z_set ?z_sorted ?z_str ?z_sum ?z_tuple ?z_zip ?g_LEAST_THINGS ?g_LETTERS ?g_MOST_THINGS ?aC_ShownError ?kC_ShownError ?qC_ShownError ?sC_ShownError ?tC_ShownError ?iC_ShownError ?aC_BadMargins ?kC_BadMargins ?qC_BadMargins ?sC_BadMargins ?tC_BadMargins ?iC_BadMargins ?aC_BadDuels ?kC_BadDuels ?qC_BadDuels ?sC_BadDuels ?tC_BadDuels ?iC_BadDuels ?aC_BadOdd ?kC_BadOdd ?qC_BadOdd ?sC_BadOdd ?tC_BadOdd ?iC_BadOdd ?xg_BadMargins ?xk_BadMargins ?xd_BadMargins ?xa_BadMargins ?xm_BadMargins ?xS_BadMargins ?xs_BadMargins_BadDuels ?xn_BadMargins_BadDuels ?xs_BadMargins_BadOdd ?xn_BadMargins_BadOdd ?xg_BadDuels ?xk_BadDuels ?xd_BadDuels ?xa_BadDuels ?xm_BadDuels ?xS_BadDuels ?xs_BadDuels_BadMargins ?xn_BadDuels_BadMargins ?xs_BadDuels_BadOdd ?xn_BadDuels_BadOdd ?xg_BadOdd ?xk_BadOdd ?xd_BadOdd ?xa_BadOdd ?xm_BadOdd ?xS_BadOdd ?xs_BadOdd_BadDuels ?xn_BadOdd_BadDuels ?xs_BadOdd_BadMargins ?xn_BadOdd_BadMargins ?xn ?xt
    (case a0 => k_is)
    (case l0 => k_is)
    (case c0 => k_is)
    (case k0 => k_is)
    (case a1 => k_is)
    (case l1 => k_is)
    (case c1 => k_is)
    (case k1 => k_is)
    (case a2 => k_is)
    (case l2 => k_is)
    (case c2 => k_is)
    (case k2 => k_is)
    (case a3 => k_is)
    (case l3 => k_is)
    (case c3 => k_is)
    (case k3 => k_is)
    (case a4 => k_is)
    (case l4 => k_is)
    (case c4 => k_is)
    (case k4 => k_is)
    (case a5 => k_is)
    (case l5 => k_is)
    (case c5 => k_is)
    (case k5 => k_is)
    (case a6 => k_is)
    (case l6 => k_is)
    (case c6 => k_is)
    (case k6 => k_is)
    (case a7 => k_is)
    (case l7 => k_is)
    (case c7 => k_is)
    (case k7 => k_is)
    (case a8 => k_is)
    (case l8 => k_is)
    (case c8 => k_is)
    (case k8 => k_is)
    (case a9 => k_is)
    (case l9 => k_is)
    (case c9 => k_is)
    (case k9 => k_is)
    (case a10 => k_is)
    (case l10 => k_is)
    (case c10 => k_is)
    (case k10 => k_is)
    (case a11 => k_is)
    (case l11 => k_is)
    (case c11 => k_is)
    (case k11 => k_is)
    (case a12 => k_is)
    (case l12 => k_is)
    (case c12 => k_is)
    (case k12 => k_is)
    (case a13 => k_is)
    (case l13 => k_is)
    (case c13 => k_is)
    (case k13 => k_is)
    (case a14 => k_is)
    (case l14 => k_is)
    (case c14 => k_is)
    (case k14 => k_is)
    (case a15 => k_is)
    (case l15 => k_is)
    (case c15 => k_is)
    (case k15 => k_is)
    (case a16 => k_is)
    (case l16 => k_is)
    (case c16 => k_is)
    (case k16 => k_is)
    (case a17 => k_is)
    (case l17 => k_is)
    (case c17 => k_is)
    (case k17 => k_is)
    (case a18 => k_is)
    (case l18 => k_is)
    (case c18 => k_is)
    (case k18 => k_is)
    (case a19 => k_is)
    (case l19 => k_is)
    (case c19 => k_is)
    (case k19 => k_is)
    (case a20 => k_is)
    (case l20 => k_is)
    (case c20 => k_is)
    (case k20 => k_is)
    (case a21 => k_is)
    (case l21 => k_is)
    (case c21 => k_is)
    (case k21 => k_is)
    (case a22 => k_is)
    (case l22 => k_is)
    (case c22 => k_is)
    (case k22 => k_is)
    (case a23 => k_is)
    (case l23 => k_is)
    (case c23 => k_is)
    (case k23 => k_is)
    (case a24 => k_is)
    (case l24 => k_is)
    (case c24 => k_is)
    (case k24 => k_is)
    (case z_abs => k_is)
    (case z_all => k_is)
    (case z_any => k_is)
    (case z_bool => k_is)
    (case z_dict => k_is)
    (case z_enumerate => k_is)
    (case z_int => k_is)
    (case z_isinstance => k_is)
    (case z_len => k_is)
    (case z_list => k_is)
    (case z_min => k_is)
    (case z_range => k_is)
    (case z_set => k_is)
    (case z_sorted => k_is)
    (case z_str => k_is)
    (case z_sum => k_is)
    (case z_tuple => k_is)
    (case z_zip => k_is)
    (case g_LEAST_THINGS => k_is)
    (case g_LETTERS => k_is)
    (case g_MOST_THINGS => k_is)
    (case aC_ShownError => k_is)
    (case kC_ShownError => k_is)
    (case qC_ShownError => k_exc)
    (case sC_ShownError => k_is)
    (case tC_ShownError => k_is)
    (case iC_ShownError => k_is)
    (case aC_BadMargins => k_is)
    (case kC_BadMargins => k_is)
    (case qC_BadMargins => k_exc)
    (case sC_BadMargins => k_is)
    (case tC_BadMargins => k_is)
    (case iC_BadMargins => k_is)
    (case aC_BadDuels => k_is)
    (case kC_BadDuels => k_is)
    (case qC_BadDuels => k_exc)
    (case sC_BadDuels => k_is)
    (case tC_BadDuels => k_is)
    (case iC_BadDuels => k_is)
    (case aC_BadOdd => k_is)
    (case kC_BadOdd => k_is)
    (case qC_BadOdd => k_exc)
    (case sC_BadOdd => k_is)
    (case tC_BadOdd => k_is)
    (case iC_BadOdd => k_is)
    (case xg_BadMargins => k_is)
    (case xk_BadMargins => k_is)
    (case xd_BadMargins => k_is)
    (case xa_BadMargins => k_is)
    (case xm_BadMargins => k_is)
    (case xS_BadMargins => k_is)
    (case xs_BadMargins_BadDuels => k_is)
    (case xs_BadMargins_BadOdd => k_is)
    (case xg_BadDuels => k_is)
    (case xk_BadDuels => k_is)
    (case xd_BadDuels => k_is)
    (case xa_BadDuels => k_is)
    (case xm_BadDuels => k_is)
    (case xS_BadDuels => k_is)
    (case xs_BadDuels_BadMargins => k_is)
    (case xs_BadDuels_BadOdd => k_is)
    (case xg_BadOdd => k_is)
    (case xk_BadOdd => k_is)
    (case xd_BadOdd => k_is)
    (case xa_BadOdd => k_is)
    (case xm_BadOdd => k_is)
    (case xS_BadOdd => k_is)
    (case xs_BadOdd_BadDuels => k_is)
    (case xs_BadOdd_BadMargins => k_is)
    (case xn => k_is)
    (case xt => k_is)
    (case xn_BadMargins_BadDuels => rfl)
    (case xn_BadMargins_BadOdd => rfl)
    (case xn_BadDuels_BadMargins => rfl)
    (case xn_BadDuels_BadOdd => rfl)
    (case xn_BadOdd_BadDuels => rfl)
    (case xn_BadOdd_BadMargins => rfl)
    (case nP => rfl)
    (case hC => rfl)
