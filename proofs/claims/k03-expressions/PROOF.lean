import PyProof.Rows.All
import Wide.All
import OpenK.AllK
import Wide.FinOn
import HandS.ForMost
import HandS.Walk
import HandS.IsInst
import HandS.Wide
import HandS.Star
import HandS.Zip
import HandS.Conv
import HandS.NoneIn
import HandS.DictComp
import HandS.TupAny
import HandS.TupMul
import KE.KUnpackStar
import PyProof.StrOps2
import PyProof.SumAny
import HandS.Codes
import KE.KDictZip
import PyProof.ListOps
import HandS.Ends
import PySem.Challenge.RW_mendedruns_k03_whole_values_of_expressio
set_option Elab.async false
set_option linter.all false
set_option maxRecDepth 100000
set_option maxHeartbeats 4000000
/-! The mathematics of the law: terms, their results, their names; data and its bounds. No program here. -/
namespace E3
open PySem L2

/-- the signs of texts -/
def signs : Str := "abcdefghijklmnopqrstuvwxyz0123456789"
def isSign (c : Nat) : Bool := decide (c ∈ signs.cps.toList)
def lets : Str := "abcdefghijklmnopqrstuvwxyz"
def isLet (c : Nat) : Bool := decide (c ∈ lets.cps.toList)
/-- a text of some signs, of a length within bounds -/
def wordOk (S : Str) (lo hi : Nat) (z : Str) : Bool := decide (lo ≤ z.length) && (decide (z.length ≤ hi) && z.cps.toList.all fun c => decide (c ∈ S.cps.toList))
def txtOk (z : Str) : Bool := wordOk signs 0 60 z
def nameOk (z : Str) : Bool := wordOk lets 1 12 z
def keyOk (z : Str) : Bool := wordOk signs 1 60 z

mutual
/-- data of ints, texts of signs and tuples, of moderate lengths -/
def cl : PyData → Bool
  | .int _ => true
  | .str z => decide (z.length ≤ 200) && z.cps.toList.all isSign
  | .tuple xs => decide (xs.length ≤ 1000) && clAll xs
  | .none | .bool _ | .list _ | .dict _ => false
def clAll : List PyData → Bool
  | [] => true
  | x :: xs => cl x && clAll xs
end
theorem clAll_iff : ∀ xs : List PyData, clAll xs = true ↔ ∀ x ∈ xs, cl x = true
  | [] => by simp [clAll]
  | x :: xs => by
    have ih := clAll_iff xs
    simp only [clAll, Bool.and_eq_true, ih, List.mem_cons, forall_eq_or_imp]
mutual
/-- how many values stand in a list, at every depth -/
def szw : PyData → Nat
  | .tuple xs => szwAll xs
  | .int _ | .str _ | .none | .bool _ | .list _ | .dict _ => 0
def szwAll : List PyData → Nat
  | [] => 0
  | x :: xs => 1 + szw x + szwAll xs
end
theorem szwAll_sum : ∀ xs : List PyData, (szwAll xs : Int) = (xs.map fun x => (1 + szw x : Int)).sum
  | [] => rfl
  | x :: xs => by
    have ih := szwAll_sum xs
    simp only [szwAll, List.map_cons, List.sum_cons, ← ih]
    omega
def big : Int := 10 ^ 60
/-- a value with lists nested at most so deep -/
def wl : Nat → PyData → Bool
  | _, .int i => decide (-big < i) && decide (i < big)
  | _, .str z => txtOk z
  | 0, .tuple _ => false
  | n + 1, .tuple xs => decide (xs.length ≤ 50) && xs.all (fun x => wl n x)
  | _, .none | _, .bool _ | _, .list _ | _, .dict _ => false
def isv (d : PyData) : Bool := wl 5 d && decide (szw d ≤ 50)

def isI : PyData → Bool | .int _ => true | _ => false
def isS : PyData → Bool | .str _ => true | _ => false
def isT : PyData → Bool | .tuple _ => true | _ => false

/-- terms -/
inductive T where
  | val (d : PyData)
  | nam (x : Str)
  | op (w : Str) (ts : List T)
mutual
def toD : T → PyData
  | .val d => .tuple [.str "value", d]
  | .nam x => .tuple [.str "name", .str x]
  | .op w ts => .tuple (.str w :: toDs ts)
def toDs : List T → List PyData
  | [] => []
  | t :: ts => toD t :: toDs ts
end
theorem toDs_map : ∀ ts : List T, toDs ts = ts.map toD
  | [] => rfl
  | t :: ts => by rw [toDs, toDs_map ts]; rfl
mutual
def nms : T → List Str
  | .val _ => []
  | .nam x => [x]
  | .op _ ts => nmsAll ts
def nmsAll : List T → List Str
  | [] => []
  | t :: ts => nms t ++ nmsAll ts
end
theorem nmsAll_flat : ∀ ts : List T, nmsAll ts = (ts.map nms).flatten
  | [] => rfl
  | t :: ts => by rw [nmsAll, nmsAll_flat ts]; rfl

def arith : List Str := ["add", "subtract", "multiply", "divide", "less"]
def pairs : List Str := ["add", "subtract", "multiply", "divide", "less", "equal", "join", "item"]
/-- how many parts a word has -/
def Ar (w : Str) (k : Nat) : Prop := (w ∈ pairs ∧ k = 2) ∨ (w = "list" ∧ k ≤ 4) ∨ (w = "size" ∧ k = 1)
def five : List Str := ["a", "b", "c", "d", "e"]
/-- a term nested at most so deep -/
def TOk : Nat → T → Prop
  | 0, _ => False
  | _ + 1, .val d => isv d = true
  | _ + 1, .nam x => x ∈ five
  | n + 1, .op w ts => Ar w ts.length ∧ ∀ t ∈ ts, TOk n t

/-- results -/
inductive R where
  | ok (d : PyData)
  | no (r : Str)
def resT : R → PyData
  | .ok d => .tuple [.str "value", d]
  | .no r => .tuple [.str "failed", .str r]
def resL : R → PyData
  | .ok d => .list [.str "value", d]
  | .no r => .list [.str "failed", .str r]
def num (w : Str) (i j : Int) : R :=
  if w = "divide" then (if j = 0 then .no "zero" else .ok (.int (i.fdiv j)))
  else if w = "add" then .ok (.int (i + j))
  else if w = "subtract" then .ok (.int (i - j))
  else if w = "multiply" then .ok (.int (i * j))
  else .ok (.int (if i < j then 1 else 0))
def numOf (w : Str) : PyData → PyData → R
  | .int i, .int j => num w i j
  | _, _ => .no "kind"
def joinOf : PyData → PyData → R
  | .str x, .str y => .ok (.str (x ++ y))
  | .tuple xs, .tuple ys => .ok (.tuple (xs ++ ys))
  | _, _ => .no "kind"
def itemOf : PyData → PyData → R
  | .tuple xs, .int i => if 0 ≤ i ∧ i < xs.length then .ok (xs.getD i.toNat .none) else .no "range"
  | _, _ => .no "kind"
def pairOf (w : Str) (a b : PyData) : R :=
  if w = "equal" then .ok (.int (if PyData.eqv a b = true then 1 else 0))
  else if w = "join" then joinOf a b
  else if w = "item" then itemOf a b
  else numOf w a b
def sizeOf : PyData → R
  | .str z => .ok (.int z.length)
  | .tuple xs => .ok (.int xs.length)
  | _ => .no "kind"
def comb (w : Str) (vs : List PyData) : R :=
  if w = "list" then .ok (.tuple vs)
  else if w = "size" then sizeOf (vs.getD 0 .none)
  else pairOf w (vs.getD 0 .none) (vs.getD 1 .none)
def chk : R → R
  | .ok d => if isv d = true then .ok d else .no "size"
  | .no r => .no r
/-- the values of the parts, or the first failure -/
inductive RR where
  | ok (ds : List PyData)
  | no (r : Str)
def RR.cons : R → RR → RR
  | .no r, _ => .no r
  | .ok _, .no r => .no r
  | .ok d, .ok ds => .ok (d :: ds)
mutual
def res (g : Str → Option PyData) : T → R
  | .val d => .ok d
  | .nam x => match g x with
    | some d => .ok d
    | none => .no "name"
  | .op w ts => match resAll g ts with
    | .ok ds => chk (comb w ds)
    | .no r => .no r
def resAll (g : Str → Option PyData) : List T → RR
  | [] => .ok []
  | t :: ts => .cons (res g t) (resAll g ts)
end

/-! ### depth, sizes -/
theorem wl_cl : ∀ (n : Nat) (d : PyData), wl n d = true → cl d = true
  | n, .int i, _ => rfl
  | n, .str z, h => by
    have h' : txtOk z = true := by cases n <;> exact h
    unfold txtOk wordOk at h'
    simp only [Bool.and_eq_true, decide_eq_true_eq] at h'
    simp only [cl, Bool.and_eq_true, decide_eq_true_eq]
    exact ⟨by omega, h'.2.2⟩
  | 0, .tuple xs, h => by simp [wl] at h
  | n + 1, .tuple xs, h => by
    simp only [wl, Bool.and_eq_true, decide_eq_true_eq, List.all_eq_true] at h
    simp only [cl, Bool.and_eq_true, decide_eq_true_eq, clAll_iff]
    exact ⟨by omega, fun x hx => wl_cl n x (h.2 x hx)⟩
  | 0, .none, h => by simp [wl] at h
  | 0, .bool _, h => by simp [wl] at h
  | 0, .list _, h => by simp [wl] at h
  | 0, .dict _, h => by simp [wl] at h
  | n + 1, .none, h => by simp [wl] at h
  | n + 1, .bool _, h => by simp [wl] at h
  | n + 1, .list _, h => by simp [wl] at h
  | n + 1, .dict _, h => by simp [wl] at h
theorem depthAll_le : ∀ (xs : List PyData) (n : Nat), (∀ x ∈ xs, x.depth ≤ n) → PyData.depthAll xs ≤ n
  | [], n, _ => by simp [PyData.depthAll]
  | x :: xs, n, h => by
    have h1 := h x List.mem_cons_self
    have h2 := depthAll_le xs n fun y hy => h y (List.mem_cons_of_mem _ hy)
    simp only [PyData.depthAll]
    omega
theorem depthAll_ge : ∀ (xs : List PyData) (x : PyData), x ∈ xs → x.depth ≤ PyData.depthAll xs
  | y :: xs, x, h => by
    simp only [PyData.depthAll]
    rcases List.mem_cons.mp h with rfl | h
    · omega
    · have := depthAll_ge xs x h
      omega
theorem wl_depth : ∀ (n : Nat) (d : PyData), wl n d = true → d.depth ≤ n
  | n, .int i, _ => Nat.zero_le _
  | n, .str z, _ => Nat.zero_le _
  | 0, .tuple xs, h => by simp [wl] at h
  | n + 1, .tuple xs, h => by
    simp only [wl, Bool.and_eq_true, decide_eq_true_eq, List.all_eq_true] at h
    have := depthAll_le xs n fun x hx => wl_depth n x (h.2 x hx)
    simp only [PyData.depth]
    omega
  | n, .none, _ => Nat.zero_le _
  | n, .bool _, _ => Nat.zero_le _
  | 0, .list _, h => by simp [wl] at h
  | 0, .dict _, h => by simp [wl] at h
  | n + 1, .list _, h => by simp [wl] at h
  | n + 1, .dict _, h => by simp [wl] at h
theorem isv_cl {d : PyData} (h : isv d = true) : cl d = true := wl_cl 5 d (Bool.and_eq_true_iff.mp h).1
theorem isv_depth {d : PyData} (h : isv d = true) : d.depth ≤ 5 := wl_depth 5 d (Bool.and_eq_true_iff.mp h).1
theorem signs_small : ∀ c ∈ signs.cps.toList, c < 128 := by decide +kernel
mutual
theorem cl_canLay : ∀ d : PyData, cl d = true → d.canLay0 = true
  | .int i, _ => rfl
  | .str z, h => by
    simp only [cl, Bool.and_eq_true, decide_eq_true_eq, List.all_eq_true] at h
    have h2 : ∀ c ∈ z.cps.toList, c < 128 := fun c hc => signs_small c (of_decide_eq_true (h.2 c hc))
    show PyData.strOk z = true
    unfold PyData.strOk
    rw [Array.all_eq_true_iff_forall_mem]
    intro c hc
    have := h2 c (by simpa using hc)
    simp only [decide_eq_true_eq]
    omega
  | .tuple xs, h => by
    simp only [cl, Bool.and_eq_true] at h
    show PyData.canLayAll0 xs = true
    exact cl_canLayAll xs h.2
  | .none, h => by simp [cl] at h
  | .bool _, h => by simp [cl] at h
  | .list _, h => by simp [cl] at h
  | .dict _, h => by simp [cl] at h
theorem cl_canLayAll : ∀ xs : List PyData, clAll xs = true → PyData.canLayAll0 xs = true
  | [], _ => rfl
  | x :: xs, h => by
    simp only [clAll, Bool.and_eq_true] at h
    simp only [PyData.canLayAll0, Bool.and_eq_true]
    exact ⟨cl_canLay x h.1, cl_canLayAll xs h.2⟩
end
end E3

/-! Rules that the layer lacks: a starred target, match with captures and guards, text * int, // of great ints, sum of lists. -/
namespace E3
open PySem PySem.Spec PyProof.Rows L2

/-! ### a, *b = a tuple -/
section
variable {prog : Program} {w : World} {A : Around} {E : Value → Shared → Prop} {s : Shared}
theorem star_items {t : Addr} {items : Array Value} {x : Value} {r : List Value} {Q : List Value → Shared → Prop} (ht : IsTup s.heap t items) (hh : A.handled = none) (he : items.toList = x :: r) (hz : items.size ≤ 16384)
    (h : ∀ (h' : Heap) (tk : Nat), (∀ b o, s.heap.get? b = some o → h'.get? b = some o) →
      Q [x, .ref h'.objs.size] { s with heap := h'.push { cls := .type "list", data := .seq r.toArray }, toks := tk }) :
    wpAny (model prog w) A (unpackItems (.ref t) 2 (some 1)) Q E s := by
  have hlt : t < s.heap.objs.size := by
    obtain ⟨o, ho, _⟩ := ht
    exact Heap.lt_size ho
  have hsz : items.size = r.length + 1 := by
    have := congrArg List.length he
    simpa using this
  have hne : t ≠ s.heap.objs.size := Nat.ne_of_lt hlt
  have hk1 : 1 ≤ items.size := by omega
  have hz1 : items.size ≤ sizeLine := by
    rw [sizeLine_eq]
    omega
  unfold unpackItems notIterableAtAll
  refine wpAny_bind (wpAny_bind (wpAny_specialOf ht.typeIs slot_tuple_iter.lookup (wpAny_pure ?_)))
  rw [if_neg (by decide)]
  refine wpAny_bind (wpAny_holding (iter_tuple ht ?_))
  dsimp only
  refine wpAny_bind (wpAny_holding (draw_tuple hne 1 0 _ _ ⟨_, Heap.get?_push_size _ rfl, rfl, rfl⟩ (ht.push _) (by omega) fun h1 hit hs => ?_))
  have ht1 : IsTup h1 t items := (ht.push _).extBut hs.extBut hne
  have l1 : s.heap.objs.size < h1.objs.size := by
    obtain ⟨o, ho, _⟩ := id hit
    exact Heap.lt_size ho
  have l2 : t < h1.objs.size := by
    obtain ⟨o, ho, _⟩ := id ht1
    exact Heap.lt_size ho
  have e1 : (items.toList.drop 0).take 1 = [x] := by
    rw [he]
    rfl
  rw [e1, if_neg (by simp)]
  refine wpAny_bind (wpAny_holding (PySem.W.kun_collect (s := { s with heap := h1 }) (T := "tuple_iterator") (St := fun i h => h.IsTupleIter s.heap.objs.size t i ∧ h.IsTuple t items) (.inr (.inr (.inr rfl))) (Walks.tuple (A := A.in1) (show A.in1.handled = none from hh) s.heap.objs.size t hne items) (fun j u st => st.1.typeIs) (k := 1) hk1 ⟨hit, ht1⟩ l1 l2 (fun h2 tk hk => ?_) hz1))
  have e2 : items.toList.drop 1 = r := by
    rw [he]
    rfl
  rw [e2]
  have kept : ∀ b o, s.heap.get? b = some o → h2.get? b = some o := fun b o q => by
    have nb : b ≠ s.heap.objs.size := Nat.ne_of_lt (Heap.lt_size q)
    exact hk b o nb (hs.extBut b o nb (Heap.get?_push_of_some _ q))
  show wpAny _ _ (if r.length < 0 then _ else _) _ _ _
  rw [if_neg (by omega)]
  show wpAny _ _ (newList (r.take (r.length - 0)) >>= fun d => pure ([x] ++ [d] ++ r.drop (r.length - 0))) _ _ _
  rw [Nat.sub_zero, List.take_length, List.drop_length]
  exact wpAny_bind (wpAny_newList (wpAny_pure (h h2 tk kept)) (by rw [sizeLine_eq]; omega))
end
/-- a, *b: the first, a new list of the others -/
def gStar (K : PySem.W.Frag) (t : TGs) : TG := fun v σ H Q => ∃ a x xs, v = .ref a ∧ SqT K H a (x :: xs) ∧ xs.length ≤ 1000 ∧ ∀ D, H D = none → t [x, .ref D] σ (upd H D (.lst xs)) Q
theorem pg_star {X : Cx} {pos : Pos} {es : List Expr} {k : Nat} {t : TGs} (hc : X.calm = true) (h : PGs X es t)
    (hn : (assignEach es X.env).length = 2 := by rfl) (hst : (assignEach es X.env).findIdx? (·.1) = some 1 := by rfl) : PG X (.Tuple es k pos) (gStar X.K t) := by
  refine ⟨fun pins s σ H v u Q I r hw => ?_⟩
  obtain ⟨a, x, xs, e1, hq, hl, hw⟩ := hw
  subst e1
  cases r
  obtain ⟨its, rv, ht, hz⟩ := I.tuple hq
  cases rv with
  | @cons _ x' _ xs' rx rs =>
    have len := rs.length
    rw [PyProof.Rows.assign_Tuple]
    refine wpAny_bind (wpAny_standAt ?_)
    unfold unpack
    rw [hn, hst]
    refine wpAny_bind (wpAny_holding (star_items (x := x') (r := xs') ht (I.ok.hd hc) rfl ?_ fun h' tk kept => ?_))
    · rw [List.size_toArray, List.length_cons]
      omega
    · have I1 : Inv X pins σ H { s with heap := h', toks := tk } := I.kept kept
      have nD : H h'.objs.size = none := I1.hok.fresh (Nat.le_refl _)
      have I2 := I1.laid (a := h'.objs.size) (o := .lst xs) (t' := tk) (h' := h'.push { cls := .type "list", data := .seq xs'.toArray }) (fun b o e => Heap.get?_push_of_some _ e) (Nat.le_refl _)
        ⟨Nat.le_of_lt (small1000 hl), xs', 0, rs, Heap.get?_push_size _ rfl⟩
      exact h.run pins _ σ _ [x, .ref h'.objs.size] _ Q I2 (.cons rx (.cons rfl .nil)) (hw _ nD)
/-- a starred name among the targets -/
theorem pgs_star {X : Cx} {e : Expr} {p : Pos} {es : List Expr} {t : TG} {u : TGs} (h1 : PG X e t) (h2 : PGs X es u)
    (hs : (assignEach (.Starred e p :: es) X.env).map (·.2) = assign e X.env :: (assignEach es X.env).map (·.2) := by rfl) : PGs X (.Starred e p :: es) (gCons t u) := by
  refine ⟨fun pins s σ H vs us Q I r h => ?_⟩
  obtain ⟨v, vr, e1, h⟩ := h
  subst e1
  cases r with
  | cons r rr =>
    rw [hs]
    refine assignInOrder_cons (thn (h1.run pins s σ H _ _ _ I r h) fun _ s1 ⟨σ1, H1, I1, q1⟩ => ?_)
    exact h2.run pins s1 σ1 H1 _ _ Q I1 rr q1

/-! ### match e: case name if guard: .. case _: .. -/
/-- the cases, of a value that stands already -/
abbrev TM := V → TS
structure PMs (X : Cx) (cs : List MatchCase) (t : TM) : Prop where
  run : ∀ (pins : List (Addr × Obj)) (s : Shared) (σ : L2.St) (H : Hp) (v : V) (u : Value) (first : Bool) (D : Ends), Inv X pins σ H s → RelV v u → t v D σ H →
    wpAny (model X.prog X.w) X.A (matchCases cs X.env u first) (SP X pins D) X.xe s
def mCap (i : Nat) (tg : TT) (tb : TS) (tr : TM) : TM := fun v D σ H => tg (σ.set i (some v)) H fun c H1 => if c = true then tb D (σ.set i (some v)) H1 else tr v D (σ.set i (some v)) H1
def mAny (tb : TS) : TM := fun _ D σ H => tb D σ H
theorem pm_cap {X : Cx} {i : Nat} {x : Str} {p : Pos} {g : Expr} {body : List Stmt} {rest : List MatchCase} {tg : TT} {tb : TS} {tr : TM} (hN : X.N.Nodup) (hi : X.N[i]? = some x) (hx : Loc X.env.scope x) (hg : PT X g tg) (hb : PSs X body tb) (hr : PMs X rest tr)
    (hf : X.fn x = true ∨ X.env.scope.names.lookup x = some .local := by first | exact .inl rfl | exact .inr rfl | assumption) : PMs X (⟨.MatchAs none (some x) p, some g, body⟩ :: rest) (mCap i tg tb tr) := by
  refine ⟨fun pins s σ H v u first D I r h => ?_⟩
  refine wpAny_matchCases_cons (wpAny_matchPattern_Capture ?_)
  refine wpAny_assignInOrder_more ?_
  show wpAny _ _ (bindName X.env x u) _ _ _
  refine wpAny_bindName (store_ok I hN hi hx r (fun s' I' => ?_) hf)
  refine wpAny_assignInOrder_none ?_
  refine thn (hg.run pins s' _ H _ I' h) fun c s2 ⟨H2, I2, q⟩ => ?_
  cases c with
  | true => exact hb.run pins s2 _ H2 D I2 q
  | false => exact hr.run pins s2 _ H2 v u false D I2 r q
theorem pm_any {X : Cx} {p : Pos} {body : List Stmt} {rest : List MatchCase} {tb : TS} (hb : PSs X body tb) : PMs X (⟨.MatchAs none none p, none, body⟩ :: rest) (mAny tb) := by
  refine ⟨fun pins s σ H v u first D I r h => ?_⟩
  refine wpAny_matchCases_cons (wpAny_matchPattern_Capture ?_)
  exact wpAny_assignInOrder_none (hb.run pins s σ H D I h)
def tMatch (te : TE) (tm : TM) : TS := fun D σ H => te σ H fun v H1 => tm v D σ H1
theorem ps_match {X : Cx} {e : Expr} {cs : List MatchCase} {pos : Pos} {te : TE} {tm : TM} (he : PE X e te) (hc : PMs X cs tm) : PS X (.Match e cs pos) (tMatch te tm) := by
  refine ⟨fun pins s σ H D I h => ?_⟩
  exact wpAny_Match (thn (he.run pins s σ H _ I h) fun u s1 ⟨v, H1, I1, r, q⟩ => hc.run pins s1 σ H1 v u true D I1 r q)

/-! ### // of great ints, text * int -/
theorem op_fdivG {X : Cx} : OpR X (binaryOp .FloorDiv) (rI (fun _ j => j ≠ 0 ∧ j.natAbs.log2 < 9000) fun i j => .int (i.fdiv j)) := opI fun i j _ _ _ _ _ hc q =>
  floordiv_int hc.1 q (.inl (PyProof.noPylong_of_log2 hc.2))
theorem op_mul_str {X : Cx} : OpR X (binaryOp .Mult) (fun x y H Q => ∃ (c : Nat) (n : Int), x = .str ⟨#[c]⟩ ∧ y = .int n ∧ 2 ≤ n ∧ n ≤ 1000 ∧ Q (.str ⟨(List.replicate n.toNat c).toArray⟩) H) := by
  intro pins s σ H x y v u Q I rx ry h
  obtain ⟨c, n, rfl, rfl, h2, hn, q⟩ := h
  obtain ⟨t, rfl⟩ := rx
  obtain ⟨t', rfl⟩ := ry
  have n1 : ¬ n < 1 := by omega
  have hc : (n == 1 || (⟨#[c]⟩ : Str).length == 0) = false := by
    have a : (n == 1) = false := by
      rw [beq_eq_false_iff_ne]
      omega
    rw [a]
    rfl
  have e : (List.replicate n.toNat #[c]).foldl (· ++ ·) #[] = (List.replicate n.toNat c).toArray := by
    apply Array.ext'
    rw [PyProof.Rows.foldl_rep c n.toNat #[]]
    simp
  refine PySem.P.mul_str ?_ (fun _ _ => ?_) (fun _ _ => ?_) ?_
  · have a : ¬ n < -(2 ^ 63 : Int) := by omega
    have b : ¬ n ≥ 2 ^ 63 := by omega
    rw [decide_eq_false a, decide_eq_false b]
    rfl
  · have h3 : (1 : Int) ≤ (2 ^ 63 - 1) / n := by
      apply Int.le_ediv_of_mul_le (by omega)
      omega
    show ¬ ((1 : Int) > (2 ^ 63 - 1) / n)
    omega
  · show PySem.Builtin.Str.tooLong (1 * n.toNat) = false
    unfold PySem.Builtin.Str.tooLong
    apply decide_eq_false
    rw [show PySem.sizeLine = 16777216 from rfl]
    omega
  · rw [if_neg n1, hc]
    show _ ∧ _
    rw [e]
    refine ⟨?_, ⟨.str _, H, I.tok _, ⟨_, rfl⟩, q⟩⟩
    show (List.replicate n.toNat c).toArray.size ≤ _
    rw [List.size_toArray, List.length_replicate, show PySem.sizeLine = 16777216 from rfl]
    omega
end E3

/-! The text by places; data in the heap; what the top has; how a def's promise is made. -/
namespace E3
open PySem PySem.Spec PyProof.Rows L2

/-! ### the text -/
def topS (i : Nat) : Stmt := PySem.Challenge.pw_mendedruns_k03_whole_values_of_expressio.main.body.getD i (.Pass ⟨0, 0, 0, 0⟩)

/-! ### heaps that keep their tuples -/
def KT (H H' : Hp) : Prop := ∀ a xs, Rd H a (.tup xs) → Rd H' a (.tup xs)
theorem KT.refl (H : Hp) : KT H H := fun _ _ h => h
theorem KT.trans {H H1 H2 : Hp} (a : KT H H1) (b : KT H1 H2) : KT H H2 := fun c x h => b c x (a c x h)
theorem same_kt {H H' : Hp} (s : Same H H') : KT H H' := fun a xs h => by
  rcases h with h | ⟨o, h⟩
  · exact .inl (s _ _ h)
  · exact .inr ⟨o, s _ _ h⟩
theorem kt_upd {H : Hp} {p : Addr} {o : HO} (h : ∀ xs, ¬ Rd H p (.tup xs)) : KT H (upd H p o) := fun a xs r => by
  by_cases e : a = p
  · subst e
    exact absurd r (h xs)
  · rcases r with r | ⟨ob, r⟩
    · exact .inl (by rw [upd_ne e]; exact r)
    · exact .inr ⟨ob, by rw [upd_ne e]; exact r⟩
theorem no_tup {H : Hp} {p : Addr} {u : Option HO} (h : H p = u) (n1 : ∀ xs, u ≠ some (.tup xs)) (n2 : ∀ o xs, u ≠ some (.frz o (.tup xs))) : ∀ xs, ¬ Rd H p (.tup xs) := fun xs r => by
  rcases r with r | ⟨o, r⟩
  · exact n1 xs (h.symm.trans r)
  · exact n2 o xs (h.symm.trans r)
theorem same_upd {H : Hp} {p : Addr} {o : HO} (h : H p = none) : Same H (upd H p o) := fun b x e => by
  rw [upd_ne (ne_of_none e h)]
  exact e
/-- a new object that changed is still new for what stood ahead of it -/
theorem same_set {H H1 : Hp} {p : Addr} {o : HO} (s : Same H H1) (h : H p = none) : Same H (upd H1 p o) := fun b x e => by
  rw [upd_ne (ne_of_none e h)]
  exact s b x e
theorem seqT_kt {K : PySem.W.Frag} {H H' : Hp} {a : Addr} {xs : List V} (k : KT H H') (h : SqT K H a xs) : SqT K H' a xs := by
  rcases h with h | h
  · exact .inl (k _ _ h)
  · exact .inr h

/-! ### data in the heap -/
section
variable {K : PySem.W.Frag} {H H' : Hp}
mutual
theorem dp_kt (k : KT H H') : ∀ (d : PyData) (v : V), cl d = true → Dp K H v d → Dp K H' v d
  | .int i, v, _, h => by cases h; exact .int i
  | .str z, v, _, h => by cases h; exact .str z
  | .tuple xs, v, c, h => by
    cases h with
    | tup hs ha =>
      simp only [cl, Bool.and_eq_true] at c
      exact .tup (seqT_kt k hs) (dps_kt k xs _ c.2 ha)
  | .none, v, c, _ => by simp [cl] at c
  | .bool _, v, c, _ => by simp [cl] at c
  | .list _, v, c, _ => by simp [cl] at c
  | .dict _, v, c, _ => by simp [cl] at c
theorem dps_kt (k : KT H H') : ∀ (ds : List PyData) (vs : List V), clAll ds = true → DpAll K H vs ds → DpAll K H' vs ds
  | [], _, _, h => by cases h; exact .nil
  | d :: ds, _, c, h => by
    simp only [clAll, Bool.and_eq_true] at c
    cases h with
    | cons h1 h2 => exact .cons (dp_kt k d _ c.1 h1) (dps_kt k ds _ c.2 h2)
end
theorem dp_int {i : Int} {v : V} (h : Dp K H v (.int i)) : v = .int i := by cases h; rfl
theorem dp_str {z : Str} {v : V} (h : Dp K H v (.str z)) : v = .str z := by cases h; rfl
theorem dp_tup {xs : List PyData} {v : V} (h : Dp K H v (.tuple xs)) : ∃ a vs, v = .ref a ∧ SqT K H a vs ∧ DpAll K H vs xs := by
  cases h with
  | tup h1 h2 => exact ⟨_, _, rfl, h1, h2⟩
theorem dps_len : ∀ {vs : List V} {ds : List PyData}, DpAll K H vs ds → vs.length = ds.length
  | _, _, .nil => rfl
  | _, _, .cons _ h => by simp [dps_len h]
theorem dps_get : ∀ {vs : List V} {ds : List PyData} {i : Nat} {v : V}, DpAll K H vs ds → vs[i]? = some v → ∃ d, ds[i]? = some d ∧ Dp K H v d
  | _, _, i, v, .nil, e => by simp at e
  | _, _, 0, v, .cons h _, e => by
    simp at e
    subst e
    exact ⟨_, rfl, h⟩
  | _, _, i + 1, v, .cons _ h, e => by
    have e' := e
    rw [List.getElem?_cons_succ] at e'
    obtain ⟨d, h1, h2⟩ := dps_get h e'
    exact ⟨d, by rw [List.getElem?_cons_succ]; exact h1, h2⟩
theorem dps_app : ∀ {vs ws : List V} {ds es : List PyData}, DpAll K H vs ds → DpAll K H ws es → DpAll K H (vs ++ ws) (ds ++ es)
  | _, _, _, _, .nil, h => h
  | _, _, _, _, .cons a b, h => .cons a (dps_app b h)
theorem cl_cases {d : PyData} (c : cl d = true) : (∃ i, d = .int i) ∨ (∃ z, d = .str z ∧ z.length ≤ 200 ∧ z.cps.toList.all isSign = true) ∨ ∃ xs, d = .tuple xs ∧ xs.length ≤ 1000 ∧ ∀ x ∈ xs, cl x = true := by
  cases d with
  | int i => exact .inl ⟨i, rfl⟩
  | str z =>
    simp only [cl, Bool.and_eq_true, decide_eq_true_eq] at c
    exact .inr (.inl ⟨z, rfl, c.1, c.2⟩)
  | tuple xs =>
    simp only [cl, Bool.and_eq_true, decide_eq_true_eq, clAll_iff] at c
    exact .inr (.inr ⟨xs, rfl, c.1, c.2⟩)
  | none => simp [cl] at c
  | bool _ => simp [cl] at c
  | list _ => simp [cl] at c
  | dict _ => simp [cl] at c
theorem ty_tup {a : Addr} {xs : List V} (h : SqT K H a xs) : TyX K H (.ref a) (.type "tuple") := by
  rcases h with (h | ⟨o, h⟩) | ⟨o, its, n, h1, h2, _⟩
  · exact .base (.tup h)
  · exact .fTuple h
  · exact .kTuple h1 h2
theorem kit_int_int : PySem.W.kitOne K (.type "int") (.type "int") = some true := kit_ty (by decide +kernel)
theorem kit_int_bool : PySem.W.kitOne K (.type "int") (.type "bool") = some false := kit_ty (by decide +kernel)
theorem kit_int_str : PySem.W.kitOne K (.type "int") (.type "str") = some false := kit_ty (by decide +kernel)
theorem kit_int_tup : PySem.W.kitOne K (.type "int") (.type "tuple") = some false := kit_ty (by decide +kernel)
theorem kit_str_int : PySem.W.kitOne K (.type "str") (.type "int") = some false := kit_ty (by decide +kernel)
theorem kit_str_bool : PySem.W.kitOne K (.type "str") (.type "bool") = some false := kit_ty (by decide +kernel)
theorem kit_str_str : PySem.W.kitOne K (.type "str") (.type "str") = some true := kit_ty (by decide +kernel)
theorem kit_str_tup : PySem.W.kitOne K (.type "str") (.type "tuple") = some false := kit_ty (by decide +kernel)
theorem kit_tup_int : PySem.W.kitOne K (.type "tuple") (.type "int") = some false := kit_ty (by decide +kernel)
theorem kit_tup_bool : PySem.W.kitOne K (.type "tuple") (.type "bool") = some false := kit_ty (by decide +kernel)
theorem kit_tup_str : PySem.W.kitOne K (.type "tuple") (.type "str") = some false := kit_ty (by decide +kernel)
theorem kit_tup_tup : PySem.W.kitOne K (.type "tuple") (.type "tuple") = some true := kit_ty (by decide +kernel)
theorem kit_tup_list : PySem.W.kitOne K (.type "tuple") (.type "list") = some false := kit_ty (by decide +kernel)
theorem kit_int_list : PySem.W.kitOne K (.type "int") (.type "list") = some false := kit_ty (by decide +kernel)
theorem kit_str_list : PySem.W.kitOne K (.type "str") (.type "list") = some false := kit_ty (by decide +kernel)
theorem kit_list_list : PySem.W.kitOne K (.type "list") (.type "list") = some true := kit_ty (by decide +kernel)
theorem kit_dict_dict : PySem.W.kitOne K (.type "dict") (.type "dict") = some true := kit_ty (by decide +kernel)
/-- isinstance of data -/
theorem isi_one {v : V} {d : PyData} {T : String} {f : PyData → Bool} {Q : VK} (h : Dp K H v d) (c : cl d = true) (q : Q (.bl (f d)) H)
    (h1 : ∀ i, PySem.W.kitOne K (.type "int") (.type T) = some (f (.int i))) (h2 : ∀ z, PySem.W.kitOne K (.type "str") (.type T) = some (f (.str z))) (h3 : ∀ xs, PySem.W.kitOne K (.type "tuple") (.type T) = some (f (.tuple xs))) :
    rIsi K [v, .ty T] H Q := by
  rcases cl_cases c with ⟨i, rfl⟩ | ⟨z, rfl, _⟩ | ⟨xs, rfl, _⟩
  · obtain rfl := dp_int h
    exact ⟨_, _, _, _, _, rfl, .ty T, .base (.int i), h1 i, q⟩
  · obtain rfl := dp_str h
    exact ⟨_, _, _, _, _, rfl, .ty T, .base (.str z), h2 z, q⟩
  · obtain ⟨a, vs, rfl, hs, _⟩ := dp_tup h
    exact ⟨_, _, _, _, _, rfl, .ty T, ty_tup hs, h3 xs, q⟩
variable {v : V} {d : PyData} {Q : VK}
theorem isi_T (h : Dp K H v d) (c : cl d = true) (q : Q (.bl (isT d)) H) : rIsi K [v, .ty "tuple"] H Q := isi_one h c q (fun _ => kit_int_tup) (fun _ => kit_str_tup) (fun _ => kit_tup_tup)
theorem isi_I (h : Dp K H v d) (c : cl d = true) (q : Q (.bl (isI d)) H) : rIsi K [v, .ty "int"] H Q := isi_one h c q (fun _ => kit_int_int) (fun _ => kit_str_int) (fun _ => kit_tup_int)
theorem isi_S (h : Dp K H v d) (c : cl d = true) (q : Q (.bl (isS d)) H) : rIsi K [v, .ty "str"] H Q := isi_one h c q (fun _ => kit_int_str) (fun _ => kit_str_str) (fun _ => kit_tup_str)
theorem isi_B (h : Dp K H v d) (c : cl d = true) (q : Q (.bl false) H) : rIsi K [v, .ty "bool"] H Q := isi_one (f := fun _ => false) h c q (fun _ => kit_int_bool) (fun _ => kit_str_bool) (fun _ => kit_tup_bool)
end

/-! ### what the top has -/
/-- a def of the top, by its name -/
structure D0 (K : PySem.W.Frag) (mg : Str → Option Value) (x : Str) (st : Stmt) (ps : List Str) : Prop where
  ex : ∃ f fd, Fun K x x st f fd ∧ mg x = some (.ref f) ∧ Binds K fd ps []
/-- the names of the built-ins that the text uses are not the module's; its constants -/
structure Glo (K : PySem.W.Frag) (mg : Str → Option Value) : Prop where
  isi : mg "isinstance" = none
  int : mg "int" = none
  bool : mg "bool" = none
  str : mg "str" = none
  tuple : mg "tuple" = none
  dict : mg "dict" = none
  list : mg "list" = none
  len : mg "len" = none
  all : mg "all" = none
  sum : mg "sum" = none
  zip : mg "zip" = none
  abs : mg "abs" = none
  min : mg "min" = none
  max : mg "max" = none
  range : mg "range" = none
  SIGNS : ∃ u, mg "SIGNS" = some u ∧ RelV (.str signs) u
  LETTERS : ∃ u, mg "LETTERS" = some u ∧ RelV (.str lets) u
  MAX_TEXT : ∃ u, mg "MAX_TEXT" = some u ∧ RelV (.int 60) u
  MAX_ITEMS : ∃ u, mg "MAX_ITEMS" = some u ∧ RelV (.int 50) u
  MAX_LEVELS : ∃ u, mg "MAX_LEVELS" = some u ∧ RelV (.int 5) u
  MAX_NAME : ∃ u, mg "MAX_NAME" = some u ∧ RelV (.int 12) u
  MAX_INTEGER : ∃ u, mg "MAX_INTEGER" = some u ∧ RelV (.int big) u
  MAX_DEPTH : ∃ u, mg "MAX_DEPTH" = some u ∧ RelV (.int 8) u
  MAX_PARTS : ∃ u, mg "MAX_PARTS" = some u ∧ RelV (.int 10) u
  PAIRS : ∃ a, (∃ u, mg "PAIRS" = some u ∧ RelV (.ref a) u) ∧ ∀ H, SqT K H a (pairs.map V.str)
section
variable {P : Program} {w : World} {K : PySem.W.Frag} {mg : Str → Option Value} {base : Heap}
/-- a def's promise, by its body -/
theorem cal_of {x : Str} {st : Stmt} {N ps : List Str} {k : Nat} {sp : Sp} (D : D0 K mg x st ps) (S : FnScope N ps (defScope st)) (len : ∀ vs H Q E, sp vs H Q E → vs.length = ps.length)
    (hbody : ∀ (f : Addr) (cdv : Value) (A : Around) (outer : List Env) (s : Shared) (H : Hp) (vs : List V) (Q : VK) (E : XK), Room k (A.deeper (envOfC x (defScope st) s.heap.objs.size f cdv)) → sp vs H Q E →
      ∃ t, PSs (cxOf CX0 P w K mg base N x (defScope st) f cdv A outer s H E).nox (defBody st) t ∧ t { nx := fun _ H' => Q .non H', rt := Q } (start N vs) H) : C8.Cal P w K mg base (k + 1) x sp [] := by
  obtain ⟨f, fd, F, m, b⟩ := D.ex
  exact ⟨f, fd, ps, [], F.ok S len (hbody f), m, F.kp, b, .nil⟩
/-- a promise that asks what cannot be -/
theorem cal_false {x : Str} {st : Stmt} {N ps : List Str} {k : Nat} {sp : Sp} (D : D0 K mg x st ps) (S : FnScope N ps (defScope st)) (no : ∀ vs H Q E, sp vs H Q E → False) : C8.Cal P w K mg base (k + 1) x sp [] :=
  cal_of D S (fun vs H Q E h => (no vs H Q E h).elim) fun _ _ _ _ _ _ _ _ _ _ h => ⟨_, pss_never, (no _ _ _ _ h).elim⟩
theorem cal_mono {x : Str} {j k : Nat} {sp : Sp} (c : C8.Cal P w K mg base j x sp []) (h : j ≤ k) : C8.Cal P w K mg base k x sp [] := by
  obtain ⟨f, fd, ps, ds, F, hm, kp, b, d⟩ := c.ex
  exact ⟨f, fd, ps, ds, F.mono h, hm, kp, b, d⟩
end
/-- a call by name -/
theorem pe_k {X : Cx} {x : Str} {sp : Sp} {j k : Nat} {e : Expr} {es : List Expr} {t : TA} {p pos : Pos} (c : C8.Cal X.prog X.w X.K X.mg X.base k x sp []) (hr : Room j X.A) (ha : PA X (e :: es) t) (hk : k ≤ j := by omega) (hg : Gl X x := by rfl)
    (hdb : (x == ("__debug__" : Str)) = false := by decide) (he : starEach (e :: es) X.env = (false, eval e X.env) :: starEach es X.env := by rfl) (hpl : (backTo pos (starEach es X.env)).any (·.1) = false := by rfl) :
    PE X (.Call (.Name x p) (e :: es) [] pos) (tCall sp [] E0 t) := C8.pe_c c hr hk hg ha hdb he hpl

/-! ### comprehensions whose elements change nothing -/
section
variable {J : It} {n : Nat} {G : Hp → Prop} {Y : Nat → Hp → V → Hp → Prop}
theorem lc_pure (w : Walk J n G Y) {g : TG} {te : TE} {vs : List Nat} {σ : L2.St} {H1 : Hp} {D : Addr} {Qd : Hp → Prop} (F : Nat → V) (nD : H1 D = none) (hn : n ≤ 1000) (hG : ∀ H, Same H1 H → G H)
    (hs : ∀ i x H H', i < n → Same H1 H → Y i H x H' → Same H H' ∧ ∀ R : VK, (∀ H4, Same H' H4 → R (F i) H4) → g x (wipe σ vs) H' fun σ2 H2 => wipe σ2 vs = wipe σ vs ∧ te σ2 H2 R)
    (hd : ∀ H, Same H1 H → H D = some (.lst ((List.range n).map F)) → Qd H) :
    ∃ W : Nat → Nat → Hp → Prop, (∃ m, W 0 m (upd H1 D (.lst []))) ∧ ∀ i m H, W i m H →
      (J.stop i H ∧ Qd H) ∨ (J.go i H ∧ ∃ Nx : Hp → Prop, (∀ H', Nx H' → ∃ m', m' < m ∧ W (i + 1) m' H') ∧ ∀ x H', J.yld i H x H' → g x (wipe σ vs) H' fun σ2 H2 => wipe σ2 vs = wipe σ vs ∧ tYes σ2 H2 fun b H3 =>
        if b = true then te σ2 H3 fun y H4 => ∃ acc, H4 D = some (.lst acc) ∧ acc.length < sizeLine ∧ Nx (upd H4 D (.lst (acc ++ [y]))) else Nx H3) := by
  refine lc_it w (fun i H => Same H1 H ∧ H D = some (.lst ((List.range i).map F))) ⟨same_upd nD, by rw [upd_same]; rfl⟩ (fun i H _ p => hG H p.1) (fun i x H H' hi p y => ?_) fun H p => hd H p.1 p.2
  obtain ⟨s1, q⟩ := hs i x H H' hi p.1 y
  have e : ∀ A B : Prop, (if true = true then A else B) = A := fun A B => if_pos rfl
  simp only [tYes, e]
  refine q _ fun H4 s4 => ⟨_, s4 _ _ (s1 _ _ p.2), ?_, same_set (p.1.trans (s1.trans s4)) nD, ?_⟩
  · rw [List.length_map, List.length_range]
    exact small1000 (by omega)
  · rw [upd_same, List.range_succ, List.map_append]
    rfl
end
end E3

/-! Values: is_integer to is_value. -/
namespace E3
open PySem PySem.Spec PyProof.Rows L2

/-- isinstance(e, T) -/
def tIsi (K : PySem.W.Frag) (n : String) (te : TE) : TE := fun σ H Q => te σ H fun v H1 => rIsi K [v, .ty n] H1 Q
theorem pe_isi {X : Cx} {e : Expr} {te : TE} {p q pos : Pos} {n : String} (gi : X.mg "isinstance" = none) (gT : X.mg n = none) (hT : bootBuiltins n = some (.type n)) (he : PE X e te) (hg1 : Gl X "isinstance" := by rfl) (hg2 : Gl X n := by rfl)
    (hn : (n : Str) ≠ "__name__" := by decide) (hd : ((n : Str) == ("__debug__" : Str)) = false := by decide)
    (hs : starEach [e, .Name n q] X.env = (false, eval e X.env) :: starEach [.Name n q] X.env := by rfl) :
    PE X (.Call (.Name "isinstance" p) [e, .Name n q] [] pos) (tIsi X.K n te) :=
  pe_callB call_isi hg1 gi (by decide +kernel) (pa_cons he (pa_cons (pe_bltn (v := .ty n) hg2 gT hT rfl hn hd) pa_nil) hs) (he := hs)
theorem b_int : bootBuiltins "int" = some (.type "int") := by decide +kernel
theorem b_bool : bootBuiltins "bool" = some (.type "bool") := by decide +kernel
theorem b_str : bootBuiltins "str" = some (.type "str") := by decide +kernel
theorem b_tuple : bootBuiltins "tuple" = some (.type "tuple") := by decide +kernel
theorem b_list : bootBuiltins "list" = some (.type "list") := by decide +kernel
theorem b_dict : bootBuiltins "dict" = some (.type "dict") := by decide +kernel
theorem b_len : bootBuiltins "len" = some (.builtin "len") := by decide +kernel
theorem b_all : bootBuiltins "all" = some (.builtin "all") := by decide +kernel
theorem b_sum : bootBuiltins "sum" = some (.builtin "sum") := by decide +kernel
theorem b_abs : bootBuiltins "abs" = some (.builtin "abs") := by decide +kernel
theorem b_min : bootBuiltins "min" = some (.builtin "min") := by decide +kernel
theorem b_max : bootBuiltins "max" = some (.builtin "max") := by decide +kernel

section
variable {P : Program} {w : World} {K : PySem.W.Frag} {mg : Str → Option Value} {base : Heap}

/-! ### is_integer -/
abbrev sIsI : Stmt := topS 12
theorem scIsI : FnScope ["value"] ["value"] (defScope sIsI) := ⟨rfl, rfl, rfl, by decide +kernel, rfl, by decide +kernel, by decide +kernel⟩
def spIsI (K : PySem.W.Frag) : Sp := fun vs H Q _ => ∃ v d, vs = [v] ∧ Dp K H v d ∧ cl d = true ∧ Q (.bl (isI d)) H
theorem ok_isI (D : D0 K mg "is_integer" sIsI ["value"]) (G : Glo K mg) : C8.Cal P w K mg base 1 "is_integer" (spIsI K) [] := by
  refine cal_of D scIsI (fun vs H Q E h => ?_) fun f cdv A outer s H vs Q E hr h => ?_
  · obtain ⟨v, d, rfl, _⟩ := h
    rfl
  · obtain ⟨v, d, rfl, hd, c, q⟩ := h
    refine ⟨_, pss_one (ps_ret (pe_and (pe_isi G.isi G.int b_int (pv 0)) (pe_one (pe_not (pe_isi G.isi G.bool b_bool (pv 0)))))), ?_⟩
    refine ⟨v, rfl, isi_I hd c ⟨_, rfl, ite2 (fun e => ?_) (fun e => ?_)⟩⟩
    · rw [e] at q
      exact ⟨v, rfl, isi_B hd c ⟨_, rfl, q⟩⟩
    · rw [eq_false_of_ne_true e] at q
      exact q

/-! ### is_word -/
def isWd (S : Str) (lo hi : Nat) : PyData → Bool
  | .str z => wordOk S lo hi z
  | _ => false
abbrev sWord : Stmt := topS 13
theorem scWord : FnScope ["value", "signs", "least", "most", "sign"] ["value", "signs", "least", "most"] (defScope sWord) := ⟨rfl, rfl, rfl, by decide +kernel, rfl, by decide +kernel, by decide +kernel⟩
def spWord (K : PySem.W.Frag) : Sp := fun vs H Q _ => ∃ (v : V) (d : PyData) (S : Str) (lo hi : Nat), vs = [v, .str S, .int lo, .int hi] ∧ Dp K H v d ∧ cl d = true ∧ ∀ H', Same H H' → Q (.bl (isWd S lo hi d)) H'
theorem all_range {n : Nat} {l : List Nat} {f : Nat → Bool} (h : l.length = n) : ((List.range n).map fun i => f (l.getD i 0)).all id = l.all f := by
  subst h
  have : (List.range l.length).map (fun i => f (l.getD i 0)) = l.map f := by
    apply List.ext_getElem?
    intro i
    rw [List.getElem?_map, List.getElem?_map]
    by_cases hi : i < l.length
    · rw [List.getElem?_range hi]
      simp [hi]
    · rw [List.getElem?_eq_none (by simp; omega), List.getElem?_eq_none (by omega)]
      rfl
  rw [this, List.all_map]
  rfl
theorem ok_word (D : D0 K mg "is_word" sWord ["value", "signs", "least", "most"]) (G : Glo K mg) : C8.Cal P w K mg base 1 "is_word" (spWord K) [] := by
  refine cal_of D scWord (fun vs H Q E h => ?_) fun f cdv A outer s H vs Q E hr h => ?_
  · obtain ⟨v, d, S, lo, hi, rfl, _⟩ := h
    rfl
  · obtain ⟨v, d, S, lo, hi, rfl, hd, c, q⟩ := h
    refine ⟨_, pss_one (ps_ret (pe_and (pe_isi G.isi G.str b_str (pv 0)) (pe_and (pe_chain op_le op_le (pv 2) (pe_callB call_len_str (by rfl) G.len b_len (pa_cons (pv 0) pa_nil)) (pv 3))
      (pe_one (pe_callB (cr_all rfl) (by rfl) G.all b_all (pa_cons (pe_lc (own := [("sign", 4)]) (g := gName 4) (tt := tYes) rfl scWord.nd (pi_str (pv 0)) (blkOk_by (N := ["value", "signs", "least", "most", "sign"]) (sc := defScope sWord) (by decide +kernel))
        (fun _ _ _ _ _ => pg_name (i := 4) scWord.nd rfl (Or.inl rfl)) (fun _ _ _ _ _ => pts_nil) (fun _ _ _ _ _ => pe_cmpR op_in_sign (pv 4) (pv 1) rfl)) pa_nil)))))), ?_⟩
    refine ⟨v, rfl, isi_S hd c ⟨_, rfl, ?_⟩⟩
    rcases cl_cases c with ⟨i, rfl⟩ | ⟨z, rfl, hz, _⟩ | ⟨xs, rfl, _⟩
    · exact q H (Same.refl H)
    · obtain rfl := dp_str hd
      refine iteT ?_
      refine ⟨_, rfl, _, rfl, _, rfl, Nat.le_of_lt (small1000 (by omega)), _, _, rfl, rfl, _, rfl, ite2 (fun e1 => ?_) (fun e1 => ?_)⟩
      · refine ⟨_, rfl, _, _, rfl, rfl, _, rfl, ite2 (fun e2 => ?_) (fun e2 => ?_)⟩
        · refine ⟨_, rfl, _, rfl, fun D nD => ?_⟩
          refine lc_pure walk_str (fun i => .bl (decide (z.cps.toList.getD i 0 ∈ S.cps.toList))) nD (by show z.length ≤ 1000; omega) (fun _ _ => True.intro) (fun i x H1 H' hi s y => ?_) fun H1 s1 e => ?_
          · obtain ⟨rfl, cc, e, rfl⟩ := y
            refine ⟨Same.refl _, fun R hR => ⟨rfl, _, rfl, _, rfl, cc, S, rfl, rfl, ?_⟩⟩
            have : z.cps.toList.getD i 0 = cc := by
              rw [List.getD_eq_getElem?_getD, Array.getElem?_toList, e]
              rfl
            have r := hR _ (Same.refl _)
            simp only [this] at r
            exact r
          · refine ⟨D, (List.range z.cps.size).map (fun i => decide (z.cps.toList.getD i 0 ∈ S.cps.toList)), rfl, .of (by rw [e, List.map_map]; rfl), ?_⟩
            rw [all_range (f := fun c => decide (c ∈ S.cps.toList)) (by simp)]
            have g := q H1 s1
            have w1 : lo ≤ z.length := by
              have := of_decide_eq_true e1
              omega
            have w2 : z.length ≤ hi := by
              have := of_decide_eq_true e2
              omega
            simp only [isWd, wordOk, decide_eq_true w1, decide_eq_true w2, Bool.true_and] at g
            exact g
        · have g := q H (Same.refl H)
          have w2 : ¬ z.length ≤ hi := fun k => e2 (decide_eq_true (by omega))
          simp only [isWd, wordOk, decide_eq_false w2, Bool.false_and, Bool.and_false] at g
          exact g
      · have g := q H (Same.refl H)
        have w2 : ¬ lo ≤ z.length := fun k => e1 (decide_eq_true (by omega))
        simp only [isWd, wordOk, decide_eq_false w2, Bool.false_and] at g
        exact ⟨_, rfl, iteF g⟩
    · exact q H (Same.refl H)
end
end E3

/-! is_text, is_key, is_name, is_within_levels, size_within, is_value. -/
namespace E3
open PySem PySem.Spec PyProof.Rows L2
section
variable {P : Program} {w : World} {K : PySem.W.Frag} {mg : Str → Option Value} {base : Heap}

def spTxt (K : PySem.W.Frag) (S : Str) (lo hi : Nat) : Sp := fun vs H Q _ => ∃ v d, vs = [v] ∧ Dp K H v d ∧ cl d = true ∧ ∀ H', Same H H' → Q (.bl (isWd S lo hi d)) H'
abbrev sTxt : Stmt := topS 14
theorem scTxt : FnScope ["value"] ["value"] (defScope sTxt) := ⟨rfl, rfl, rfl, by decide +kernel, rfl, by decide +kernel, by decide +kernel⟩
theorem ok_text (D : D0 K mg "is_text" sTxt ["value"]) (G : Glo K mg) (cw : C8.Cal P w K mg base 1 "is_word" (spWord K) []) : C8.Cal P w K mg base 2 "is_text" (spTxt K signs 0 60) [] := by
  refine cal_of D scTxt (fun vs H Q E h => ?_) fun f cdv A outer s H vs Q E hr h => ?_
  · obtain ⟨v, d, rfl, _⟩ := h
    rfl
  · obtain ⟨v, d, rfl, hd, c, q⟩ := h
    refine ⟨_, pss_one (ps_ret (pe_k cw hr (pa_cons (pv 0) (pa_cons (C8.pe_gc (by rfl) G.SIGNS) (pa_cons pe_int (pa_cons (C8.pe_gc (by rfl) G.MAX_TEXT) pa_nil)))))), ?_⟩
    exact ⟨v, rfl, v, d, signs, 0, 60, rfl, hd, c, q⟩
abbrev sKey : Stmt := topS 18
theorem scKey : FnScope ["value"] ["value"] (defScope sKey) := ⟨rfl, rfl, rfl, by decide +kernel, rfl, by decide +kernel, by decide +kernel⟩
theorem ok_key (D : D0 K mg "is_key" sKey ["value"]) (G : Glo K mg) (cw : C8.Cal P w K mg base 1 "is_word" (spWord K) []) : C8.Cal P w K mg base 2 "is_key" (spTxt K signs 1 60) [] := by
  refine cal_of D scKey (fun vs H Q E h => ?_) fun f cdv A outer s H vs Q E hr h => ?_
  · obtain ⟨v, d, rfl, _⟩ := h
    rfl
  · obtain ⟨v, d, rfl, hd, c, q⟩ := h
    refine ⟨_, pss_one (ps_ret (pe_k cw hr (pa_cons (pv 0) (pa_cons (C8.pe_gc (by rfl) G.SIGNS) (pa_cons pe_int (pa_cons (C8.pe_gc (by rfl) G.MAX_TEXT) pa_nil)))))), ?_⟩
    exact ⟨v, rfl, v, d, signs, 1, 60, rfl, hd, c, q⟩
abbrev sName : Stmt := topS 19
theorem scName : FnScope ["value"] ["value"] (defScope sName) := ⟨rfl, rfl, rfl, by decide +kernel, rfl, by decide +kernel, by decide +kernel⟩
theorem ok_name (D : D0 K mg "is_name" sName ["value"]) (G : Glo K mg) (cw : C8.Cal P w K mg base 1 "is_word" (spWord K) []) : C8.Cal P w K mg base 2 "is_name" (spTxt K lets 1 12) [] := by
  refine cal_of D scName (fun vs H Q E h => ?_) fun f cdv A outer s H vs Q E hr h => ?_
  · obtain ⟨v, d, rfl, _⟩ := h
    rfl
  · obtain ⟨v, d, rfl, hd, c, q⟩ := h
    refine ⟨_, pss_one (ps_ret (pe_k cw hr (pa_cons (pv 0) (pa_cons (C8.pe_gc (by rfl) G.LETTERS) (pa_cons pe_int (pa_cons (C8.pe_gc (by rfl) G.MAX_NAME) pa_nil)))))), ?_⟩
    exact ⟨v, rfl, v, d, lets, 1, 12, rfl, hd, c, q⟩

/-! ### is_within_levels -/
def spWl (K : PySem.W.Frag) (n : Nat) : Sp := fun vs H Q _ => ∃ (v : V) (d : PyData) (lv : Nat), vs = [v, .int lv] ∧ lv < n ∧ Dp K H v d ∧ cl d = true ∧ ∀ H', Same H H' → Q (.bl (wl lv d)) H'
abbrev sWl : Stmt := topS 15
theorem scWl : FnScope ["value", "levels", "item"] ["value", "levels"] (defScope sWl) := ⟨rfl, rfl, rfl, by decide +kernel, rfl, by decide +kernel, by decide +kernel⟩
theorem map_range_get {α β : Type} {n : Nat} {l : List α} {f : α → β} (a : α) (h : l.length = n) : (List.range n).map (fun i => f (l.getD i a)) = l.map f := by
  subst h
  apply List.ext_getElem?
  intro i
  rw [List.getElem?_map, List.getElem?_map]
  by_cases hi : i < l.length
  · rw [List.getElem?_range hi]
    simp [hi]
  · rw [List.getElem?_eq_none (by simp; omega), List.getElem?_eq_none (by omega)]
    rfl
theorem ok_wl (D : D0 K mg "is_within_levels" sWl ["value", "levels"]) (G : Glo K mg) (ci : C8.Cal P w K mg base 1 "is_integer" (spIsI K) []) (ct : C8.Cal P w K mg base 2 "is_text" (spTxt K signs 0 60) []) :
    ∀ n, C8.Cal P w K mg base (n + 3) "is_within_levels" (spWl K n) []
  | 0 => cal_false D scWl fun vs H Q E h => by
    obtain ⟨v, d, lv, _, h, _⟩ := h
    omega
  | n + 1 => by
    have ih := ok_wl D G ci ct n
    refine cal_of D scWl (fun vs H Q E h => ?_) fun f cdv A outer s H vs Q E hr h => ?_
    · obtain ⟨v, d, lv, rfl, _⟩ := h
      rfl
    · obtain ⟨v, d, lv, rfl, hlv, hd, c, q⟩ := h
      refine ⟨_, pss_cons (ps_if (pt_val (pe_isi G.isi G.tuple b_tuple (pv 0)))
          (pss_cons (ps_if (PW.pt (pw_or (pt_cmpR op_eq (pv 1) pe_int (nomark _)) (pw_or1 (pt_cmpR op_gt (pe_callB call_len_seq (by rfl) G.len b_len (pa_cons (pv 0) pa_nil)) (C8.pe_gc (by rfl) G.MAX_ITEMS) (nomark _)))))
            (pss_one (ps_ret pe_bl)) pss_nil)
          (pss_one (ps_ret (pe_callB (cr_all rfl) (by rfl) G.all b_all (pa_cons (pe_lc (own := [("item", 2)]) (g := gName 2) (tt := tYes) rfl scWl.nd (pi_tup (pv 0)) (blkOk_by (N := ["value", "levels", "item"]) (sc := defScope sWl) (by decide +kernel))
            (fun _ _ _ _ _ => pg_name (i := 2) scWl.nd rfl (Or.inl rfl)) (fun _ _ _ _ _ => pts_nil) (fun _ _ _ _ _ => pe_k ih hr (pa_cons (pv 2) (pa_cons (pe_op op_sub (pv 1) pe_int) pa_nil)))) pa_nil))))) pss_nil)
        (pss_cons (ps_if (pt_val (pe_k ci hr (pa_cons (pv 0) pa_nil))) (pss_one (ps_ret (pe_chain op_lt op_lt (pe_un un_neg (C8.pe_gc (by rfl) G.MAX_INTEGER)) (pv 0) (C8.pe_gc (by rfl) G.MAX_INTEGER)))) pss_nil)
        (pss_one (ps_ret (pe_k ct hr (pa_cons (pv 0) pa_nil))))), ?_⟩
      refine ⟨v, rfl, isi_T hd c ⟨_, rfl, ?_⟩⟩
      rcases cl_cases c with ⟨i, rfl⟩ | ⟨z, rfl, hz, _⟩ | ⟨xs, rfl, hx, hcs⟩
      · obtain rfl := dp_int hd
        refine iteF ⟨_, rfl, _, _, rfl, hd, c, _, rfl, iteT ?_⟩
        refine ⟨_, rfl, _, rfl, _, _, rfl, rfl, _, rfl, ite2 (fun e1 => ?_) (fun e1 => ?_)⟩
        · refine ⟨_, _, rfl, rfl, ?_⟩
          have g := q H (Same.refl H)
          have w1 := of_decide_eq_true e1
          simp only [wl, decide_eq_true w1, Bool.true_and] at g
          exact g
        · have g := q H (Same.refl H)
          simp only [wl, eq_false_of_ne_true e1, Bool.false_and] at g
          exact g
      · obtain rfl := dp_str hd
        refine iteF ⟨_, rfl, _, _, rfl, hd, c, _, rfl, iteF ?_⟩
        refine ⟨_, rfl, _, _, rfl, hd, c, fun H' s' => ?_⟩
        have g := q H' s'
        simp only [wl] at g
        exact g
      · obtain ⟨a, vs, rfl, hs, ha⟩ := dp_tup hd
        have hl := dps_len ha
        refine iteT ⟨_, rfl, rfl, _, rfl, ite2 (fun e1 => ?_) (fun e1 => ?_)⟩
        · have e0 : lv = 0 := by
            have := V.int.inj (of_decide_eq_true e1)
            omega
          subst e0
          have g := q H (Same.refl H)
          simp only [wl] at g
          exact iteT g
        · obtain ⟨m, rfl⟩ : ∃ m, lv = m + 1 := by
            cases lv with
            | zero => exact absurd (decide_eq_true rfl) e1
            | succ m => exact ⟨m, rfl⟩
          refine ⟨_, rfl, a, vs, rfl, .inr hs, _, _, rfl, rfl, _, rfl, ite2 (fun e2 => ?_) (fun e2 => ?_)⟩
          · have g := q H (Same.refl H)
            have w2 : ¬ xs.length ≤ 50 := by
              have := of_decide_eq_true e2
              omega
            simp only [wl, decide_eq_false w2, Bool.false_and] at g
            exact g
          · have w2 : xs.length ≤ 50 := by
              have := of_decide_eq_false (eq_false_of_ne_true e2)
              omega
            refine ⟨_, rfl, a, rfl, ⟨vs, hs⟩, fun D nD => ?_⟩
            refine lc_pure (walk_tup (xs := vs)) (fun i => .bl (wl m (xs.getD i .none))) nD (by omega) (fun H1 s1 => seqT_kt (same_kt s1) hs) (fun i x H1 H' hi s1 y => ?_) fun H1 s1 e => ?_
            · obtain ⟨rfl, ei⟩ := y
              obtain ⟨dx, ex, hdx⟩ := dps_get ha ei
              have cx : cl dx = true := hcs dx (List.mem_of_getElem? ex)
              have egd : xs.getD i .none = dx := by
                rw [List.getD_eq_getElem?_getD, ex]
                rfl
              refine ⟨Same.refl _, fun R hR => ⟨rfl, _, rfl, _, rfl, _, _, rfl, rfl, x, dx, m, ?_, by omega, dp_kt (same_kt s1) dx x cx hdx, cx, fun H4 s4 => ?_⟩⟩
              · show [x, V.int (((m + 1 : Nat) : Int) - 1)] = [x, V.int m]
                rw [show ((m + 1 : Nat) : Int) - 1 = m by omega]
              · rw [← egd]
                exact hR H4 s4
            · refine ⟨D, (List.range vs.length).map (fun i => wl m (xs.getD i .none)), rfl, .of (by rw [e, List.map_map]; rfl), ?_⟩
              rw [map_range_get .none hl.symm, List.all_map]
              have g := q H1 s1
              simp only [wl, decide_eq_true w2, Bool.true_and] at g
              exact g
end
end E3

/-! size_within, is_value, is_state, are_variables, check_variables. -/
namespace E3
open PySem PySem.Spec PyProof.Rows L2
section
variable {P : Program} {w : World} {K : PySem.W.Frag} {mg : Str → Option Value} {base : Heap}

/-! ### size_within -/
def spSz (K : PySem.W.Frag) (n : Nat) : Sp := fun vs H Q _ => ∃ (v : V) (d : PyData), vs = [v] ∧ d.depth < n ∧ Dp K H v d ∧ cl d = true ∧ ∀ H', Same H H' → Q (.int (szw d)) H'
abbrev sSz : Stmt := topS 16
theorem scSz : FnScope ["value", "item"] ["value"] (defScope sSz) := ⟨rfl, rfl, rfl, by decide +kernel, rfl, by decide +kernel, by decide +kernel⟩
theorem depth_item {xs : List PyData} {x : PyData} {n : Nat} (hx : x ∈ xs) (h : (PyData.tuple xs).depth < n + 1) : x.depth < n := by
  have := depthAll_ge xs x hx
  simp only [PyData.depth] at h
  omega
theorem ok_sz (D : D0 K mg "size_within" sSz ["value"]) (G : Glo K mg) : ∀ n, C8.Cal P w K mg base (n + 1) "size_within" (spSz K n) []
  | 0 => cal_false D scSz fun vs H Q E h => by
    obtain ⟨v, d, _, h, _⟩ := h
    omega
  | n + 1 => by
    have ih := ok_sz D G n
    refine cal_of D scSz (fun vs H Q E h => ?_) fun f cdv A outer s H vs Q E hr h => ?_
    · obtain ⟨v, d, rfl, _⟩ := h
      rfl
    · obtain ⟨v, d, rfl, hn, hd, c, q⟩ := h
      refine ⟨_, pss_one (ps_ret (pe_ifExp (pt_val (pe_isi G.isi G.tuple b_tuple (pv 0)))
        (pe_callB (cr_sum rfl) (by rfl) G.sum b_sum (pa_cons (pe_lc (own := [("item", 1)]) (g := gName 1) (tt := tYes) rfl scSz.nd (pi_tup (pv 0)) (blkOk_by (N := ["value", "item"]) (sc := defScope sSz) (by decide +kernel))
            (fun _ _ _ _ _ => pg_name (i := 1) scSz.nd rfl (Or.inl rfl)) (fun _ _ _ _ _ => pts_nil) (fun _ _ _ _ _ => pe_op op_add pe_int (pe_k ih hr (pa_cons (pv 1) pa_nil)))) pa_nil)) pe_int)), ?_⟩
      refine ⟨v, rfl, isi_T hd c ⟨_, rfl, ?_⟩⟩
      rcases cl_cases c with ⟨i, rfl⟩ | ⟨z, rfl, hz, _⟩ | ⟨xs, rfl, hx, hcs⟩
      · exact iteF (q H (Same.refl H))
      · exact iteF (q H (Same.refl H))
      · obtain ⟨a, vs, rfl, hs, ha⟩ := dp_tup hd
        have hl := dps_len ha
        refine iteT ⟨_, rfl, a, rfl, ⟨vs, hs⟩, fun D nD => ?_⟩
        refine lc_pure (walk_tup (xs := vs)) (fun i => .int (1 + szw (xs.getD i .none))) nD (by omega) (fun H1 s1 => seqT_kt (same_kt s1) hs) (fun i x H1 H' hi s1 y => ?_) fun H1 s1 e => ?_
        · obtain ⟨rfl, ei⟩ := y
          obtain ⟨dx, ex, hdx⟩ := dps_get ha ei
          have mx := List.mem_of_getElem? ex
          have cx : cl dx = true := hcs dx mx
          have egd : xs.getD i .none = dx := by
            rw [List.getD_eq_getElem?_getD, ex]
            rfl
          refine ⟨Same.refl _, fun R hR => ⟨rfl, x, rfl, x, dx, rfl, depth_item mx hn, dp_kt (same_kt s1) dx x cx hdx, cx, fun H4 s4 => ⟨_, _, rfl, rfl, ?_⟩⟩⟩
          rw [← egd]
          exact hR H4 s4
        · refine ⟨D, xs.map fun x => (1 + szw x : Int), rfl, .of ?_, ?_⟩
          · rw [e, map_range_get (f := fun x => V.int (1 + szw x)) .none hl.symm, List.map_map]
            rfl
          · rw [← szwAll_sum]
            exact q H1 s1

/-! ### is_value -/
def spVal (K : PySem.W.Frag) : Sp := fun vs H Q _ => ∃ (v : V) (d : PyData), vs = [v] ∧ d.depth < 8 ∧ Dp K H v d ∧ cl d = true ∧ ∀ H', Same H H' → Q (.bl (isv d)) H'
abbrev sVal : Stmt := topS 17
theorem scVal : FnScope ["value"] ["value"] (defScope sVal) := ⟨rfl, rfl, rfl, by decide +kernel, rfl, by decide +kernel, by decide +kernel⟩
theorem ok_val (D : D0 K mg "is_value" sVal ["value"]) (G : Glo K mg) (cw : C8.Cal P w K mg base 9 "is_within_levels" (spWl K 6) []) (cs : C8.Cal P w K mg base 9 "size_within" (spSz K 8) []) : C8.Cal P w K mg base 10 "is_value" (spVal K) [] := by
  refine cal_of D scVal (fun vs H Q E h => ?_) fun f cdv A outer s H vs Q E hr h => ?_
  · obtain ⟨v, d, rfl, _⟩ := h
    rfl
  · obtain ⟨v, d, rfl, hn, hd, c, q⟩ := h
    refine ⟨_, pss_one (ps_ret (pe_and (pe_k cw hr (pa_cons (pv 0) (pa_cons (C8.pe_gc (by rfl) G.MAX_LEVELS) pa_nil))) (pe_one (pe_cmpR op_le (pe_k cs hr (pa_cons (pv 0) pa_nil)) (C8.pe_gc (by rfl) G.MAX_ITEMS) (nomark _))))), ?_⟩
    refine ⟨v, rfl, v, d, 5, rfl, by decide, hd, c, fun H1 s1 => ⟨_, rfl, ite2 (fun e => ?_) (fun e => ?_)⟩⟩
    · refine ⟨v, rfl, v, d, rfl, hn, dp_kt (same_kt s1) d v c hd, c, fun H2 s2 => ⟨_, _, rfl, rfl, ?_⟩⟩
      have g := q H2 (s1.trans s2)
      simp only [isv, e, Bool.true_and] at g
      rw [show decide (szw d ≤ 50) = decide ((szw d : Int) ≤ 50) from decide_eq_decide.mpr (by omega)] at g
      exact g
    · have g := q H1 s1
      simp only [isv, eq_false_of_ne_true e, Bool.false_and] at g
      exact g

/-! ### a dict of variables -/
structure Vars (K : PySem.W.Frag) (H : Hp) (a : Addr) (kvs : List (Key × V)) (g : Str → Option PyData) : Prop where
  at_ : H a = some (.dK kvs)
  few : kvs.length ≤ 20
  each : ∀ kv ∈ kvs, ∃ x d, kv.1 = Sum.inr x ∧ x ∈ five ∧ Dp K H kv.2 d ∧ isv d = true
  some_ : ∀ x d, g x = some d → ∃ v, valV kvs (Sum.inr x) = some v ∧ Dp K H v d ∧ isv d = true
  none_ : ∀ x, g x = none → valV kvs (Sum.inr x) = none
theorem Vars.same {H H' : Hp} {a : Addr} {kvs : List (Key × V)} {g : Str → Option PyData} (x : Vars K H a kvs g) (s : Same H H') : Vars K H' a kvs g :=
  ⟨s _ _ x.at_, x.few, fun kv h => let ⟨y, d, h1, h2, h3, h4⟩ := x.each kv h; ⟨y, d, h1, h2, dp_kt (same_kt s) _ _ (isv_cl h4) h3, h4⟩,
    fun y d h => let ⟨v, h1, h2, h3⟩ := x.some_ y d h; ⟨v, h1, dp_kt (same_kt s) _ _ (isv_cl h3) h2, h3⟩, x.none_⟩
theorem five_ok : ∀ x ∈ five, wordOk signs 1 60 x = true ∧ wordOk lets 1 12 x = true ∧ cl (.str x) = true := by decide +kernel
def spSta (K : PySem.W.Frag) : Sp := fun vs H Q _ => ∃ (a : Addr) (kvs : List (Key × V)) (g : Str → Option PyData), vs = [.ref a] ∧ Vars K H a kvs g ∧ ∀ H', Same H H' → Q (.bl true) H'
abbrev sSta : Stmt := topS 20
theorem scSta : FnScope ["value", "key", "worth"] ["value"] (defScope sSta) := ⟨rfl, rfl, rfl, by decide +kernel, rfl, by decide +kernel, by decide +kernel⟩
theorem all_true (n : Nat) : ((List.range n).map fun _ => true).all id = true := by
  rw [List.all_map, List.all_eq_true]
  intro _ _
  rfl
/-- behind the lock -/
theorem same_unlock {H H' : Hp} {a : Addr} {od : Obj} {u : HO} (e : H a = some u) (s : Same (upd H a (.frz od u)) H') : Same H (upd H' a u) := fun b o h => by
  by_cases hb : b = a
  · subst hb
    rw [upd_same]
    rw [e] at h
    exact h
  · rw [upd_ne hb]
    exact s b o (by rw [upd_ne hb]; exact h)
theorem kt_lock {H : Hp} {a : Addr} {od : Obj} {kvs : List (Key × V)} (e : H a = some (.dK kvs)) : KT H (upd H a (.frz od (.dK kvs))) := kt_upd (no_tup e (fun _ z => by cases z) (fun _ _ z => by cases z))
theorem ok_sta (D : D0 K mg "is_state" sSta ["value"]) (G : Glo K mg) (ck : C8.Cal P w K mg base 2 "is_key" (spTxt K signs 1 60) []) (cv : C8.Cal P w K mg base 10 "is_value" (spVal K) []) : C8.Cal P w K mg base 11 "is_state" (spSta K) [] := by
  refine cal_of D scSta (fun vs H Q E h => ?_) fun f cdv A outer s H vs Q E hr h => ?_
  · obtain ⟨a, kvs, g, rfl, _⟩ := h
    rfl
  · obtain ⟨a, kvs, g, rfl, hv, q⟩ := h
    refine ⟨_, pss_cons (ps_if (pt_not (pt_val (pe_isi G.isi G.dict b_dict (pv 0)))) (pss_one (ps_ret pe_bl)) pss_nil)
      (pss_one (ps_ret (pe_callB (cr_all rfl) (by rfl) G.all b_all (pa_cons (pe_lock (pe_lc (own := [("key", 1), ("worth", 2)]) (g := gTup K 2 (gCons (gName 1) (gCons (gName 2) gNil))) (tt := tYes) rfl scSta.nd (pi_items (pv 0)) (blkOk_by (N := ["value", "key", "worth"]) (sc := defScope sSta) (by decide +kernel))
            (fun _ _ _ _ _ => pg_tup rfl (pgs_cons (pg_name (i := 1) scSta.nd rfl (Or.inl rfl)) (pgs_cons (pg_name (i := 2) scSta.nd rfl (Or.inl rfl)) pgs_nil))) (fun _ _ _ _ _ => pts_nil) (fun _ _ _ _ _ => pe_and (pe_k ck hr (pa_cons (pv 1) pa_nil)) (pe_one (pe_k cv hr (pa_cons (pv 2) pa_nil)))))) pa_nil)))), ?_⟩
    refine ⟨_, rfl, ⟨_, _, _, _, true, rfl, .ty "dict", .base (.dK hv.at_), kit_dict_dict, true, rfl, ?_⟩⟩
    refine iteF ⟨a, _, hv.at_, True.intro, fun od => ?_⟩
    refine ⟨_, rfl, a, od, kvs, rfl, upd_same, fun D nD => ?_⟩
    refine lc_pure walk_items (fun _ => .bl true) nD (by have := hv.few; omega) (fun H1 s1 => s1 _ _ upd_same) (fun i x H1 H' hi s1 y => ?_) fun H1 s1 e => ?_
    · obtain ⟨T, kx, vx, rfl, nT, rfl, e1, e2⟩ := y
      refine ⟨same_upd nT, fun R hR => ?_⟩
      replace e1 : kvs[i]?.map (fun kv => kV kv.1) = some kx := e1
      replace e2 : kvs[i]?.map Prod.snd = some vx := e2
      cases ekv : kvs[i]? with
      | none =>
        rw [ekv] at e1
        cases e1
      | some kv =>
        rw [ekv] at e1 e2
        simp only [Option.map_some, Option.some.injEq] at e1 e2
        obtain ⟨z, d, k1, k2, k3, k4⟩ := hv.each kv (List.mem_of_getElem? ekv)
        rw [k1] at e1
        subst e1 e2
        have s2 : Same (upd H a (.frz od (.dK kvs))) (upd H1 T (.tup [kV (Sum.inr z), kv.2])) := s1.trans (same_upd nT)
        refine ⟨T, _, rfl, .inl (.inl upd_same), rfl, _, _, rfl, _, _, rfl, rfl, rfl, ?_⟩
        refine ⟨_, rfl, _, _, rfl, .str z, (five_ok z k2).2.2, fun H5 s5 => ⟨_, rfl, ?_⟩⟩
        rw [show isWd signs 1 60 (.str z) = true from (five_ok z k2).1]
        refine iteT ⟨_, rfl, _, d, rfl, by have := isv_depth k4; omega, dp_kt ((kt_lock hv.at_).trans (same_kt (s2.trans s5))) d _ (isv_cl k4) k3, isv_cl k4, fun H6 s6 => ?_⟩
        rw [k4]
        exact hR H6 (s5.trans s6)
    · refine ⟨s1 _ _ upd_same, D, (List.range kvs.length).map fun _ => true, rfl, ?_, ?_⟩
      · have nDa : D ≠ a := fun z => by
          rw [z, upd_same] at nD
          cases nD
        refine .of ?_
        rw [upd_ne nDa, e, List.map_map]
        rfl
      · rw [all_true]
        exact q _ (same_unlock hv.at_ s1)

def spArv (K : PySem.W.Frag) : Sp := fun vs H Q _ => ∃ (a : Addr) (kvs : List (Key × V)) (g : Str → Option PyData), vs = [.ref a] ∧ Vars K H a kvs g ∧ ∀ H', Same H H' → Q (.bl true) H'
abbrev sArv : Stmt := topS 21
theorem scArv : FnScope ["value", "name"] ["value"] (defScope sArv) := ⟨rfl, rfl, rfl, by decide +kernel, rfl, by decide +kernel, by decide +kernel⟩
theorem ok_arv (D : D0 K mg "are_variables" sArv ["value"]) (G : Glo K mg) (cs : C8.Cal P w K mg base 11 "is_state" (spSta K) []) (cn : C8.Cal P w K mg base 2 "is_name" (spTxt K lets 1 12) []) : C8.Cal P w K mg base 12 "are_variables" (spArv K) [] := by
  refine cal_of D scArv (fun vs H Q E h => ?_) fun f cdv A outer s H vs Q E hr h => ?_
  · obtain ⟨a, kvs, g, rfl, _⟩ := h
    rfl
  · obtain ⟨a, kvs, g, rfl, hv, q⟩ := h
    refine ⟨_, pss_one (ps_ret (pe_and (pe_k cs hr (pa_cons (pv 0) pa_nil)) (pe_one (pe_callB (cr_all rfl) (by rfl) G.all b_all (pa_cons (pe_lock (pe_lc (own := [("name", 1)]) (g := gName 1) (tt := tYes) rfl scArv.nd (pi_keys (pv 0)) (blkOk_by (N := ["value", "name"]) (sc := defScope sArv) (by decide +kernel))
            (fun _ _ _ _ _ => pg_name (i := 1) scArv.nd rfl (Or.inl rfl)) (fun _ _ _ _ _ => pts_nil) (fun _ _ _ _ _ => pe_k cn hr (pa_cons (pv 1) pa_nil)))) pa_nil))))), ?_⟩
    refine ⟨_, rfl, a, kvs, g, rfl, hv, fun H0 s0 => ⟨_, rfl, iteT ?_⟩⟩
    have hv0 := hv.same s0
    refine ⟨a, _, hv0.at_, True.intro, fun od => ?_⟩
    refine ⟨_, rfl, a, od, rfl, .inl ⟨kvs, upd_same, fun D nD => ?_⟩⟩
    refine lc_pure walk_keys (fun _ => .bl true) nD (by have := hv.few; omega) (fun H1 s1 => s1 _ _ upd_same) (fun i x H1 H' hi s1 y => ?_) fun H1 s1 e => ?_
    · obtain ⟨rfl, k, vx, ek, rfl⟩ := y
      refine ⟨Same.refl _, fun R hR => ⟨rfl, ?_⟩⟩
      obtain ⟨z, d, k1, k2, k3, k4⟩ := hv.each _ (List.mem_of_getElem? ek)
      have k1' : k = Sum.inr z := k1
      subst k1'
      refine ⟨_, rfl, _, _, rfl, .str z, (five_ok z k2).2.2, fun H5 s5 => ?_⟩
      rw [show isWd lets 1 12 (.str z) = true from (five_ok z k2).2.1]
      exact hR H5 s5
    · refine ⟨s1 _ _ upd_same, D, (List.range kvs.length).map fun _ => true, rfl, ?_, ?_⟩
      · have nDa : D ≠ a := fun z => by
          rw [z, upd_same] at nD
          cases nD
        refine .of ?_
        rw [upd_ne nDa, e, List.map_map]
        rfl
      · rw [all_true]
        exact q _ (s0.trans (same_unlock hv0.at_ s1))

def spChv (K : PySem.W.Frag) : Sp := fun vs H Q _ => ∃ (a : Addr) (kvs : List (Key × V)) (g : Str → Option PyData), vs = [.ref a] ∧ Vars K H a kvs g ∧ ∀ H', Same H H' → Q .non H'
abbrev sChv : Stmt := topS 23
theorem scChv : FnScope ["value"] ["value"] (defScope sChv) := ⟨rfl, rfl, rfl, by decide +kernel, rfl, by decide +kernel, by decide +kernel⟩
theorem ok_chv (D : D0 K mg "check_variables" sChv ["value"]) (G : Glo K mg) (cs : C8.Cal P w K mg base 12 "are_variables" (spArv K) []) : C8.Cal P w K mg base 13 "check_variables" (spChv K) [] := by
  refine cal_of D scChv (fun vs H Q E h => ?_) fun f cdv A outer s H vs Q E hr h => ?_
  · obtain ⟨a, kvs, g, rfl, _⟩ := h
    rfl
  · obtain ⟨a, kvs, g, rfl, hv, q⟩ := h
    refine ⟨_, pss_one (ps_if (pt_not (pt_val (pe_k cs hr (pa_cons (pv 0) pa_nil)))) (pss_one ps_never) pss_nil), ?_⟩
    exact ⟨_, rfl, a, kvs, g, rfl, hv, fun H0 s0 => ⟨_, rfl, iteF (q H0 s0)⟩⟩
end
end E3

/-! for name in zip(tuple, tuple): the pair is held by a name, so each pair is a new tuple or the one that is free again. -/
namespace E3
open PySem PySem.Spec PyProof.Rows L2

/-- a zip as it stands between two turns: f tells which pair is out, g that it is known to be held -/
def ZR (h : Heap) (z TI TO : Addr) (f : Value) (g : Bool) : Prop := h.get? z = some { cls := .type "zip", dict := none, data := .fields #[f, .bool g, .bool false, .ref TI, .ref TO], slots := #[] }
def Out (f : Value) : Prop := f = .none ∨ ∃ n : Nat, f = rawInt n
section
variable {prog : Program} {w : World} {A : Around} {E : Value → Shared → Prop} {s : Shared} {z TI TO i1 i2 l1 l2 : Addr} {f : Value} {g : Bool}
theorem alive_rule {a : Addr} {Q : Option Obj → Shared → Prop} {M : Model} (h : Q (s.heap.get? a) s) : wpAny M A (loadIfAlive a) Q E s := by
  intro ctx p hctx
  unfold loadIfAlive
  rw [Sem.wp_loadIfAlive]
  exact (show wpAny M A (pure (s.heap.get? a)) Q E s from wpAny_pure h) ctx p hctx
theorem zr_free {Q : Bool → Shared → Prop} (hz : ZR s.heap z TI TO f g) (hf : Out f) (h1 : Q true s) (h2 : ∀ h', ZR h' z TI TO f true → Heap.SameBut z s.heap h' → Q false { s with heap := h' }) :
    wpAny (model prog w) A (Builtin.SmallTypes.ownedTupleIsFree (.ref z)) Q E s := by
  unfold Builtin.SmallTypes.ownedTupleIsFree
  refine wpAny_bind (wpAny_field hz rfl (x := f) rfl ?_)
  rcases hf with e | ⟨n, e⟩
  · subst e
    exact wpAny_pure h1
  · subst e
    show wpAny _ _ (loadIfAlive (n : Int).toNat >>= _) _ _ _
    rw [Int.toNat_natCast]
    refine wpAny_bind (alive_rule ?_)
    cases s.heap.get? n with
    | none => exact wpAny_pure h1
    | some o =>
      refine wpAny_bind (wpAny_field hz rfl (x := .bool g) rfl ?_)
      cases g with
      | true => exact wpAny_pure (h2 s.heap hz (Heap.SameBut.refl _ _))
      | false => exact wpAny_bind (wpAny_setField_rec hz (by simp) fun h₁ a b => wpAny_pure (h2 h₁ a b))

/-- what stands at each turn -/
structure ZAt (h : Heap) (z TI TO i1 i2 l1 l2 : Addr) (k : Nat) : Prop where
  zr : ∃ f g, ZR h z TI TO f g ∧ Out f
  ti : IsPair h TI (.ref i1) (.ref i2)
  to : ∃ a b, IsPair h TO a b
  t1 : h.IsTupleIter i1 l1 k
  t2 : h.IsTupleIter i2 l2 k
/-- what is kept by a turn -/
def ZKept (h h' : Heap) (z TO i1 i2 : Addr) : Prop := ∀ c o, c ≠ z → c ≠ TO → c ≠ i1 → c ≠ i2 → h.get? c = some o → h'.get? c = some o

theorem zn_item {k : Nat} {xs ys : Array Value} {x y : Value} {Q : Value → Shared → Prop} (D : ZipApart z TI TO i1 i2 l1 l2) (Z : ZAt s.heap z TI TO i1 i2 l1 l2 k)
    (hl1 : s.heap.IsTuple l1 xs) (hl2 : s.heap.IsTuple l2 ys) (hx : xs[k]? = some x) (hy : ys[k]? = some y)
    (hQ : ∀ h', ZAt h' z TI TO i1 i2 l1 l2 (k + 1) → IsPair h' s.heap.objs.size x y → ZKept s.heap h' z TO i1 i2 → Q (.ref s.heap.objs.size) { s with heap := h' }) :
    wpAny (model prog w) A (Builtin.«zip.__next__» ⟨[.ref z], []⟩) (fun fin s' => ∃ v, fin = .done (.ret v) ∧ Q v s') E s := by
  obtain ⟨⟨f, g, hz, hf⟩, hTI, ⟨a, b, hTO⟩, h1, h2⟩ := Z
  show wpAny _ _ (field (.ref z) 2 >>= _) _ _ _
  refine wpAny_bind (wpAny_field hz rfl (x := .bool false) rfl ?_)
  show wpAny _ _ (field (.ref z) 3 >>= _) _ _ _
  refine wpAny_bind (wpAny_field hz rfl (x := .ref TI) rfl (wpAny_bind (wpAny_seqItems hTI rfl ?_)))
  show wpAny _ _ (Builtin.SmallTypes.ownedTupleIsFree (.ref z) >>= _) _ _ _
  refine wpAny_bind (zr_free hz hf ?_ fun g0 zr0 sb0 => ?_)
  · -- the tuple is free: it is filled, a copy is handed out
    simp only [if_true]
    refine wpAny_bind (wpAny_rule (wpAny_bind (wpAny_field hz rfl (x := .ref TO) rfl ?_)))
    refine wpAny_bind (wpAny_setField_rec hz (by simp) fun g1 zr1 sb1 => ?_)
    have zr1' : ZR g1 z TI TO .ellipsis g := zr1
    refine wpAny_bind ?_
    simp only [List.zipIdx_cons, List.zipIdx_nil, List.forIn_cons, List.forIn_nil]
    refine wpAny_bind (wpAny_bind (wpAny_onRaise ?_))
    show wpAny _ _ (Builtin.SmallTypes.nextOf (.ref i1) >>= _) _ _ _
    refine wpAny_bind (RZ.nextOf_tuple_item (h1.extBut sb1.extBut D.i1z) (hl1.extBut sb1.extBut D.l1z) hx fun g2 t2 sb2 => wpAny_pure ?_)
    have to2 : IsPair g2 TO a b := sb2.extBut _ _ D.TOi1 (sb1.extBut _ _ D.TOz hTO)
    refine wpAny_bind (wpAny_seqItems to2 rfl (wpAny_bind (wpAny_updateSeq_pair to2 fun g3 to3 sb3 => wpAny_bind (wpAny_letGo (wpAny_pure ?_)))))
    have to3' : IsPair g3 TO x b := to3
    refine wpAny_bind (wpAny_bind (wpAny_onRaise ?_))
    show wpAny _ _ (Builtin.SmallTypes.nextOf (.ref i2) >>= _) _ _ _
    have i2' := ((h2.extBut sb1.extBut D.i2z).extBut sb2.extBut D.i12.symm).extBut sb3.extBut D.TOi2.symm
    have l2' := ((hl2.extBut sb1.extBut D.l2z).extBut sb2.extBut D.l2i1).extBut sb3.extBut D.l2TO
    refine wpAny_bind (RZ.nextOf_tuple_item i2' l2' hy fun g4 t4 sb4 => wpAny_pure ?_)
    have to4 : IsPair g4 TO x b := sb4.extBut _ _ D.TOi2 to3'
    refine wpAny_bind (wpAny_seqItems to4 rfl (wpAny_bind (wpAny_updateSeq_pair to4 fun g5 to5 sb5 => wpAny_bind (wpAny_letGo (wpAny_pure (wpAny_pure ?_))))))
    have to5' : IsPair g5 TO x y := to5
    refine wpAny_bind (wpAny_seqItems to5' rfl (wpAny_bind (wpAny_newTuple ?_)))
    have size : g5.objs.size = s.heap.objs.size := by rw [sb5.1, sb4.1, sb3.1, sb2.1, sb1.1]
    have kept5 : ∀ c o, c ≠ z → c ≠ TO → c ≠ i1 → c ≠ i2 → s.heap.get? c = some o → g5.get? c = some o := fun c o n1 n2 n3 n4 q =>
      sb5.extBut _ _ n2 (sb4.extBut _ _ n4 (sb3.extBut _ _ n2 (sb2.extBut _ _ n3 (sb1.extBut _ _ n1 q))))
    have zr5 : ZR g5 z TI TO .ellipsis g := sb5.extBut _ _ D.TOz.symm (sb4.extBut _ _ D.i2z.symm (sb3.extBut _ _ D.TOz.symm (sb2.extBut _ _ D.i1z.symm zr1')))
    have i1' : g5.IsTupleIter i1 l1 (k + 1) := ((t2.extBut sb3.extBut D.TOi1.symm).extBut sb4.extBut D.i12).extBut sb5.extBut D.TOi1.symm
    have i2'' : g5.IsTupleIter i2 l2 (k + 1) := t4.extBut sb5.extBut D.TOi2.symm
    show wpAny _ _ (Builtin.SmallTypes.ownedTupleHandOut (.ref z) (.ref g5.objs.size) >>= _) _ _ _
    unfold Builtin.SmallTypes.ownedTupleHandOut
    have zr6 : ZR (g5.push { cls := .type "tuple", data := .seq #[x, y] }) z TI TO .ellipsis g := Heap.get?_push_of_some _ zr5
    refine wpAny_bind (wpAny_bind (wpAny_setField_rec zr6 (by simp) fun g7 zr7 sb7 => ?_))
    have zr7' : ZR g7 z TI TO (rawInt g5.objs.size) g := zr7
    refine wpAny_setField_rec zr7' (by simp) fun g8 zr8 sb8 => ?_
    have zr8' : ZR g8 z TI TO (rawInt g5.objs.size) false := zr8
    have up : ∀ c o, c ≠ z → g5.get? c = some o → g8.get? c = some o := fun c o n q => sb8.extBut _ _ n (sb7.extBut _ _ n (Heap.get?_push_of_some _ q))
    have zlt : z < g5.objs.size := Heap.lt_size zr5
    have pair8 : IsPair g8 g5.objs.size x y := sb8.extBut _ _ (Nat.ne_of_gt zlt) (sb7.extBut _ _ (Nat.ne_of_gt zlt) (Heap.get?_push_size _ rfl))
    refine wpAny_pure ⟨_, rfl, ?_⟩
    show Q (.ref g5.objs.size) _
    rw [size] at pair8 ⊢
    refine hQ g8 ⟨⟨_, _, zr8', .inr ⟨_, rfl⟩⟩, up _ _ D.TIz (kept5 _ _ D.TIz D.TITO D.TIi1 D.TIi2 hTI), ⟨x, y, up _ _ D.TOz to5'⟩, i1'.at fun o q => up _ o D.i1z q, i2''.at fun o q => up _ o D.i2z q⟩ pair8 fun c o n1 n2 n3 n4 q => up c o n1 (kept5 c o n1 n2 n3 n4 q)
  · -- it is held: a new one
    simp only [Bool.false_eq_true, if_false]
    refine wpAny_bind ?_
    rw [← Array.forIn_toList]
    simp only [List.forIn_cons, List.forIn_nil]
    refine wpAny_bind (wpAny_bind (wpAny_holding ?_))
    show wpAny _ _ (Builtin.SmallTypes.nextOf (.ref i1) >>= _) _ _ _
    refine wpAny_bind (RZ.nextOf_tuple_item (s := { s with heap := g0 }) (h1.extBut sb0.extBut D.i1z) (hl1.extBut sb0.extBut D.l1z) hx fun g2 t2 sb2 => wpAny_pure (wpAny_pure ?_))
    refine wpAny_bind (wpAny_bind (wpAny_holding ?_))
    show wpAny _ _ (Builtin.SmallTypes.nextOf (.ref i2) >>= _) _ _ _
    refine wpAny_bind (RZ.nextOf_tuple_item (s := { s with heap := g2 }) ((h2.extBut sb0.extBut D.i2z).extBut sb2.extBut D.i12.symm) ((hl2.extBut sb0.extBut D.l2z).extBut sb2.extBut D.l2i1) hy fun g3 t3 sb3 => wpAny_pure (wpAny_pure (wpAny_pure ?_)))
    show wpAny _ _ (newTuple [x, y] >>= _) _ _ _
    refine wpAny_bind (wpAny_newTuple (wpAny_pure ⟨_, rfl, ?_⟩))
    have size : g3.objs.size = s.heap.objs.size := by rw [sb3.1, sb2.1, sb0.1]
    have kept3 : ∀ c o, c ≠ z → c ≠ i1 → c ≠ i2 → s.heap.get? c = some o → g3.get? c = some o := fun c o n1 n2 n3 q => sb3.extBut _ _ n3 (sb2.extBut _ _ n2 (sb0.extBut _ _ n1 q))
    have zr3 : ZR g3 z TI TO f true := sb3.extBut _ _ D.i2z.symm (sb2.extBut _ _ D.i1z.symm zr0)
    have pair : IsPair (g3.push { cls := .type "tuple", data := .seq #[x, y] }) g3.objs.size x y := Heap.get?_push_size _ rfl
    show Q (.ref g3.objs.size) _
    rw [size] at pair ⊢
    exact hQ _ ⟨⟨_, _, Heap.get?_push_of_some _ zr3, hf⟩, Heap.get?_push_of_some _ (kept3 _ _ D.TIz D.TIi1 D.TIi2 hTI), ⟨a, b, Heap.get?_push_of_some _ (kept3 _ _ D.TOz D.TOi1 D.TOi2 hTO)⟩,
      (t2.extBut sb3.extBut D.i12).at fun o q => Heap.get?_push_of_some _ q, t3.at fun o q => Heap.get?_push_of_some _ q⟩ pair fun c o n1 _ n3 n4 q => Heap.get?_push_of_some _ (kept3 c o n1 n3 n4 q)

theorem zn_end {k : Nat} {xs ys : Array Value} {Q : Fin → Shared → Prop} (hh : A.handled = none) (D : ZipApart z TI TO i1 i2 l1 l2) (Z : ZAt s.heap z TI TO i1 i2 l1 l2 k)
    (hl1 : s.heap.IsTuple l1 xs) (hl2 : s.heap.IsTuple l2 ys) (he : xs[k]? = none ∨ ys[k]? = none)
    (hE : ∀ h' e, ZKept s.heap h' z TO i1 i2 → (∃ o, h'.get? e = some o ∧ o.cls = .type "StopIteration") → E (.ref e) { s with heap := h' }) :
    wpAny (model prog w) A (Builtin.«zip.__next__» ⟨[.ref z], []⟩) Q E s := by
  obtain ⟨⟨f, g, hz, hf⟩, hTI, ⟨a, b, hTO⟩, h1, h2⟩ := Z
  show wpAny _ _ (field (.ref z) 2 >>= _) _ _ _
  refine wpAny_bind (wpAny_field hz rfl (x := .bool false) rfl ?_)
  show wpAny _ _ (field (.ref z) 3 >>= _) _ _ _
  refine wpAny_bind (wpAny_field hz rfl (x := .ref TI) rfl (wpAny_bind (wpAny_seqItems hTI rfl ?_)))
  show wpAny _ _ (Builtin.SmallTypes.ownedTupleIsFree (.ref z) >>= _) _ _ _
  refine wpAny_bind (zr_free hz hf ?_ fun g0 zr0 sb0 => ?_)
  · simp only [if_true]
    refine wpAny_bind (wpAny_rule (wpAny_bind (wpAny_field hz rfl (x := .ref TO) rfl ?_)))
    refine wpAny_bind (wpAny_setField_rec hz (by simp) fun g1 zr1 sb1 => ?_)
    have zr1' : ZR g1 z TI TO .ellipsis g := zr1
    refine wpAny_bind ?_
    simp only [List.zipIdx_cons, List.zipIdx_nil, List.forIn_cons, List.forIn_nil]
    refine wpAny_bind (wpAny_bind (wpAny_onRaise ?_))
    show wpAny _ _ (Builtin.SmallTypes.nextOf (.ref i1) >>= _) _ _ _
    cases hx : xs[k]? with
    | none =>
      refine wpAny_bind (RZ.nextOf_tuple_end hh (h1.extBut sb1.extBut D.i1z) (hl1.extBut sb1.extBut D.l1z) hx fun g2 e sb2 ⟨oe, hoe, hce⟩ => ?_)
      have zr2 : ZR g2 z TI TO .ellipsis g := sb2 _ _ D.i1z.symm zr1'
      have ne : e ≠ z := fun q => by
        subst q
        rw [show g2.get? e = _ from zr2] at hoe
        cases hoe
        simp at hce
      exact wpAny_setField_rec zr2 (by simp) fun g3 _ sb3 => hE g3 e (fun c o n1 _ n3 _ q => sb3.extBut _ _ n1 (sb2 _ _ n3 (sb1.extBut _ _ n1 q))) ⟨oe, sb3.extBut _ _ ne hoe, hce⟩
    | some x =>
      have hy : ys[k]? = none := by
        rcases he with q | q
        · rw [hx] at q
          cases q
        · exact q
      refine wpAny_bind (RZ.nextOf_tuple_item (h1.extBut sb1.extBut D.i1z) (hl1.extBut sb1.extBut D.l1z) hx fun g2 t2 sb2 => wpAny_pure ?_)
      have to2 : IsPair g2 TO a b := sb2.extBut _ _ D.TOi1 (sb1.extBut _ _ D.TOz hTO)
      refine wpAny_bind (wpAny_seqItems to2 rfl (wpAny_bind (wpAny_updateSeq_pair to2 fun g3 to3 sb3 => wpAny_bind (wpAny_letGo (wpAny_pure ?_)))))
      refine wpAny_bind (wpAny_bind (wpAny_onRaise ?_))
      show wpAny _ _ (Builtin.SmallTypes.nextOf (.ref i2) >>= _) _ _ _
      have i2' := ((h2.extBut sb1.extBut D.i2z).extBut sb2.extBut D.i12.symm).extBut sb3.extBut D.TOi2.symm
      have l2' := ((hl2.extBut sb1.extBut D.l2z).extBut sb2.extBut D.l2i1).extBut sb3.extBut D.l2TO
      refine wpAny_bind (RZ.nextOf_tuple_end hh i2' l2' hy fun g4 e sb4 ⟨oe, hoe, hce⟩ => ?_)
      have zr4 : ZR g4 z TI TO .ellipsis g := sb4 _ _ D.i2z.symm (sb3.extBut _ _ D.TOz.symm (sb2.extBut _ _ D.i1z.symm zr1'))
      have ne : e ≠ z := fun q => by
        subst q
        rw [show g4.get? e = _ from zr4] at hoe
        cases hoe
        simp at hce
      exact wpAny_setField_rec zr4 (by simp) fun g5 _ sb5 => hE g5 e (fun c o n1 n2 n3 n4 q => sb5.extBut _ _ n1 (sb4 _ _ n4 (sb3.extBut _ _ n2 (sb2.extBut _ _ n3 (sb1.extBut _ _ n1 q))))) ⟨oe, sb5.extBut _ _ ne hoe, hce⟩
  · simp only [Bool.false_eq_true, if_false]
    refine wpAny_bind ?_
    rw [← Array.forIn_toList]
    simp only [List.forIn_cons, List.forIn_nil]
    refine wpAny_bind (wpAny_bind (wpAny_holding ?_))
    show wpAny _ _ (Builtin.SmallTypes.nextOf (.ref i1) >>= _) _ _ _
    cases hx : xs[k]? with
    | none => exact wpAny_bind (RZ.nextOf_tuple_end (s := { s with heap := g0 }) hh (h1.extBut sb0.extBut D.i1z) (hl1.extBut sb0.extBut D.l1z) hx fun g2 e sb2 q2 => hE g2 e (fun c o n1 _ n3 _ q => sb2 _ _ n3 (sb0.extBut _ _ n1 q)) q2)
    | some x =>
      have hy : ys[k]? = none := by
        rcases he with q | q
        · rw [hx] at q
          cases q
        · exact q
      refine wpAny_bind (RZ.nextOf_tuple_item (s := { s with heap := g0 }) (h1.extBut sb0.extBut D.i1z) (hl1.extBut sb0.extBut D.l1z) hx fun g2 t2 sb2 => wpAny_pure (wpAny_pure ?_))
      refine wpAny_bind (wpAny_bind (wpAny_holding ?_))
      show wpAny _ _ (Builtin.SmallTypes.nextOf (.ref i2) >>= _) _ _ _
      exact wpAny_bind (RZ.nextOf_tuple_end (s := { s with heap := g2 }) hh ((h2.extBut sb0.extBut D.i2z).extBut sb2.extBut D.i12.symm) ((hl2.extBut sb0.extBut D.l2z).extBut sb2.extBut D.l2i1) hy fun g4 e sb4 q4 =>
        hE g4 e (fun c o n1 _ n3 n4 q => sb4 _ _ n4 (sb2.extBut _ _ n3 (sb0.extBut _ _ n1 q))) q4)
end
end E3
namespace E3
open PySem PySem.Spec PyProof.Rows L2
theorem turn_zipN {P : Program} {w : World} {K : PySem.W.Frag} {nm : Str} {np : Pos} {a b z TI TO i1 i2 : Addr} (D : ZipApart z TI TO i1 i2 a b) :
    Turn P w K (.Name nm np) (RZ.ItzT K a b) [z, TI, TO, i1, i2] z (fun i h => ZAt h z TI TO i1 i2 a b i) where
  mem := List.mem_cons_self
  obj := fun i h st c hc => by
    obtain ⟨⟨f, g, hz, _⟩, hTI, ⟨x, y, hTO⟩, ⟨o1, e1, _, d1⟩, ⟨o2, e2, _, d2⟩⟩ := st
    simp only [List.mem_cons, List.not_mem_nil, or_false] at hc
    rcases hc with q | q | q | q | q <;> subst q
    · exact ⟨_, hz, fun v q => nomatch q⟩
    · exact ⟨_, hTI, fun v q => nomatch q⟩
    · exact ⟨_, hTO, fun v q => nomatch q⟩
    · exact ⟨o1, e1, fun v q => by rw [d1] at q; cases q⟩
    · exact ⟨o2, e2, fun v q => by rw [d2] at q; cases q⟩
  keep := fun i h h' st k => by
    obtain ⟨⟨f, g, hz, hf⟩, hTI, ⟨x, y, hTO⟩, h1, h2⟩ := st
    exact ⟨⟨f, g, k z (by simp) _ hz, hf⟩, k TI (by simp) _ hTI, ⟨x, y, k TO (by simp) _ hTO⟩, h1.at fun o q => k i1 (by simp) o q, h2.at fun o q => k i2 (by simp) o q⟩
  item := by
    intro X hP hw hK hc i pins s σ H E I hf st hg
    subst hP hw hK
    obtain ⟨xs, ys, x, y, hqx, hqy, hx, hy⟩ := hg
    obtain ⟨its, rv, p, _⟩ := I.tuple hqx
    obtain ⟨its2, rv2, p2, _⟩ := I.tuple hqy
    obtain ⟨u, hu, ru⟩ := rv.get hx
    obtain ⟨u2, hu2, ru2⟩ := rv2.get hy
    obtain ⟨⟨f, g, hz, _⟩, hTI, ⟨xo, yo, hTO⟩, ⟨o1, e1, _⟩, ⟨o2, e2, _⟩⟩ := id st
    have hT : s.TypeIs (.ref z) "zip" := ⟨_, hz, rfl⟩
    unfold pyNext
    refine wpAny_bind (wpAny_attempt (wpAny_callSpecial?_slot (name := Str.ofString "__next__") hT F.slot_zip_next (wpAny_call_entry F.slot_zip_next hT F.entry_zip_next
      (zn_item D st p p2 (x := u) (y := u2) (by simpa using hu) (by simpa using hu2) fun h' st' pr kp => wpAny_pure ⟨_, rfl, ?_⟩) (F.args_zip_next_1 _))))
    have new : ObjOk X.prog X.w (upd H s.heap.objs.size (.tup [x, y])) h' s.heap.objs.size (.tup [x, y]) :=
      ⟨by show 2 ≤ sizeLine; decide, [u, u2], .cons ru (.cons ru2 .nil), ⟨_, pr, rfl, _, rfl⟩⟩
    have I1 : Inv X pins σ (upd H s.heap.objs.size (.tup [x, y])) { s with heap := h' } :=
      I.turnedNew (t' := s.toks) (ch := [z, TI, TO, i1, i2]) (fun c o hb q => kp c o (fun e => hb (by simp [e])) (fun e => hb (by simp [e])) (fun e => hb (by simp [e])) (fun e => hb (by simp [e])) q) hf (Nat.le_refl _) new
    refine wpAny_pure ⟨.ref s.heap.objs.size, _, I1, rfl, ⟨_, x, y, rfl, I.hok.fresh (Nat.le_refl _), rfl, fun l hl => by rw [I.tuple_inj hl hqx]; exact hx, fun l hl => by rw [I.tuple_inj hl hqy]; exact hy⟩, st', fun c hcm => ?_⟩
    have hlt : c < s.heap.objs.size := by
      simp only [List.mem_cons, List.not_mem_nil, or_false] at hcm
      rcases hcm with q | q | q | q | q <;> rw [q]
      · exact Heap.lt_size hz
      · exact Heap.lt_size hTI
      · exact Heap.lt_size hTO
      · exact Heap.lt_size e1
      · exact Heap.lt_size e2
    rw [upd_ne (Nat.ne_of_lt hlt)]
    exact (hf c hcm).1
  done := by
    intro X hP hw hK hc i pins s σ H E I hf st hg
    subst hP hw hK
    obtain ⟨xs, ys, hqx, hqy, hend⟩ := hg
    obtain ⟨its, rv, p, _⟩ := I.tuple hqx
    obtain ⟨its2, rv2, p2, _⟩ := I.tuple hqy
    have l1 := rv.length
    have l2 := rv2.length
    have he : its.toArray[i]? = none ∨ its2.toArray[i]? = none := by
      rcases hend with q | q
      · exact .inl (by simp; omega)
      · exact .inr (by simp; omega)
    obtain ⟨⟨f, g, hz, _⟩, _⟩ := id st
    have hT : s.TypeIs (.ref z) "zip" := ⟨_, hz, rfl⟩
    unfold pyNext
    refine wpAny_bind (wpAny_attempt (wpAny_callSpecial?_slot (name := Str.ofString "__next__") hT F.slot_zip_next (wpAny_call_entry F.slot_zip_next hT F.entry_zip_next
      (zn_end (I.ok.hd hc) D st p p2 he fun h' e kp q => ?_) (F.args_zip_next_1 _))))
    obtain ⟨o, ho, hcl⟩ := q
    refine wpAny_bind (wpAny_isInstance (T := "StopIteration") (b := true) ⟨o, ho, hcl⟩ isSubtype_stop (wpAny_pure ⟨rfl, ?_⟩))
    exact I.turnedL (t' := s.toks) (ch := [z, TI, TO, i1, i2]) (fun c o hb q => kp c o (fun e => hb (by simp [e])) (fun e => hb (by simp [e])) (fun e => hb (by simp [e])) (fun e => hb (by simp [e])) q) hf
  self := fun A i s Q E st h => by
    obtain ⟨⟨f, g, hz, _⟩, _⟩ := st
    have hT : s.TypeIs (.ref z) "zip" := ⟨_, hz, rfl⟩
    refine wpAny_pyIter_slot hT F.slot_zip_iter (wpAny_call_entry F.slot_zip_iter hT F.entry_zip_iter ?_ (F.args_zip_iter_1 _))
    change wpAny _ _ (ret (.ref z)) _ _ _
    exact wpAny_pure ⟨_, rfl, "zip", _, hT, F.slot_zip_next.lookup, h⟩

def iZipN (K : PySem.W.Frag) (ta : TA) : TI := fun σ H R => ta σ H fun vs H1 => ∃ a b xs ys, vs = [.ref a, .ref b] ∧ SqT K H1 a xs ∧ SqT K H1 b ys ∧ R (RZ.ItzT K a b) H1
theorem pi_zipN {X : Cx} {e e2 : Expr} {ta : TA} {p pos np : Pos} {nm : Str} (hg : Gl X "zip") (hm : X.mg "zip" = none) (ha : PA X [e, e2] ta)
    (hs : starEach [e, e2] X.env = (false, eval e X.env) :: starEach [e2] X.env := by rfl) (hpl : (backTo pos (starEach [e2] X.env)).any (·.1) = false := by rfl) :
    PI X (.Name nm np) (.Call (.Name "zip" p) [e, e2] [] pos) (iZipN X.K ta) := by
  refine ⟨fun pins s σ H R I h => ?_⟩
  refine Call_ (ld_blt I hg hm PyProof.Rows.boot_zip (PyProof.Rows.callWith_type1 (thn (ha.run pos pins s σ H _ I h) fun us s1 ⟨vs, H1, I1, r1, a, b, xs, ys, ex, hqx, hqy, q⟩ => ?_) hs hpl))
  subst ex
  cases r1 with
  | cons r rr =>
    cases rr with
    | cons r' rr =>
      cases rr
      cases r
      cases r'
      obtain ⟨its, rv, p1, _⟩ := I1.tuple hqx
      obtain ⟨its2, rv2, p2, _⟩ := I1.tuple hqy
      obtain ⟨o1, ho1, _⟩ := id p1
      obtain ⟨o2, ho2, _⟩ := id p2
      refine RZ.call_zipT (show s1.heap.IsTuple a its.toArray from p1) (show s1.heap.IsTuple b its2.toArray from p2) fun h' hz hTI hTO h1 h2 hsz hk => wpAny_pyIter_zip hz ?_
      have I2 : Inv X pins σ H1 { s1 with heap := h' } := I1.kept (t' := s1.toks) hk
      refine ⟨_, [s1.heap.objs.size + 4, s1.heap.objs.size + 2, s1.heap.objs.size + 3, s1.heap.objs.size, s1.heap.objs.size + 1], _, _, H1, rfl, I2, turn_zipN (PySem.W.ktu_apart s1.heap.objs.size a b (Heap.lt_size ho1) (Heap.lt_size ho2)),
        ⟨⟨_, _, hz, .inl rfl⟩, hTI, ⟨_, _, hTO⟩, h1, h2⟩, fun c hcm => ?_, q⟩
      have hle : s1.heap.objs.size ≤ c := by
        simp only [List.mem_cons, List.not_mem_nil, or_false] at hcm
        rcases hcm with q | q | q | q | q <;> rw [q] <;> first | exact Nat.le_add_right _ _ | exact Nat.le_refl _
      exact I1.fpOk hle (I1.hok.fresh hle)
end E3

/-! are_equal. -/
namespace E3
open PySem PySem.Spec PyProof.Rows L2
theorem eqvAll_ne : ∀ (xs ys : List PyData), xs.length ≠ ys.length → PyData.eqvAll xs ys = false
  | [], [], h => absurd rfl h
  | [], _ :: _, _ => rfl
  | _ :: _, [], _ => rfl
  | x :: xs, y :: ys, h => by
    have ih := eqvAll_ne xs ys fun e => h (by simp [e])
    simp only [PyData.eqvAll, ih, Bool.and_false]
theorem eqvAll_range : ∀ (xs ys : List PyData), xs.length = ys.length → PyData.eqvAll xs ys = ((List.range xs.length).map fun i => PyData.eqv (xs.getD i .none) (ys.getD i .none)).all id
  | [], [], _ => rfl
  | [], _ :: _, h => by simp at h
  | _ :: _, [], h => by simp at h
  | x :: xs, y :: ys, h => by
    have ih := eqvAll_range xs ys (by simpa using h)
    simp only [PyData.eqvAll, ih, List.length_cons, List.range_succ_eq_map, List.map_cons, List.all_cons, List.map_map]
    rfl
theorem walk_zipT {K : PySem.W.Frag} {a b : Addr} {xs ys : List V} {n : Nat} (hn : n = min xs.length ys.length) : Walk (RZ.ItzT K a b) n (fun H => SqT K H a xs ∧ SqT K H b ys) (YPair (fun i => xs[i]?) (fun i => ys[i]?)) := by
  subst hn
  refine ⟨fun i _ hi q => ?_, fun _ q => ⟨xs, ys, q.1, q.2, by omega⟩, fun i H v H' _ q y => ?_⟩
  · have h1 : i < xs.length := by omega
    have h2 : i < ys.length := by omega
    exact ⟨xs, ys, xs[i], ys[i], q.1, q.2, by simp [h1], by simp [h2]⟩
  · obtain ⟨T, x, z, h1, h2, h3, h4, h5⟩ := y
    exact ⟨T, x, z, h1, h2, h3, h4 xs q.1, h5 ys q.2⟩
/-- f(*e) by name -/
def tStarC (K : PySem.W.Frag) (sp : Sp) (te : TE) : TE := fun σ H Q => te σ H fun y H1 => ∃ a xs, y = V.ref a ∧ (SqT K H1 a xs ∨ SqL K H1 a xs) ∧ sp (xs ++ []) H1 Q E0
theorem pe_kS {X : Cx} {x : Str} {sp : Sp} {j k : Nat} {e : Expr} {te : TE} {p q pos : Pos} (K : PySem.W.Frag) (c : C8.Cal X.prog X.w X.K X.mg X.base k x sp []) (hr : Room j X.A) (he : PE X e te) (hK : X.K = K := by rfl) (hk : k ≤ j := by omega) (hg : Gl X x := by rfl)
    (hdb : (x == ("__debug__" : Str)) = false := by decide) (hst : starEach [.Starred e q] X.env = [(true, eval e X.env)] := by rfl) :
    PE X (.Call (.Name x p) [.Starred e q] [] pos) (tStarC K sp te) := by
  subst hK
  obtain ⟨f, fd, ps, ds, F, hm, kp, b, d⟩ := c.ex
  exact StX.pe_callS1 (FnOk.raw F b d) (hr.mono hk) kp hg hm pass0 he hdb hst
section
variable {P : Program} {w : World} {K : PySem.W.Frag} {mg : Str → Option Value} {base : Heap}
def spEq (K : PySem.W.Frag) (n : Nat) : Sp := fun vs H Q _ => ∃ (v u : V) (d e : PyData), vs = [v, u] ∧ d.depth < n ∧ Dp K H v d ∧ Dp K H u e ∧ cl d = true ∧ cl e = true ∧ ∀ H', Same H H' → Q (.bl (PyData.eqv d e)) H'
abbrev sEq : Stmt := topS 22
theorem scEq : FnScope ["one", "other", "pair"] ["one", "other"] (defScope sEq) := ⟨rfl, rfl, rfl, by decide +kernel, rfl, by decide +kernel, by decide +kernel⟩
theorem ok_eq (D : D0 K mg "are_equal" sEq ["one", "other"]) (G : Glo K mg) : ∀ n, C8.Cal P w K mg base (n + 1) "are_equal" (spEq K n) []
  | 0 => cal_false D scEq fun vs H Q E h => by
    obtain ⟨v, u, d, e, _, h, _⟩ := h
    omega
  | n + 1 => by
    have ih := ok_eq D G n
    refine cal_of D scEq (fun vs H Q E h => ?_) fun f cdv A outer s H vs Q E hr h => ?_
    · obtain ⟨v, u, d, e, rfl, _⟩ := h
      rfl
    · obtain ⟨v, u, d, e, rfl, hn, hd, he, c, c', q⟩ := h
      refine ⟨_, pss_cons (ps_if (PW.pt (pw_and (pt_val (pe_isi G.isi G.tuple b_tuple (pv 0))) (pw_and1 (pt_val (pe_isi G.isi G.tuple b_tuple (pv 1))))))
          (pss_one (ps_ret (pe_and (pe_cmpR op_eq (pe_callB call_len_seq (by rfl) G.len b_len (pa_cons (pv 0) pa_nil)) (pe_callB call_len_seq (by rfl) G.len b_len (pa_cons (pv 1) pa_nil)) (nomark _))
            (pe_one (pe_callB (cr_all rfl) (by rfl) G.all b_all (pa_cons (pe_lc (own := [("pair", 2)]) (g := gName 2) (tt := tYes) rfl scEq.nd (pi_zipN (by rfl) G.zip (pa_cons (pv 0) (pa_cons (pv 1) pa_nil))) (blkOk_by (N := ["one", "other", "pair"]) (sc := defScope sEq) (by decide +kernel))
              (fun _ _ _ _ _ => pg_name (i := 2) scEq.nd rfl (Or.inl rfl)) (fun _ _ _ _ _ => pts_nil) (fun _ _ _ _ _ => pe_kS K ih hr (pv 2))) pa_nil)))))) pss_nil)
        (pss_cons (ps_if (PW.pt (pw_or (pt_val (pe_isi G.isi G.bool b_bool (pv 0))) (pw_or1 (pt_val (pe_isi G.isi G.bool b_bool (pv 1)))))) pss_never pss_nil)
        (pss_cons (ps_if (PW.pt (pw_or (PW.pt (pw_and (pt_val (pe_isi G.isi G.int b_int (pv 0))) (pw_and1 (pt_val (pe_isi G.isi G.int b_int (pv 1))))))
            (pw_or1 (PW.pt (pw_and (pt_val (pe_isi G.isi G.str b_str (pv 0))) (pw_and1 (pt_val (pe_isi G.isi G.str b_str (pv 1)))))))))
          (pss_one (ps_ret (pe_cmpR op_eq (pv 0) (pv 1) (nomark _)))) pss_nil)
        (pss_one (ps_ret (pe_and (pe_cmp (pc_isN (pv 0)) rfl) (pe_one (pe_cmp (pc_isN (pv 1)) rfl))))))), ?_⟩
      have g := q H (Same.refl H)
      refine ⟨v, rfl, isi_T hd c ⟨_, rfl, ?_⟩⟩
      -- behind the first test, where it is false
      have rest : (∀ xs ys, ¬ (d = .tuple xs ∧ e = .tuple ys)) → tSeq
          (tIfS (tOr (tB (tIsi K "bool" (tVar 0))) (tB (tIsi K "bool" (tVar 1)))) tNever tNext)
          (tSeq (tIfS (tOr (tAnd (tB (tIsi K "int" (tVar 0))) (tB (tIsi K "int" (tVar 1)))) (tAnd (tB (tIsi K "str" (tVar 0))) (tB (tIsi K "str" (tVar 1)))))
              (tRet (tOp rEq (tVar 0) (tVar 1))) tNext)
            (tRet (tAndV (tIsN (tVar 0)) (tIsN (tVar 1))))) { nx := fun x H' => Q V.non H', rt := Q } (L2.start ["one", "other", "pair"] [v, u]) H := by
        intro ne
        refine ⟨v, rfl, isi_B hd c ⟨_, rfl, iteF ⟨u, rfl, isi_B he c' ⟨_, rfl, iteF ?_⟩⟩⟩⟩
        refine ⟨v, rfl, isi_I hd c ⟨_, rfl, ?_⟩⟩
        rcases cl_cases c with ⟨i, rfl⟩ | ⟨z, rfl, _⟩ | ⟨xs, rfl, _⟩
        · obtain rfl := dp_int hd
          refine iteT ⟨u, rfl, isi_I he c' ⟨_, rfl, ?_⟩⟩
          rcases cl_cases c' with ⟨j, rfl⟩ | ⟨z', rfl, _⟩ | ⟨ys, rfl, _⟩
          · obtain rfl := dp_int he
            refine iteT (iteT ⟨_, rfl, _, rfl, rfl, ?_⟩)
            have : decide (V.int i = V.int j) = (i == j) := by
              rw [Bool.beq_eq_decide_eq]
              exact decide_eq_decide.mpr ⟨fun h => V.int.inj h, fun h => by rw [h]⟩
            rw [this]
            exact g
          · obtain rfl := dp_str he
            exact iteF ⟨_, rfl, isi_S hd c ⟨_, rfl, iteF (iteF ⟨_, rfl, _, rfl, iteF g⟩)⟩⟩
          · obtain ⟨a, vs, rfl, _⟩ := dp_tup he
            exact iteF ⟨_, rfl, isi_S hd c ⟨_, rfl, iteF (iteF ⟨_, rfl, _, rfl, iteF g⟩)⟩⟩
        · obtain rfl := dp_str hd
          refine iteF (iteF ⟨_, rfl, isi_S hd c ⟨_, rfl, iteT ⟨u, rfl, isi_S he c' ⟨_, rfl, ?_⟩⟩⟩⟩)
          rcases cl_cases c' with ⟨j, rfl⟩ | ⟨z', rfl, _⟩ | ⟨ys, rfl, _⟩
          · exact iteF ⟨_, rfl, _, rfl, iteF g⟩
          · obtain rfl := dp_str he
            refine iteT ⟨_, rfl, _, rfl, rfl, ?_⟩
            have : decide (V.str z = V.str z') = (z == z') := by
              rw [Bool.beq_eq_decide_eq]
              exact decide_eq_decide.mpr ⟨fun h => V.str.inj h, fun h => by rw [h]⟩
            rw [this]
            exact g
          · exact iteF ⟨_, rfl, _, rfl, iteF g⟩
        · obtain ⟨a, vs, rfl, _⟩ := dp_tup hd
          refine iteF (iteF ⟨_, rfl, isi_S hd c ⟨_, rfl, iteF (iteF ⟨_, rfl, _, rfl, iteF ?_⟩)⟩⟩)
          rcases cl_cases c' with ⟨j, rfl⟩ | ⟨z', rfl, _⟩ | ⟨ys, rfl, _⟩
          · exact g
          · exact g
          · exact absurd ⟨rfl, rfl⟩ (ne _ _)
      by_cases ht : isT d = true
      · obtain ⟨xs, rfl⟩ : ∃ xs, d = .tuple xs := by cases d <;> first | exact ⟨_, rfl⟩ | cases ht
        refine iteT ⟨u, rfl, isi_T he c' ⟨_, rfl, ?_⟩⟩
        by_cases ht' : isT e = true
        · obtain ⟨ys, rfl⟩ : ∃ ys, e = .tuple ys := by cases e <;> first | exact ⟨_, rfl⟩ | cases ht'
          obtain ⟨a, vs, rfl, hs, ha⟩ := dp_tup hd
          obtain ⟨b, us, rfl, hs', ha'⟩ := dp_tup he
          have hl := dps_len ha
          have hl' := dps_len ha'
          have cc := c
          have cc' := c'
          simp only [cl, Bool.and_eq_true, decide_eq_true_eq, clAll_iff] at cc cc'
          refine iteT ⟨_, rfl, a, vs, rfl, .inr hs, _, rfl, b, us, rfl, .inr hs', rfl, _, rfl, ite2 (fun e1 => ?_) (fun e1 => ?_)⟩
          · have el : xs.length = ys.length := by
              have := V.int.inj (of_decide_eq_true e1)
              omega
            refine ⟨_, rfl, _, rfl, a, b, vs, us, rfl, hs, hs', fun D nD => ?_⟩
            refine lc_pure (walk_zipT (n := xs.length) (xs := vs) (ys := us) (by omega)) (fun i => .bl (PyData.eqv (xs.getD i .none) (ys.getD i .none))) nD (by omega) (fun H1 s1 => ⟨seqT_kt (same_kt s1) hs, seqT_kt (same_kt s1) hs'⟩) (fun i x H1 H' hi s1 y => ?_) fun H1 s1 e => ?_
            · obtain ⟨T, x1, x2, rfl, nT, rfl, f1, f2⟩ := y
              replace f1 : vs[i]? = some x1 := f1
              replace f2 : us[i]? = some x2 := f2
              obtain ⟨d1, ed1, hd1⟩ := dps_get ha f1
              obtain ⟨d2, ed2, hd2⟩ := dps_get ha' f2
              have g1 : xs.getD i .none = d1 := by
                rw [List.getD_eq_getElem?_getD, ed1]
                rfl
              have g2 : ys.getD i .none = d2 := by
                rw [List.getD_eq_getElem?_getD, ed2]
                rfl
              have m1 := List.mem_of_getElem? ed1
              have m2 := List.mem_of_getElem? ed2
              have kt : KT H (upd H1 T (.tup [x1, x2])) := same_kt (s1.trans (same_upd nT))
              refine ⟨same_upd nT, fun R hR => ⟨rfl, _, rfl, T, _, rfl, .inl (.inl (.inl upd_same)), x1, x2, d1, d2, rfl, depth_item m1 hn, dp_kt kt d1 x1 (cc.2 _ m1) hd1, dp_kt kt d2 x2 (cc'.2 _ m2) hd2, cc.2 _ m1, cc'.2 _ m2, fun H4 s4 => ?_⟩⟩
              rw [← g1, ← g2]
              exact hR H4 s4
            · refine ⟨D, (List.range xs.length).map (fun i => PyData.eqv (xs.getD i .none) (ys.getD i .none)), rfl, .of (by rw [e, List.map_map]; rfl), ?_⟩
              rw [← eqvAll_range xs ys el]
              exact q H1 s1
          · have el : xs.length ≠ ys.length := fun k => e1 (decide_eq_true (by rw [hl, hl', k]))
            have g' := g
            simp only [PyData.eqv, eqvAll_ne xs ys el] at g'
            exact g'
        · refine ite2 (fun z => absurd z ht') fun _ => ?_
          exact rest fun xs' ys' h => ht' (h.2 ▸ rfl)
      · refine ite2 (fun z => absurd z ht) fun _ => iteF ?_
        exact rest fun xs' ys' h => ht (h.1 ▸ rfl)
end
end E3

/-! sum(list of lists, []). -/
namespace E3
open PySem PySem.Spec PyProof.Rows L2
section
variable {prog : Program} {w : World} {A : Around} {I l S : Addr} {items : Array Value} {ls : List (List Value)}
/-- the i-th item is a list of these values -/
def Parts (h : Heap) (I S : Addr) (items : Array Value) (ls : List (List Value)) : Prop :=
  ∀ (i : Nat) (v : Value), items[i]? = some v → ∃ p n xs, v = .ref p ∧ ls[i]? = some xs ∧ h.get? p = some { cls := .type "list", data := .seq xs.toArray n } ∧ p ≠ I ∧ p ≠ S
theorem sum_lists_loop {R : Result → Shared → Prop} (hh : A.handled = none) (hlI : l ≠ I) (hlS : l ≠ S) (hIS : I ≠ S) (hn : items.size = ls.length) :
    ∀ (k i : Nat) (s : Shared) (t : Addr) (acc : List Value) (c n : Nat), items.size - i = k → i ≤ items.size → s.heap.IsListIter I l i → s.heap.IsList l items → Parts s.heap I S items ls →
    s.heap.get? S = some { cls := .type "list", dict := none, data := .seq #[.ref t] c, slots := #[] } → s.heap.get? t = some { cls := .type "list", data := .seq acc.toArray n } → t ≠ I → t ≠ S → acc.length + ((ls.drop i).flatten).length ≤ sizeLine →
    (∀ h' tk t' n', (∀ b o, b ≠ I → b ≠ S → s.heap.get? b = some o → h'.get? b = some o) → h'.get? t' = some { cls := .type "list", data := .seq (acc ++ (ls.drop i).flatten).toArray n' } → (t' = t ∧ items.size = i ∨ s.heap.objs.size ≤ t') →
      R (.ok (.ret (.ref t'))) { s with heap := h', toks := tk }) → codeAny (model prog w) A (.builtin "sum.loop" ⟨[.ref I, .ref S, rawInt 2, rawInt 0], []⟩) R s := by
  intro k
  induction k with
  | zero =>
    intro i s t acc c n hk hi hit hl hp hS ht htI htS hz hR
    have e : i = items.size := by omega
    refine codeAny_builtin F.entry_sum_loop ?_
    rw [Around.under_plainId F.plain_sum_loop _]
    show wpAny _ A.in1 (seqItems? (.ref S) >>= _) _ _ s
    refine wpAny_bind (wpAny_seqItems hS rfl ?_)
    show wpAny _ A.in1 (tryCatch (pyNext (.ref I)) _ >>= _) _ _ s
    refine wpAny_bind (wpAny_tryCatch ((Walks.list (A := A.in1) hh I l hlI items).done s _ _ (by rw [e] at hit; exact ⟨hit, hl⟩) fun h' tk hb => ?_))
    refine wpAny_pure (hR h' tk t n (fun b o n1 _ q => hb b o (by simpa using n1) q) ?_ (.inl ⟨rfl, e.symm⟩))
    rw [List.drop_eq_nil_of_le (by omega), List.flatten_nil, List.append_nil]
    exact hb _ _ (by simpa using htI) ht
  | succ k ih =>
    intro i s t acc c n hk hi hit hl hp hS ht htI htS hz hR
    have hlt : i < items.size := by omega
    refine codeAny_builtin F.entry_sum_loop ?_
    rw [Around.under_plainId F.plain_sum_loop _]
    show wpAny _ A.in1 (seqItems? (.ref S) >>= _) _ _ s
    refine wpAny_bind (wpAny_seqItems hS rfl ?_)
    show wpAny _ A.in1 (tryCatch (pyNext (.ref I)) _ >>= _) _ _ s
    have hv : items[i]? = some items[i] := by simp [hlt]
    generalize items[i] = v at hv
    refine wpAny_bind (wpAny_tryCatch (wpAny_pyNext_list_item hit hl hv fun h' hit' sb => ?_))
    have kp : ∀ b o, b ≠ I → s.heap.get? b = some o → h'.get? b = some o := fun b o n1 q => sb.extBut b o n1 q
    have st' : h'.IsListIter I l (i + 1) ∧ h'.IsList l items := ⟨hit', hl.extBut sb.extBut hlI⟩
    have ss : h'.objs.size = s.heap.objs.size := sb.1
    obtain ⟨p, np, xs, rfl, exs, hpo, hpI, hpS⟩ := hp i v hv
    have hS' := kp S _ hIS.symm hS
    have ht' := kp t _ htI ht
    have hp' := kp p _ hpI hpo
    have ed : ls.drop i = xs :: ls.drop (i + 1) := by
      obtain ⟨h1, h2⟩ := List.getElem?_eq_some_iff.mp exs
      rw [List.drop_eq_getElem_cons h1, h2]
    have el : ((ls.drop i).flatten).length = xs.length + ((ls.drop (i + 1)).flatten).length := by rw [ed, List.flatten_cons, List.length_append]
    show wpAny _ A.in1 ((holding [Value.ref p] (binaryOp .Add (.ref t) (.ref p))).attempt >>= _) _ _ _
    refine wpAny_bind (wpAny_attempt (wpAny_holding (PySem.P.add_list ht' hp' ?_ (by rw [List.size_toArray, List.size_toArray]; omega))))
    have ea : acc.toArray ++ xs.toArray = (acc ++ xs).toArray := by simp
    rw [ea]
    have sS : S < h'.objs.size := Heap.lt_size hS'
    have gS : (h'.push { cls := .type "list", data := .seq (acc ++ xs).toArray }).get? S = _ := Heap.get?_push_of_some _ hS'
    show wpAny _ A.in1 (updateSeq S (fun _ => #[.ref h'.objs.size]) >>= _) _ _ _
    refine wpAny_bind (wpAny_updateSeq gS rfl ?_)
    have gS2 := Heap.get?_update_self (Obj.mapSeq fun _ => #[Value.ref h'.objs.size]) gS rfl
    refine wpAny_bind (wpAny_letGo ?_)
    refine wpAny_bind (wpAny_updateSeq gS2 rfl (wpAny_pure ⟨plainId_quiet F.plain_sum_loop _, ?_⟩))
    have gS3 := Heap.get?_update_self (Obj.mapSeq fun _ => #[Value.ref h'.objs.size]) gS2 rfl
    have up : ∀ b o, b ≠ S → h'.get? b = some o → (((h'.push { cls := .type "list", data := .seq (acc ++ xs).toArray }).update S (Obj.mapSeq fun _ => #[Value.ref h'.objs.size])).update S (Obj.mapSeq fun _ => #[Value.ref h'.objs.size])).get? b = some o := fun b o n2 q =>
      (Heap.get?_update_other _ _ (Ne.symm n2)).trans ((Heap.get?_update_other _ _ (Ne.symm n2)).trans (Heap.get?_push_of_some _ q))
    have new : (((h'.push { cls := .type "list", data := .seq (acc ++ xs).toArray }).update S (Obj.mapSeq fun _ => #[Value.ref h'.objs.size])).update S (Obj.mapSeq fun _ => #[Value.ref h'.objs.size])).get? h'.objs.size = some { cls := .type "list", data := .seq (acc ++ xs).toArray } :=
      (Heap.get?_update_other _ _ (Nat.ne_of_lt sS)).trans ((Heap.get?_update_other _ _ (Nat.ne_of_lt sS)).trans (Heap.get?_push_size _ rfl))
    have lI : I < h'.objs.size := by
      obtain ⟨o, q, _⟩ := st'.1
      exact Heap.lt_size q
    refine ih (i + 1) _ h'.objs.size (acc ++ xs) _ 0 (by omega) hlt (st'.1.at fun o q => up _ o hIS q) (st'.2.at fun o q => up _ o hlS q) (fun j u hj => ?_) gS3 new (Nat.ne_of_gt lI) (Nat.ne_of_gt sS) (by rw [List.length_append]; omega) fun h2 tk2 t2 n2 kp2 ht2 ho => ?_
    · obtain ⟨p', m', ys, e1, e2, e3, e4, e5⟩ := hp j u hj
      exact ⟨p', m', ys, e1, e2, up _ _ e5 (kp _ _ e4 e3), e4, e5⟩
    · refine hR h2 tk2 t2 n2 (fun b o n1 n2 q => kp2 b o n1 n2 (up b o n2 (kp b o n1 q))) ?_ (.inr ?_)
      · rw [ed, List.flatten_cons, ← List.append_assoc]
        exact ht2
      · rcases ho with ⟨q, _⟩ | q
        · rw [q, ss]
          exact Nat.le_refl _
        · have : (((h'.push { cls := .type "list", data := .seq (acc ++ xs).toArray }).update S (Obj.mapSeq fun _ => #[Value.ref h'.objs.size])).update S (Obj.mapSeq fun _ => #[Value.ref h'.objs.size])).objs.size = h'.objs.size + 1 := by
            rw [(Heap.SameBut.update ..).1, (Heap.SameBut.update ..).1, Heap.size_push]
          have q' : h'.objs.size + 1 ≤ t2 := by
            rw [← this]
            exact q
          rw [← ss]
          exact Nat.le_trans (Nat.le_succ _) q'
theorem args_sum2 (a b : Value) : argsOk "sum" ⟨[a, b], []⟩ := by
  unfold argsOk
  kernel_rfl
theorem sub_list_bytearray : isSubtype (.type "list") (.type "bytearray") = pure false := by
  rw [isSubtype_type]
  kernel_rfl
theorem call_sum_lists {E : Value → Shared → Prop} {s : Shared} {b : Addr} {nb : Nat} {Q : Value → Shared → Prop} (hh : A.handled = none) (hl : s.heap.IsList l items) (hn : items.size = ls.length)
    (hp : ∀ (i : Nat) (v : Value), items[i]? = some v → ∃ p n xs, v = .ref p ∧ ls[i]? = some xs ∧ s.heap.get? p = some { cls := .type "list", data := .seq xs.toArray n })
    (hb : s.heap.get? b = some { cls := .type "list", data := .seq #[] nb }) (hz : ls.flatten.length ≤ sizeLine)
    (hQ : ∀ h' tk t' n', (∀ a o, s.heap.get? a = some o → h'.get? a = some o) → h'.get? t' = some { cls := .type "list", data := .seq ls.flatten.toArray n' } → (t' = b ∧ ls.flatten = [] ∨ s.heap.objs.size ≤ t') → Q (.ref t') { s with heap := h', toks := tk }) :
    wpAny (model prog w) A (call (.builtin "sum") [.ref l, .ref b]) Q E s := by
  have ltl : l < s.heap.objs.size := by
    obtain ⟨o, q, _⟩ := hl
    exact Heap.lt_size q
  refine call_function_tree F.kind_sum F.plain_sum F.entry_sum (args_sum2 _ _) ?_
  unfold Builtin.«sum»
  simp only [List.length_cons, List.length_nil]
  rw [if_neg (by decide)]
  refine wpAny_bind (wpAny_of_eq (show Builtin.Builtins.bindParams "sum" ["start"] 0 ⟨[.ref b], []⟩ = pure [some (.ref b)] from rfl) ?_)
  refine wpAny_bind (iter_any hl fun s2 e2 ⟨hit, hl2⟩ hlI => ?_)
  subst e2
  refine wpAny_bind (wpAny_pure ?_)
  have tb : Shared.TypeIs { s with heap := s.heap.push { cls := .type "list_iterator", data := .fields #[.ref l, .int 0 0] } } (.ref b) "list" := ⟨_, Heap.get?_push_of_some _ hb, rfl⟩
  simp only [List.forIn_cons, List.forIn_nil]
  refine wpAny_bind (wpAny_bind (wpAny_bind (wpAny_isInstance (T := "list") (b := false) tb F.sub_list_str ?_)))
  simp only [Bool.false_eq_true, if_false]
  refine wpAny_pure (wpAny_bind (wpAny_bind (wpAny_isInstance (T := "list") (b := false) tb F.sub_list_bytes ?_)))
  simp only [Bool.false_eq_true, if_false]
  refine wpAny_pure (wpAny_bind (wpAny_bind (wpAny_isInstance (T := "list") (b := false) tb sub_list_bytearray ?_)))
  simp only [Bool.false_eq_true, if_false]
  refine wpAny_pure (wpAny_pure ?_)
  refine wpAny_bind (wpAny_newList ?_ (by show 1 ≤ sizeLine; decide))
  have sz : (s.heap.push { cls := .type "list_iterator", data := .fields #[.ref l, .int 0 0] }).objs.size = s.heap.objs.size + 1 := Heap.size_push ..
  have nl : ∀ a o, s.heap.get? a = some o → a ≠ s.heap.objs.size ∧ a ≠ (s.heap.push { cls := .type "list_iterator", data := .fields #[.ref l, .int 0 0] }).objs.size := fun a o q => by
    have := Heap.lt_size q
    rw [sz]
    exact ⟨Nat.ne_of_lt this, Nat.ne_of_lt (Nat.lt_succ_of_lt this)⟩
  have up : ∀ a o, s.heap.get? a = some o → ((s.heap.push { cls := .type "list_iterator", data := .fields #[.ref l, .int 0 0] }).push { cls := .type "list", data := .seq [Value.ref b].toArray }).get? a = some o := fun a o q => Heap.get?_push_of_some _ (Heap.get?_push_of_some _ q)
  refine wpAny_pure ⟨plainId_quiet F.plain_sum_loop _, ?_⟩
  refine sum_lists_loop (l := l) (items := items) (ls := ls) hh hlI ?_ ?_ hn items.size 0 _ b [] 0 nb rfl (Nat.zero_le _) (hit.at fun o q => Heap.get?_push_of_some _ q) (hl2.at fun o q => Heap.get?_push_of_some _ q) (fun i v hi => ?_) (Heap.get?_push_size _ rfl) (up _ _ hb) (nl _ _ hb).1 (nl _ _ hb).2 (by simpa using hz) fun h' tk t' n' kp ht ho => ?_
  · rw [sz]
    exact Nat.ne_of_lt (Nat.lt_succ_of_lt ltl)
  · rw [sz]
    exact Nat.ne_of_lt (Nat.lt_succ_self _)
  · obtain ⟨p, n, xs, e1, e2, e3⟩ := hp i v hi
    exact ⟨p, n, xs, e1, e2, up _ _ e3, (nl _ _ e3).1, (nl _ _ e3).2⟩
  · refine hQ h' tk t' n' (fun a o q => kp a o (nl _ _ q).1 (nl _ _ q).2 (up _ _ q)) ?_ ?_
    · rw [List.drop_zero, List.nil_append] at ht
      exact ht
    · rcases ho with ⟨q1, q2⟩ | q
      · refine .inl ⟨q1, ?_⟩
        have : ls = [] := List.length_eq_zero_iff.mp (by omega)
        rw [this]
        rfl
      · refine .inr (Nat.le_trans ?_ q)
        show s.heap.objs.size ≤ ((s.heap.push _).push _).objs.size
        rw [Heap.size_push, Heap.size_push]
        exact Nat.le_trans (Nat.le_succ _) (Nat.le_succ _)
end

/-- the heap's lists behind the tracked ones -/
theorem parts_of {X : Cx} {pins : List (Addr × Obj)} {σ : L2.St} {H : Hp} {s : Shared} (I : Inv X pins σ H s) : ∀ {ps : List Addr} {xss : List (List V)}, Paired (fun p xs => H p = some (HO.lst xs)) ps xss →
    ∃ ls : List (List Value), ls.length = ps.length ∧ Vals xss.flatten ls.flatten ∧ ∀ (i : Nat) (p : Addr), ps[i]? = some p → ∃ n its, ls[i]? = some its ∧ s.heap.get? p = some { cls := .type "list", data := .seq its.toArray n }
  | _, _, .nil => ⟨[], rfl, .nil, fun i p h => by simp at h⟩
  | _, _, .cons r t => by
    obtain ⟨ls, h1, h2, h3⟩ := parts_of I t
    obtain ⟨z, its, n, rv, _, e⟩ := I.lstM r
    refine ⟨its :: ls, by simp [h1], rv.append h2, fun i p h => ?_⟩
    cases i with
    | zero =>
      simp at h
      subst h
      exact ⟨n, its, rfl, e⟩
    | succ i =>
      rw [List.getElem?_cons_succ] at h
      obtain ⟨m, js, e1, e2⟩ := h3 i p h
      exact ⟨m, js, by rw [List.getElem?_cons_succ]; exact e1, e2⟩
def rSumL (K : PySem.W.Frag) : List V → Hp → VK → Prop := fun vs H Q => ∃ (a b : Addr) (ps : List Addr) (xss : List (List V)), vs = [.ref a, .ref b] ∧ SqL K H a (ps.map V.ref) ∧ Paired (fun p xs => H p = some (HO.lst xs)) ps xss ∧ H b = some (.lst []) ∧ xss.flatten.length ≤ 10000 ∧
  ∀ H' q, Same H H' → (q = b ∨ H q = none) → H' q = some (.lst xss.flatten) → Q (.ref q) H'
theorem refs_of : ∀ {ps : List Addr} {us : List Value}, Vals (ps.map V.ref) us → us = ps.map Value.ref
  | [], _, .nil => rfl
  | p :: ps, _, .cons r t => by
    have r' : _ = Value.ref p := r
    rw [r', refs_of t]
    rfl
theorem cr_sumL {X : Cx} (hc : X.calm = true) : CallR X (.builtin "sum") (rSumL X.K) := by
  intro pins s σ H vs us Q I r h
  obtain ⟨a, b, ps, xss, rfl, hs, hp, hb, hz, q⟩ := h
  cases r with
  | cons ra rb =>
    cases rb with
    | cons rb rn =>
      cases rn
      cases ra
      cases rb
      obtain ⟨its, rv, hl, hzz⟩ := I.list hs
      obtain ⟨ls, h1, h2, h3⟩ := parts_of I hp
      obtain ⟨_, jb, nb, rvb, _, eb⟩ := I.lstM hb
      cases rvb
      have eits := refs_of rv
      have hfl := h2.length
      refine call_sum_lists (I.ok.hd hc) hl.isList (ls := ls) ?_ (fun i v hv => ?_) eb ?_ fun h' tk t' n' kp ht ho => ?_
      · rw [List.size_toArray, eits, List.length_map, h1]
      · rw [List.getElem?_toArray, eits, List.getElem?_map] at hv
        obtain ⟨p, e1, e2⟩ := Option.map_eq_some_iff.mp hv
        obtain ⟨n, js, e3, e4⟩ := h3 i p e1
        exact ⟨p, n, js, e2.symm, e3, e4⟩
      · rw [sizeLine_eq]
        omega
      · have I1 : Inv X pins σ H { s with heap := h', toks := tk } := I.kept kp
        rcases ho with ⟨q1, q2⟩ | q1
        · subst q1
          refine ⟨.ref t', H, I1, rfl, q H t' (Same.refl H) (.inl rfl) ?_⟩
          have : xss.flatten = [] := by
            rw [q2] at hfl
            exact List.length_eq_zero_iff.mp hfl
          rw [this]
          exact hb
        · have nt : H t' = none := I.hok.fresh q1
          exact ⟨.ref t', _, I.laid (o := .lst xss.flatten) (t' := tk) kp q1 ⟨by rw [sizeLine_eq]; omega, _, _, h2, ht⟩, rfl, q _ t' (same_upd nt) (.inr nt) upd_same⟩
end E3

/-! Expressions: is_deep_expression, is_expression, names_within, unlike, names_in, failed. -/
namespace E3
open PySem PySem.Spec PyProof.Rows L2

/-! ### terms as data -/
theorem word_cl : cl (.str "value") = true ∧ cl (.str "name") = true ∧ cl (.str "list") = true ∧ cl (.str "size") = true ∧ ∀ w ∈ pairs, cl (.str w) = true := by decide +kernel
theorem ar_cl {w : Str} {k : Nat} (h : Ar w k) : cl (.str w) = true ∧ k ≤ 4 := by
  rcases h with ⟨h, rfl⟩ | ⟨rfl, h⟩ | ⟨rfl, rfl⟩
  · exact ⟨word_cl.2.2.2.2 w h, by omega⟩
  · exact ⟨word_cl.2.2.1, h⟩
  · exact ⟨word_cl.2.2.2.1, by omega⟩
theorem tok_cl : ∀ (n : Nat) (t : T), TOk n t → cl (toD t) = true ∧ (toD t).depth ≤ n + 6
  | 0, t, h => h.elim
  | n + 1, .val d, h => by
    have h' : isv d = true := h
    have hd := isv_depth h'
    refine ⟨by simp [toD, cl, clAll, isv_cl h', show decide (("value" : Str).length ≤ 200) = true by decide +kernel, show ("value" : Str).cps.toList.all isSign = true by decide +kernel], ?_⟩
    simp only [toD, PyData.depth, PyData.depthAll]
    omega
  | n + 1, .nam x, h => by
    have h' : x ∈ five := h
    have hc := (five_ok x h').2.2
    refine ⟨?_, ?_⟩
    · show (decide (2 ≤ 1000) && (cl (.str "name") && (cl (.str x) && true))) = true
      rw [word_cl.2.1, hc]
      rfl
    · simp only [toD, PyData.depth, PyData.depthAll]
      omega
  | n + 1, .op w ts, h => by
    have h' : Ar w ts.length ∧ ∀ t ∈ ts, TOk n t := h
    have hw := ar_cl h'.1
    have ih : ∀ t ∈ ts, cl (toD t) = true ∧ (toD t).depth ≤ n + 6 := fun t ht => tok_cl n t (h'.2 t ht)
    refine ⟨?_, ?_⟩
    · have c := hw.1
      have ca : clAll (toDs ts) = true := by
        rw [clAll_iff, toDs_map]
        intro x hx
        obtain ⟨t, ht, rfl⟩ := List.mem_map.mp hx
        exact (ih t ht).1
      simp only [toD, cl, clAll, toDs_map, List.length_cons, List.length_map] at c ⊢
      rw [← toDs_map]
      simp only [ca, c, Bool.and_true]
      have := hw.2
      simp only [decide_eq_true_eq]
      omega
    · have : PyData.depthAll (toDs ts) ≤ n + 6 := depthAll_le _ _ fun x hx => by
        rw [toDs_map] at hx
        obtain ⟨t, ht, rfl⟩ := List.mem_map.mp hx
        exact (ih t ht).2
      simp only [toD, PyData.depth, PyData.depthAll]
      omega
theorem shaped_cl {d : PyData} (c : cl d = true) (h : d.depth ≤ 64) : SeqAt.shaped d = true := by
  unfold SeqAt.shaped
  rw [cl_canLay d c, decide_eq_true h]
  rfl
theorem shaped_nil : SeqAt.shaped (.tuple []) = true := by decide
/-- a term's word and parts -/
theorem tok_shape {n : Nat} {t : T} (h : TOk (n + 1) t) : ∃ w ps, toD t = .tuple (.str w :: ps) ∧ ps.length ≤ 4 ∧
    ((∃ d, t = .val d ∧ w = "value" ∧ ps = [d] ∧ isv d = true) ∨ (∃ x, t = .nam x ∧ w = "name" ∧ ps = [.str x] ∧ x ∈ five) ∨ ∃ ts, t = .op w ts ∧ ps = ts.map toD ∧ Ar w ts.length ∧ w ≠ "value" ∧ w ≠ "name" ∧ ∀ t ∈ ts, TOk n t) := by
  cases t with
  | val d => exact ⟨_, _, rfl, by simp, .inl ⟨d, rfl, rfl, rfl, h⟩⟩
  | nam x => exact ⟨_, _, rfl, by simp, .inr (.inl ⟨x, rfl, rfl, rfl, h⟩)⟩
  | op w ts =>
    have h' : Ar w ts.length ∧ ∀ t ∈ ts, TOk n t := h
    refine ⟨w, toDs ts, rfl, by rw [toDs_map, List.length_map]; exact (ar_cl h'.1).2, .inr (.inr ⟨ts, rfl, toDs_map ts, h'.1, ?_, ?_, h'.2⟩)⟩
    · rcases h'.1 with ⟨q, _⟩ | ⟨rfl, _⟩ | ⟨rfl, _⟩
      · intro e
        subst e
        exact absurd q (by decide +kernel)
      · decide +kernel
      · decide +kernel
    · rcases h'.1 with ⟨q, _⟩ | ⟨rfl, _⟩ | ⟨rfl, _⟩
      · intro e
        subst e
        exact absurd q (by decide +kernel)
      · decide +kernel
      · decide +kernel
/-- its heap -/
theorem dp_term {K : PySem.W.Frag} {H : Hp} {v : V} {w : Str} {ps : List PyData} (h : Dp K H v (.tuple (.str w :: ps))) : ∃ a us, v = .ref a ∧ SqT K H a (.str w :: us) ∧ DpAll K H us ps := by
  obtain ⟨a, vs, rfl, hs, ha⟩ := dp_tup h
  cases ha with
  | cons h1 h2 =>
    obtain rfl := dp_str h1
    exact ⟨a, _, rfl, hs, h2⟩
def kLst : Key := Sum.inr ("list" : Str)
def kSiz : Key := Sum.inr ("size" : Str)
theorem dsizes (w : Str) (a b : V) : valV (mergeK [] [(kLst, a), (kSiz, b)]) (Sum.inr w : Key) = if w = "list" then some a else if w = "size" then some b else none := by
  show valV (putK (putK [] kLst a) kSiz b) (Sum.inr w : Key) = _
  unfold kLst kSiz
  rw [valV_put, valV_put, valV_nil]
  by_cases h1 : w = "list"
  · subst h1
    rw [if_pos rfl, if_pos rfl, if_neg]
    intro e
    exact absurd (Sum.inr.inj e) (by decide +kernel)
  · by_cases h2 : w = "size"
    · subst h2
      rw [if_pos rfl, if_neg h1, if_pos rfl]
    · rw [if_neg (fun e => h2 (Sum.inr.inj e)), if_neg (fun e => h1 (Sum.inr.inj e)), if_neg h1, if_neg h2]
theorem inPairs (w : Str) : inV (.str w) (pairs.map V.str) = decide (w ∈ pairs) := by
  have : ∀ l : List Str, inV (.str w) (l.map V.str) = decide (w ∈ l) := by
    intro l
    induction l with
    | nil => rfl
    | cons x l ih =>
      have e : inV (.str w) ((x :: l).map V.str) = ((x == w) || inV (.str w) (l.map V.str)) := rfl
      rw [e, ih, Bool.beq_eq_decide_eq, ← Bool.decide_or]
      exact decide_eq_decide.mpr ⟨fun h => by rcases h with h | h; (subst h; exact List.mem_cons_self); exact List.mem_cons_of_mem _ h, fun h => by rcases List.mem_cons.mp h with h | h; exact .inl h.symm; exact .inr h⟩
  exact this pairs
theorem flatPairs : (pairs.map V.str).all flatV = true := rfl
theorem strEq (a b : Str) : decide (V.str a = V.str b) = decide (a = b) := decide_eq_decide.mpr ⟨fun h => V.str.inj h, fun h => by rw [h]⟩
section
variable {P : Program} {w : World} {K : PySem.W.Frag} {mg : Str → Option Value} {base : Heap}
def spDeep (K : PySem.W.Frag) (n : Nat) : Sp := fun vs H Q _ => ∃ (v : V) (t : T) (k : Nat), vs = [v, .int k] ∧ Dp K H v (toD t) ∧ TOk n t ∧ n ≤ k ∧ n ≤ 8 ∧ ∀ H', Same H H' → Q (.bl true) H'
abbrev sDeep : Stmt := topS 29
theorem scDeep : FnScope ["value", "depth", "word", "parts", "sizes", "part"] ["value", "depth"] (defScope sDeep) := ⟨rfl, rfl, rfl, by decide +kernel, rfl, by decide +kernel, by decide +kernel⟩
theorem ok_deep (D : D0 K mg "is_deep_expression" sDeep ["value", "depth"]) (G : Glo K mg) (cv : C8.Cal P w K mg base 10 "is_value" (spVal K) []) (cn : C8.Cal P w K mg base 2 "is_name" (spTxt K lets 1 12) []) :
    ∀ n, C8.Cal P w K mg base (n + 11) "is_deep_expression" (spDeep K n) []
  | 0 => cal_false D scDeep fun vs H Q E h => by
    obtain ⟨v, t, k, _, _, h, _⟩ := h
    exact h
  | n + 1 => by
    have ih := ok_deep D G cv cn n
    obtain ⟨pa, GP, hP⟩ := G.PAIRS
    refine cal_of D scDeep (fun vs H Q E h => ?_) fun f cdv A outer s H vs Q E hr h => ?_
    · obtain ⟨v, t, k, rfl, _⟩ := h
      rfl
    · obtain ⟨v, t, k, rfl, hd, ht, hk, h8, q⟩ := h
      refine ⟨_, pss_cons (ps_if (PW.pt (pw_or (pt_not (pt_val (pe_isi G.isi G.tuple b_tuple (pv 0)))) (pw_or (pt_cmpR (op_eqD hr.units) (pv 0) (pe_tup pa_nil) (nomark _))
            (pw_or (pt_not (pt_val (pe_isi G.isi G.str b_str (pe_ix ix_tup (pv 0) pe_int (fun _ _ => rfl))))) (pw_or1 (pt_cmpR op_eq (pv 1) pe_int (nomark _))))))) pss_never pss_nil)
        (pss_cons (ps_asg (pv 0) (pg_star rfl (pgs_cons (pg_name (i := 2) scDeep.nd rfl (Or.inl rfl)) (pgs_star (pg_name (i := 3) scDeep.nd rfl (Or.inl rfl)) pgs_nil))))
        (pss_cons (ps_if (pt_cmpR op_eq (pv 2) pe_str (nomark _)) (pss_one (ps_ret (pe_and (pe_cmpR op_eq (pe_callB call_len_seq (by rfl) G.len b_len (pa_cons (pv 3) pa_nil)) pe_int (nomark _)) (pe_one (pe_k cv hr (pa_cons (pe_ix ix_list (pv 3) pe_int (fun _ _ => rfl)) pa_nil)))))) pss_nil)
        (pss_cons (ps_if (pt_cmpR op_eq (pv 2) pe_str (nomark _)) (pss_one (ps_ret (pe_and (pe_cmpR op_eq (pe_callB call_len_seq (by rfl) G.len b_len (pa_cons (pv 3) pa_nil)) pe_int (nomark _)) (pe_one (pe_k cn hr (pa_cons (pe_ix ix_list (pv 3) pe_int (fun _ _ => rfl)) pa_nil)))))) pss_nil)
        (pss_cons (ps_set (i := 4) scDeep.nd rfl (.inl rfl) (pe_disp (pps_cons pe_str (pe_cmpR op_le (pe_callB call_len_seq (by rfl) G.len b_len (pa_cons (pv 3) pa_nil)) (C8.pe_gc (by rfl) G.MAX_PARTS) (nomark _)) (pps_cons pe_str (pe_cmpR op_eq (pe_callB call_len_seq (by rfl) G.len b_len (pa_cons (pv 3) pa_nil)) pe_int (nomark _)) pps_nil)) (by rfl) (by rfl) (fun z => by cases z) (by decide)))
        (pss_cons (ps_if (pt_not (PW.pt (pw_or (PW.pt (pw_and (pt_cmpR op_in_seq (pv 2) (C8.pe_gc (by rfl) GP) (by rfl)) (pw_and1 (pt_cmpR op_eq (pe_callB call_len_seq (by rfl) G.len b_len (pa_cons (pv 3) pa_nil)) pe_int (nomark _)))))
            (pw_or1 (pt_val (pe_dget2 (hu_of hr) (pv 4) (pv 2) pe_bl ⟨by rfl, by rfl, by rfl, by rfl⟩)))))) pss_never pss_nil)
        (pss_one (ps_ret (pe_callB (cr_all rfl) (by rfl) G.all b_all (pa_cons (pe_lc (own := [("part", 5)]) (g := gName 5) (tt := tYes) rfl scDeep.nd (pi_list (pv 3)) (blkOk_by (N := ["value", "depth", "word", "parts", "sizes", "part"]) (sc := defScope sDeep) (by decide +kernel))
              (fun _ _ _ _ _ => pg_name (i := 5) scDeep.nd rfl (Or.inl rfl)) (fun _ _ _ _ _ => pts_nil) (fun _ _ _ _ _ => pe_k ih hr (pa_cons (pv 5) (pa_cons (pe_op op_sub (pv 1) pe_int) pa_nil)))) pa_nil))))))))), ?_⟩
      obtain ⟨ct, dt⟩ := tok_cl (n + 1) t ht
      obtain ⟨wd, ps, et, hl, hcase⟩ := tok_shape ht
      have hd' := hd
      rw [et] at hd'
      obtain ⟨a, us, rfl, hs, ha⟩ := dp_term hd'
      have hul := dps_len ha
      have sh : SeqAt.shaped (toD t) = true := shaped_cl ct (by omega)
      -- the first test
      refine ⟨_, rfl, isi_T hd ct ⟨_, rfl, ?_⟩⟩
      rw [show isT (toD t) = true by rw [et]; rfl]
      refine iteF ⟨_, rfl, Nat.zero_le _, fun p np => ⟨toD t, .tuple [], dp_kt (same_kt (same_upd np)) _ _ ct hd, .tup (.inl (.inl upd_same)) .nil, sh, shaped_nil, _, rfl, ?_⟩⟩
      rw [show PyData.eqv (toD t) (.tuple []) = false by rw [et]; rfl]
      have hs1 : SqT K (upd H p (.tup [])) a (.str wd :: us) := seqT_kt (same_kt (same_upd np)) hs
      refine iteF ⟨_, rfl, a, _, 0, .str wd, rfl, rfl, hs1, atI_nat (j := 0) rfl, isi_S (.str wd) ?_ ⟨_, rfl, iteF ⟨_, rfl, rfl, _, rfl, ite2 (fun e1 => ?_) (fun e1 => ?_)⟩⟩⟩
      · rcases hcase with ⟨d, _, rfl, _⟩ | ⟨x, _, rfl, _⟩ | ⟨ts, _, _, h1, _⟩
        · exact word_cl.1
        · exact word_cl.2.1
        · exact (ar_cl h1).1
      · exfalso
        have := V.int.inj (of_decide_eq_true e1)
        omega
      -- word, *parts = value
      refine ⟨_, rfl, a, .str wd, us, rfl, hs1, by omega, fun L nL => ⟨_, _, rfl, _, _, rfl, rfl, ?_⟩⟩
      have nLH : H L = none := by
        cases e : H L with
        | none => rfl
        | some o => exact nomatch (same_upd np L o e).symm.trans nL
      have s2 : Same H (upd (upd H p (.tup [])) L (.lst us)) := (same_upd np).trans (same_upd nL)
      have hL : SqL K (upd (upd H p (.tup [])) L (.lst us)) L us := .of upd_same
      have ha2 : ∀ i u, us[i]? = some u → ∃ d, ps[i]? = some d ∧ Dp K H u d := fun i u e => dps_get ha e
      refine ⟨_, rfl, rfl, _, rfl, ?_⟩
      rw [strEq]
      refine ite2 (fun ew => ?_) (fun ew => ?_)
      · have ew' : wd = "value" := of_decide_eq_true ew
        rcases hcase with ⟨d, _, _, rfl, hv⟩ | ⟨x, _, e, _⟩ | ⟨ts, _, _, _, e, _⟩
        · cases ha with
          | @cons u _ _ _ hu hn =>
            cases hn
            refine ⟨_, rfl, L, _, rfl, .inl hL, rfl, _, rfl, iteT ⟨_, rfl, L, _, 0, u, rfl, rfl, hL, atI_nat (j := 0) rfl, u, d, rfl, by have := isv_depth hv; omega, dp_kt (same_kt s2) d u (isv_cl hv) hu, isv_cl hv, fun H5 s5 => ?_⟩⟩
            rw [hv]
            exact q H5 (s2.trans s5)
        · exact absurd (ew'.symm.trans e) (by decide +kernel)
        · exact absurd ew' e
      · have ew' : wd ≠ "value" := fun e => ew (decide_eq_true e)
        refine ⟨_, rfl, rfl, _, rfl, ?_⟩
        rw [strEq]
        refine ite2 (fun en => ?_) (fun en => ?_)
        · have en' : wd = "name" := of_decide_eq_true en
          rcases hcase with ⟨d, _, e, _⟩ | ⟨x, _, _, rfl, hx⟩ | ⟨ts, _, _, _, _, e, _⟩
          · exact absurd e ew'
          · cases ha with
            | @cons u _ _ _ hu hn =>
              cases hn
              obtain rfl := dp_str hu
              refine ⟨_, rfl, L, _, rfl, .inl hL, rfl, _, rfl, iteT ⟨_, rfl, L, _, 0, _, rfl, rfl, hL, atI_nat (j := 0) rfl, _, .str x, rfl, .str x, (five_ok x hx).2.2, fun H5 s5 => ?_⟩⟩
              rw [show isWd lets 1 12 (.str x) = true from (five_ok x hx).2.1]
              exact q H5 (s2.trans s5)
          · exact absurd en' e
        · have en' : wd ≠ "name" := fun e => en (decide_eq_true e)
          rcases hcase with ⟨d, _, e, _⟩ | ⟨x, _, e, _⟩ | ⟨ts, _, eps, har, _, _, hts⟩
          · exact absurd e ew'
          · exact absurd e en'
          · have lts : us.length = ts.length := by rw [hul, eps, List.length_map]
            -- sizes = {..}
            refine fun p2 np2 => ?_
            have s3 : Same H (upd (upd (upd H p (.tup [])) L (.lst us)) p2 (.dK [])) := s2.trans (same_upd np2)
            have nLp2 : L ≠ p2 := fun e => by
              rw [e, upd_same] at np2
              cases np2
            have hL3 : ∀ o, SqL K (upd (upd (upd H p (.tup [])) L (.lst us)) p2 o) L us := fun o => .of (by rw [upd_ne nLp2, upd_same])
            refine ⟨_, rfl, L, us, rfl, .inl (hL3 _), _, _, rfl, rfl, _, rfl, L, us, rfl, .inl (hL3 _), rfl, upd_same, [(kLst, .bl (decide (((us.length : Nat) : Int) ≤ 10))), (kSiz, .bl (decide (V.int ((us.length : Nat) : Int) = V.int 1)))], rfl, by simp, ?_⟩
            rw [upd_upd]
            have hsz : ∀ o : HO, Same H (upd (upd (upd H p (.tup [])) L (.lst us)) p2 o) := fun o => s2.trans (same_upd np2)
            generalize hHd : upd (upd (upd H p (.tup [])) L (.lst us)) p2 (.dK (mergeK [] [(kLst, .bl (decide (((us.length : Nat) : Int) ≤ 10))), (kSiz, .bl (decide (V.int ((us.length : Nat) : Int) = V.int 1)))])) = Hd
            have s4 : Same H Hd := hHd ▸ hsz _
            have hL4 : SqL K Hd L us := hHd ▸ hL3 _
            have hp2 : Hd p2 = some (.dK (mergeK [] [(kLst, .bl (decide (((us.length : Nat) : Int) ≤ 10))), (kSiz, .bl (decide (V.int ((us.length : Nat) : Int) = V.int 1)))])) := by
              rw [← hHd, upd_same]
            -- behind the second test
            have last : tRet (tCB (rAll K) (tCons (tLc (iList K (tVar 3)) (gName 5) tYes (tCall (spDeep K n) [] E0 (tCons (tVar 5) (tCons (tOp (rI0 fun i j => V.int (i - j)) (tVar 1) (tC (V.int 1))) tNil))) ([(("part" : Str), 5)].map (·.2))) tNil))
                { nx := fun _ H' => Q V.non H', rt := Q } [some (.ref a), some (.int k), some (.str wd), some (.ref L), some (.ref p2), none] Hd := by
              refine ⟨_, rfl, L, rfl, ⟨us, hL4⟩, fun D nD => ?_⟩
              refine lc_pure (walk_list (xs := us)) (fun _ => .bl true) nD (by omega) (fun H1 s1 => s1.seq hL4) (fun i x H1 H' hi s1 y => ?_) fun H1 s1 e => ?_
              · obtain ⟨rfl, ei⟩ := y
                obtain ⟨dx, ex, hdx⟩ := ha2 i x ei
                rw [eps, List.getElem?_map] at ex
                obtain ⟨tx, etx, rfl⟩ := Option.map_eq_some_iff.mp ex
                have mt := List.mem_of_getElem? etx
                have hx := hts tx mt
                obtain ⟨m, rfl⟩ : ∃ m, k = m + 1 := ⟨k - 1, by omega⟩
                refine ⟨Same.refl _, fun R hR => ⟨rfl, _, rfl, _, rfl, _, _, rfl, rfl, x, tx, m, ?_, dp_kt (same_kt (s4.trans s1)) _ x (tok_cl n tx hx).1 hdx, hx, by omega, by omega, fun H4 s5 => hR H4 s5⟩⟩
                show [x, V.int (((m + 1 : Nat) : Int) - 1)] = [x, V.int m]
                rw [show ((m + 1 : Nat) : Int) - 1 = m by omega]
              · refine ⟨D, (List.range us.length).map fun _ => true, rfl, .of (by rw [e, List.map_map]; rfl), ?_⟩
                rw [all_true]
                exact q H1 (s4.trans s1)
            refine ⟨_, rfl, pa, _, rfl, .inr (hP _), rfl, flatPairs, _, rfl, ?_⟩
            rw [inPairs]
            rcases har with ⟨hw, h2⟩ | ⟨rfl, h4⟩ | ⟨rfl, h1⟩
            · refine ite2 (fun _ => ?_) (fun z => absurd (decide_eq_true hw) z)
              refine ⟨_, rfl, L, us, rfl, .inl hL4, rfl, _, rfl, ?_⟩
              rw [lts, h2]
              exact last
            · refine ite2 (fun z => absurd z (by decide +kernel)) (fun _ => ?_)
              refine ⟨_, rfl, p2, rfl, .inl ⟨_, .inl hp2⟩, _, rfl, _, DGet.k (k := (Sum.inr ("list" : Str) : Key)) hp2, ?_⟩
              rw [dsizes, if_pos rfl]
              refine ⟨_, rfl, ?_⟩
              rw [show decide (((us.length : Nat) : Int) ≤ 10) = true from decide_eq_true (by omega)]
              exact last
            · refine ite2 (fun z => absurd z (by decide +kernel)) (fun _ => ?_)
              refine ⟨_, rfl, p2, rfl, .inl ⟨_, .inl hp2⟩, _, rfl, _, DGet.k (k := (Sum.inr ("size" : Str) : Key)) hp2, ?_⟩
              rw [dsizes, if_neg (by decide +kernel), if_pos rfl]
              refine ⟨_, rfl, ?_⟩
              rw [show decide (V.int ((us.length : Nat) : Int) = V.int 1) = true from decide_eq_true (by rw [lts, h1]; rfl)]
              exact last
end
end E3

/-! is_expression, names_within, unlike, names_in. -/
namespace E3
open PySem PySem.Spec PyProof.Rows L2

/-! ### the names, once each -/
def st1 (acc : List Str) (n : Str) : List Str := if n ∈ acc then acc else acc ++ [n]
def uq (ns : List Str) : List Str := ns.foldl st1 []
def ent (n : Str) : Key × V := (Sum.inr n, .bl true)
theorem put_ent (acc : List Str) (n : Str) : putK (acc.map ent) (Sum.inr n) (.bl true) = (st1 acc n).map ent := by
  unfold putK st1
  have e : ((acc.map ent).any fun kv => decide (kv.1 = (Sum.inr n : Key))) = decide (n ∈ acc) := by
    induction acc with
    | nil => rfl
    | cons x l ih =>
      rw [List.map_cons, List.any_cons, ih, ← Bool.decide_or]
      refine decide_eq_decide.mpr ⟨fun h => ?_, fun h => ?_⟩
      · rcases h with h | h
        · rw [Sum.inr.inj h]
          exact List.mem_cons_self
        · exact List.mem_cons_of_mem _ h
      · rcases List.mem_cons.mp h with h | h
        · left
          rw [h]
          rfl
        · exact .inr h
  rw [e]
  by_cases h : n ∈ acc
  · rw [if_pos (decide_eq_true h), if_pos h, List.map_map]
    apply List.map_congr_left
    intro x _
    show (if (Sum.inr x : Key) = Sum.inr n then ((Sum.inr x : Key), V.bl true) else (Sum.inr x, V.bl true)) = (Sum.inr x, V.bl true)
    split <;> rfl
  · rw [if_neg (fun z => h (of_decide_eq_true z)), if_neg h, List.map_append]
    rfl
theorem st1_len (acc : List Str) (n : Str) : (st1 acc n).length ≤ acc.length + 1 := by
  unfold st1
  split
  · omega
  · simp
theorem uq_take {ns : List Str} {i : Nat} {n : Str} (h : ns[i]? = some n) : uq (ns.take (i + 1)) = st1 (uq (ns.take i)) n := by
  unfold uq
  rw [List.take_add_one, h, List.foldl_append]
  rfl
theorem uq_len (ns : List Str) : (uq ns).length ≤ ns.length := by
  have : ∀ (l acc : List Str), (l.foldl st1 acc).length ≤ acc.length + l.length := by
    intro l
    induction l with
    | nil => intro acc; simp
    | cons x l ih =>
      intro acc
      have h1 := ih (st1 acc x)
      have h2 := st1_len acc x
      simp only [List.foldl_cons, List.length_cons]
      omega
  have := this ns []
  simpa [uq] using this
theorem merge_ent (ns : List Str) : mergeK [] (ns.map ent) = (uq ns).map ent := by
  have : ∀ (l acc : List Str), mergeK (acc.map ent) (l.map ent) = (l.foldl st1 acc).map ent := by
    intro l
    induction l with
    | nil => intro acc; rfl
    | cons x l ih =>
      intro acc
      show mergeK (putK (acc.map ent) (Sum.inr x) (.bl true)) (l.map ent) = _
      rw [put_ent, ih]
      rfl
  exact this ns []
theorem keys_ent (l : List Str) : ((l.map ent).map fun kv => kV kv.1) = l.map V.str := by
  rw [List.map_map]
  rfl
theorem nms_len : ∀ (n : Nat) (t : T), TOk n t → (nms t).length ≤ 4 ^ n
  | 0, _, h => h.elim
  | n + 1, .val _, _ => Nat.zero_le _
  | n + 1, .nam _, _ => Nat.one_le_pow _ _ (by decide)
  | n + 1, .op w ts, h => by
    have h' : Ar w ts.length ∧ ∀ t ∈ ts, TOk n t := h
    have hl := (ar_cl h'.1).2
    have : ∀ us : List T, (∀ t ∈ us, TOk n t) → (nmsAll us).length ≤ us.length * 4 ^ n := by
      intro us
      induction us with
      | nil => intro _; simp [nmsAll]
      | cons u us ih =>
        intro hu
        have h1 := nms_len n u (hu u List.mem_cons_self)
        have h2 := ih fun t ht => hu t (List.mem_cons_of_mem _ ht)
        simp only [nmsAll, List.length_append, List.length_cons, Nat.succ_mul]
        omega
    have h1 := this ts h'.2
    have h2 : ts.length * 4 ^ n ≤ 4 * 4 ^ n := Nat.mul_le_mul_right _ hl
    show (nmsAll ts).length ≤ 4 ^ n * 4
    omega
theorem paired_snoc {α β : Type} {F : α → β → Prop} : ∀ {l : List α} {m : List β} {a : α} {b : β}, Paired F l m → F a b → Paired F (l ++ [a]) (m ++ [b])
  | _, _, _, _, .nil, h => .cons h .nil
  | _, _, _, _, .cons r t, h => .cons r (paired_snoc t h)
section
variable {J : It} {n : Nat} {G : Hp → Prop} {Y : Nat → Hp → V → Hp → Prop}
/-- a list comprehension without a test over a walk -/
theorem lc_yes (w : Walk J n G Y) {g : TG} {te : TE} {vs : List Nat} {σ : L2.St} {H1 : Hp} {D : Addr} {Qd : Hp → Prop} (Pv : Nat → Hp → Prop) (h0 : Pv 0 (upd H1 D (.lst []))) (hG : ∀ i H, i ≤ n → Pv i H → G H)
    (hs : ∀ i x H H', i < n → Pv i H → Y i H x H' → g x (wipe σ vs) H' fun σ2 H2 => wipe σ2 vs = wipe σ vs ∧ te σ2 H2 fun y H4 => ∃ acc, H4 D = some (.lst acc) ∧ acc.length < sizeLine ∧ Pv (i + 1) (upd H4 D (.lst (acc ++ [y]))))
    (hd : ∀ H, Pv n H → Qd H) :
    ∃ W : Nat → Nat → Hp → Prop, (∃ m, W 0 m (upd H1 D (.lst []))) ∧ ∀ i m H, W i m H →
      (J.stop i H ∧ Qd H) ∨ (J.go i H ∧ ∃ Nx : Hp → Prop, (∀ H', Nx H' → ∃ m', m' < m ∧ W (i + 1) m' H') ∧ ∀ x H', J.yld i H x H' → g x (wipe σ vs) H' fun σ2 H2 => wipe σ2 vs = wipe σ vs ∧ tYes σ2 H2 fun b H3 =>
        if b = true then te σ2 H3 fun y H4 => ∃ acc, H4 D = some (.lst acc) ∧ acc.length < sizeLine ∧ Nx (upd H4 D (.lst (acc ++ [y]))) else Nx H3) := by
  refine lc_it w Pv h0 hG (fun i x H H' hi p y => ?_) hd
  have e : ∀ A B : Prop, (if true = true then A else B) = A := fun A B => if_pos rfl
  simp only [tYes, e]
  exact hs i x H H' hi p y
/-- a dict comprehension over a walk -/
theorem dc_it (w : Walk J n G Y) {g : TG} {tk tv : TE} {vs : List Nat} {σ : L2.St} {H1 : Hp} {D : Addr} {Qd : Hp → Prop} (Pv : Nat → Hp → Prop) (h0 : Pv 0 (upd H1 D (.dK []))) (hG : ∀ i H, i ≤ n → Pv i H → G H)
    (hs : ∀ i x H H', i < n → Pv i H → Y i H x H' → g x (wipe σ vs) H' fun σ2 H2 => wipe σ2 vs = wipe σ vs ∧ tk σ2 H2 fun y H4 => tv σ2 H4 fun z H5 => ∃ kvs k, y = kV k ∧ H5 D = some (.dK kvs) ∧ kvs.length < sizeLine ∧ Pv (i + 1) (upd H5 D (.dK (putK kvs k z))))
    (hd : ∀ H, Pv n H → Qd H) :
    ∃ W : Nat → Nat → Hp → Prop, (∃ m, W 0 m (upd H1 D (.dK []))) ∧ ∀ i m H, W i m H →
      (J.stop i H ∧ Qd H) ∨ (J.go i H ∧ ∃ Nx : Hp → Prop, (∀ H', Nx H' → ∃ m', m' < m ∧ W (i + 1) m' H') ∧ ∀ x H', J.yld i H x H' → g x (wipe σ vs) H' fun σ2 H2 => wipe σ2 vs = wipe σ vs ∧ tYes σ2 H2 fun b H3 =>
        if b = true then tk σ2 H3 fun y H4 => tv σ2 H4 fun z H5 => ∃ kvs k, y = kV k ∧ H5 D = some (.dK kvs) ∧ kvs.length < sizeLine ∧ Nx (upd H5 D (.dK (putK kvs k z))) else Nx H3) := by
  refine ⟨fun i m H => m = n - i ∧ i ≤ n ∧ Pv i H, ⟨n, rfl, Nat.zero_le _, h0⟩, fun i m H hW => ?_⟩
  obtain ⟨em, hi, p⟩ := hW
  have q := hG i H hi p
  have e : ∀ A B : Prop, (if true = true then A else B) = A := fun A B => if_pos rfl
  by_cases hlt : i < n
  · refine .inr ⟨w.goes i H hlt q, Pv (i + 1), fun H' p' => ⟨n - (i + 1), by omega, rfl, hlt, p'⟩, fun x H' y => ?_⟩
    simp only [tYes, e]
    exact hs i x H H' hlt p (w.yields i H x H' hlt q y)
  · have ei : i = n := by omega
    subst ei
    exact .inl ⟨w.stops H q, hd H p⟩
end
section
variable {P : Program} {w : World} {K : PySem.W.Frag} {mg : Str → Option Value} {base : Heap}
def spIex (K : PySem.W.Frag) : Sp := fun vs H Q _ => ∃ (v : V) (t : T), vs = [v] ∧ Dp K H v (toD t) ∧ TOk 5 t ∧ ∀ H', Same H H' → Q (.bl true) H'
abbrev sIex : Stmt := topS 30
theorem scIex : FnScope ["value"] ["value"] (defScope sIex) := ⟨rfl, rfl, rfl, by decide +kernel, rfl, by decide +kernel, by decide +kernel⟩
theorem ok_iex (D : D0 K mg "is_expression" sIex ["value"]) (G : Glo K mg) (cd : C8.Cal P w K mg base 16 "is_deep_expression" (spDeep K 5) []) : C8.Cal P w K mg base 17 "is_expression" (spIex K) [] := by
  refine cal_of D scIex (fun vs H Q E h => ?_) fun f cdv A outer s H vs Q E hr h => ?_
  · obtain ⟨v, t, rfl, _⟩ := h
    rfl
  · obtain ⟨v, t, rfl, hd, ht, q⟩ := h
    refine ⟨_, pss_one (ps_ret (pe_k cd hr (pa_cons (pv 0) (pa_cons (C8.pe_gc (by rfl) G.MAX_DEPTH) pa_nil)))), ?_⟩
    exact ⟨v, rfl, v, t, 8, rfl, hd, ht, by decide, by decide, q⟩

/-! ### names_within -/
def spNms (K : PySem.W.Frag) (n : Nat) : Sp := fun vs H Q _ => ∃ (v : V) (t : T), vs = [v] ∧ Dp K H v (toD t) ∧ TOk n t ∧ n ≤ 5 ∧ ∀ H' p, Same H H' → H p = none → H' p = some (.lst ((nms t).map V.str)) → Q (.ref p) H'
abbrev sNms : Stmt := topS 31
theorem scNms : FnScope ["expression", "word", "parts", "part"] ["expression"] (defScope sNms) := ⟨rfl, rfl, rfl, by decide +kernel, rfl, by decide +kernel, by decide +kernel⟩
theorem same_none {H H' : Hp} {p : Addr} (s : Same H H') (h : H' p = none) : H p = none := by
  cases e : H p with
  | none => rfl
  | some o => exact nomatch (s p o e).symm.trans h
theorem ok_nms (D : D0 K mg "names_within" sNms ["expression"]) (G : Glo K mg) : ∀ n, C8.Cal P w K mg base (n + 1) "names_within" (spNms K n) []
  | 0 => cal_false D scNms fun vs H Q E h => by
    obtain ⟨v, t, _, _, h, _⟩ := h
    exact h
  | n + 1 => by
    have ih := ok_nms D G n
    refine cal_of D scNms (fun vs H Q E h => ?_) fun f cdv A outer s H vs Q E hr h => ?_
    · obtain ⟨v, t, rfl, _⟩ := h
      rfl
    · obtain ⟨v, t, rfl, hd, ht, h5, q⟩ := h
      refine ⟨_, pss_cons (ps_asg (pv 0) (pg_star rfl (pgs_cons (pg_name (i := 1) scNms.nd rfl (Or.inl rfl)) (pgs_star (pg_name (i := 2) scNms.nd rfl (Or.inl rfl)) pgs_nil))))
        (pss_cons (ps_if (pt_cmpR op_eq (pv 1) pe_str (nomark _)) (pss_one (ps_ret (pe_lst pa_nil))) pss_nil)
        (pss_cons (ps_if (pt_cmpR op_eq (pv 1) pe_str (nomark _)) (pss_one (ps_ret (pv 2))) pss_nil)
        (pss_one (ps_ret (pe_callB (cr_sumL rfl) (by rfl) G.sum b_sum (pa_cons (pe_lc (own := [("part", 3)]) (g := gName 3) (tt := tYes) rfl scNms.nd (pi_list (pv 2)) (blkOk_by (N := ["expression", "word", "parts", "part"]) (sc := defScope sNms) (by decide +kernel))
              (fun _ _ _ _ _ => pg_name (i := 3) scNms.nd rfl (Or.inl rfl)) (fun _ _ _ _ _ => pts_nil) (fun _ _ _ _ _ => pe_k ih hr (pa_cons (pv 3) pa_nil))) (pa_cons (pe_lst pa_nil) pa_nil))))))), ?_⟩
      obtain ⟨wd, ps, et, hl, hcase⟩ := tok_shape ht
      rw [et] at hd
      obtain ⟨a, us, rfl, hs, ha⟩ := dp_term hd
      have hul := dps_len ha
      refine ⟨_, rfl, a, .str wd, us, rfl, hs, by omega, fun L nL => ⟨_, _, rfl, _, _, rfl, rfl, ?_⟩⟩
      have s1 : Same H (upd H L (.lst us)) := same_upd nL
      refine ⟨_, rfl, rfl, _, rfl, ?_⟩
      rw [strEq]
      refine ite2 (fun ew => ?_) (fun ew => ?_)
      · have ew' : wd = "value" := of_decide_eq_true ew
        rcases hcase with ⟨d, rfl, _⟩ | ⟨x, _, e, _⟩ | ⟨ts, _, _, _, e, _⟩
        · exact ⟨Nat.zero_le _, fun p np => q _ p (s1.trans (same_upd np)) (same_none s1 np) upd_same⟩
        · exact absurd (ew'.symm.trans e) (by decide +kernel)
        · exact absurd ew' e
      · have ew' : wd ≠ "value" := fun e => ew (decide_eq_true e)
        refine ⟨_, rfl, rfl, _, rfl, ?_⟩
        rw [strEq]
        refine ite2 (fun en => ?_) (fun en => ?_)
        · have en' : wd = "name" := of_decide_eq_true en
          rcases hcase with ⟨d, _, e, _⟩ | ⟨x, rfl, _, rfl, hx⟩ | ⟨ts, _, _, _, _, e, _⟩
          · exact absurd e ew'
          · cases ha with
            | @cons u _ _ _ hu hn =>
              cases hn
              obtain rfl := dp_str hu
              exact ⟨_, rfl, q _ L s1 nL upd_same⟩
          · exact absurd en' e
        · have en' : wd ≠ "name" := fun e => en (decide_eq_true e)
          rcases hcase with ⟨d, _, e, _⟩ | ⟨x, _, e, _⟩ | ⟨ts, rfl, eps, har, _, _, hts⟩
          · exact absurd e ew'
          · exact absurd e en'
          · have lts : us.length = ts.length := by rw [hul, eps, List.length_map]
            have h4 := (ar_cl har).2
            refine ⟨_, rfl, L, rfl, ⟨us, .of upd_same⟩, fun D nD => ?_⟩
            have nDL : D ≠ L := fun e => by
              rw [e, upd_same] at nD
              cases nD
            refine lc_yes (walk_list (xs := us)) (fun i H1 => Same (upd H L (.lst us)) H1 ∧ ∃ qs : List Addr, H1 D = some (.lst (qs.map V.ref)) ∧ qs.length = i ∧ Paired (fun p xs => H1 p = some (HO.lst xs) ∧ p ≠ D) qs ((ts.take i).map fun t => (nms t).map V.str))
              ⟨same_upd nD, [], by rw [upd_same]; rfl, rfl, .nil⟩ (fun i H1 _ p => p.1.seq (.of upd_same)) (fun i x H1 H' hi p y => ?_) fun H1 p => ?_
            · obtain ⟨sm, qs, eD, lq, pr⟩ := p
              obtain ⟨rfl, ei⟩ := y
              obtain ⟨dx, ex, hdx⟩ := dps_get ha ei
              rw [eps, List.getElem?_map] at ex
              obtain ⟨tx, etx, rfl⟩ := Option.map_eq_some_iff.mp ex
              have hx := hts tx (List.mem_of_getElem? etx)
              refine ⟨rfl, _, rfl, x, tx, rfl, dp_kt (same_kt (s1.trans sm)) _ x (tok_cl n tx hx).1 hdx, hx, by omega, fun H4 p s4 np ep => ?_⟩
              have npD : p ≠ D := fun e => by
                rw [e, eD] at np
                cases np
              refine ⟨_, s4 _ _ eD, ?_, same_set (sm.trans s4) nD, qs ++ [p], ?_, by simp [lq], ?_⟩
              · rw [List.length_map, lq]
                exact small1000 (by omega)
              · rw [upd_same, List.map_append]
                rfl
              · rw [List.take_add_one, etx, List.map_append]
                refine paired_snoc (Paired.mapP pr fun b xs hb => ⟨?_, hb.2⟩) ⟨?_, npD⟩
                · rw [upd_ne hb.2]
                  exact s4 _ _ hb.1
                · rw [upd_ne npD]
                  exact ep
            · obtain ⟨sm, qs, eD, lq, pr⟩ := p
              rw [lts, List.take_length] at pr
              have fl : (ts.map fun t => (nms t).map V.str).flatten = (nmsAll ts).map V.str := by
                rw [nmsAll_flat, List.map_flatten, List.map_map]
                rfl
              refine ⟨Nat.zero_le _, fun b nb => ?_⟩
              refine ⟨D, b, qs, _, rfl, .of ((same_upd nb) _ _ eD), Paired.mapP pr fun p xs hp => (same_upd nb) _ _ hp.1, upd_same, ?_, fun H2 r s2 hr2 er => ?_⟩
              · rw [fl, List.length_map]
                have h1 := nms_len (n + 1) (.op wd ts) ht
                have h2 : 4 ^ (n + 1) ≤ 4 ^ 5 := Nat.pow_le_pow_right (by decide) h5
                have h3 : (4 : Nat) ^ 5 = 1024 := by decide
                show (nms (.op wd ts)).length ≤ 10000
                omega
              · rw [fl] at er
                have sH1 : Same H H1 := s1.trans sm
                have sHb := sH1.trans (same_upd (o := .lst []) nb)
                refine q H2 r (sHb.trans s2) ?_ er
                rcases hr2 with e | e
                · rw [e]
                  exact same_none sH1 nb
                · exact same_none sHb e

/-! ### unlike, names_in -/
def spUnl (K : PySem.W.Frag) : Sp := fun vs H Q _ => ∃ (p : Addr) (ns : List Str), vs = [.ref p] ∧ SqL K H p (ns.map V.str) ∧ ns.length ≤ 10000 ∧ ∀ H' q, Same H H' → H' q = some (.lst ((uq ns).map V.str)) → Q (.ref q) H'
abbrev sUnl : Stmt := topS 32
theorem scUnl : FnScope ["names", "name"] ["names"] (defScope sUnl) := ⟨rfl, rfl, rfl, by decide +kernel, rfl, by decide +kernel, by decide +kernel⟩
theorem ok_unl (D : D0 K mg "unlike" sUnl ["names"]) (G : Glo K mg) : C8.Cal P w K mg base 1 "unlike" (spUnl K) [] := by
  refine cal_of D scUnl (fun vs H Q E h => ?_) fun f cdv A outer s H vs Q E hr h => ?_
  · obtain ⟨p, ns, rfl, _⟩ := h
    rfl
  · obtain ⟨p, ns, rfl, hs, hl, q⟩ := h
    refine ⟨_, pss_one (ps_ret (pe_callTy (call_list_dK rfl) (by rfl) G.list b_list (pa_cons (pe_dc (own := [("name", 1)]) (g := gName 1) (tt := tYes) rfl scUnl.nd (pi_list (pv 0)) (blkOk_by (N := ["names", "name"]) (sc := defScope sUnl) (by decide +kernel))
              (fun _ _ _ _ _ => pg_name (i := 1) scUnl.nd rfl (Or.inl rfl)) (fun _ _ _ _ _ => pts_nil) (fun _ _ _ _ _ => pv 1) (fun _ _ _ _ _ => pe_bl)) pa_nil))), ?_⟩
    refine ⟨_, rfl, p, rfl, ⟨_, hs⟩, fun D nD => ?_⟩
    refine dc_it (walk_list (xs := ns.map V.str)) (fun i H1 => Same H H1 ∧ H1 D = some (.dK ((uq (ns.take i)).map ent))) ⟨same_upd nD, by rw [upd_same]; rfl⟩ (fun i H1 _ p => p.1.seq hs) (fun i x H1 H' hi p y => ?_) fun H1 p => ?_
    · obtain ⟨rfl, ei⟩ := y
      rw [List.getElem?_map] at ei
      obtain ⟨nm, en, rfl⟩ := Option.map_eq_some_iff.mp ei
      refine ⟨rfl, _, rfl, _, Sum.inr nm, rfl, p.2, ?_, same_set p.1 nD, ?_⟩
      · rw [List.length_map]
        have h1 := uq_len (ns.take i)
        rw [List.length_take] at h1
        have : (10001 : Nat) < sizeLine := by decide
        omega
      · rw [upd_same, put_ent, uq_take en]
    · obtain ⟨sm, eD⟩ := p
      rw [List.length_map, List.take_length] at eD
      refine ⟨D, _, rfl, eD, fun r nr => ?_⟩
      rw [keys_ent]
      exact q _ r (sm.trans (same_upd nr)) upd_same

def spNin (K : PySem.W.Frag) : Sp := fun vs H Q _ => ∃ (v : V) (t : T), vs = [v] ∧ Dp K H v (toD t) ∧ TOk 5 t ∧ ∀ H' q, Same H H' → H' q = some (.lst ((uq (nms t)).map V.str)) → Q (.ref q) H'
abbrev sNin : Stmt := topS 33
theorem scNin : FnScope ["expression"] ["expression"] (defScope sNin) := ⟨rfl, rfl, rfl, by decide +kernel, rfl, by decide +kernel, by decide +kernel⟩
theorem ok_nin (D : D0 K mg "names_in" sNin ["expression"]) (G : Glo K mg) (ci : C8.Cal P w K mg base 17 "is_expression" (spIex K) []) (cn : C8.Cal P w K mg base 6 "names_within" (spNms K 5) []) (cu : C8.Cal P w K mg base 1 "unlike" (spUnl K) []) :
    C8.Cal P w K mg base 18 "names_in" (spNin K) [] := by
  refine cal_of D scNin (fun vs H Q E h => ?_) fun f cdv A outer s H vs Q E hr h => ?_
  · obtain ⟨v, t, rfl, _⟩ := h
    rfl
  · obtain ⟨v, t, rfl, hd, ht, q⟩ := h
    refine ⟨_, pss_cons (ps_if (pt_not (pt_val (pe_k ci hr (pa_cons (pv 0) pa_nil)))) (pss_one ps_never) pss_nil) (pss_one (ps_ret (pe_k cu hr (pa_cons (pe_k cn hr (pa_cons (pv 0) pa_nil)) pa_nil)))), ?_⟩
    refine ⟨v, rfl, v, t, rfl, hd, ht, fun H1 s1 => ⟨_, rfl, iteF ⟨v, rfl, v, t, rfl, dp_kt (same_kt s1) _ v (tok_cl 5 t ht).1 hd, ht, by decide, fun H2 p s2 np ep => ?_⟩⟩⟩
    refine ⟨p, nms t, rfl, .of ep, ?_, fun H3 r s3 er => q H3 r ((s1.trans s2).trans s3) er⟩
    have h1 := nms_len 5 t ht
    have h3 : (4 : Nat) ^ 5 = 1024 := by decide
    omega
end
end E3

/-! What results are: plain mathematics. -/
namespace E3
open PySem L2
theorem isv_int {i : Int} (h : isv (.int i) = true) : i.natAbs < 2 ^ 200 := by
  simp only [isv, wl, Bool.and_eq_true, decide_eq_true_eq] at h
  have e : big < 2 ^ 200 := by decide +kernel
  have e2 : -(2 ^ 200 : Int) < -big := by decide +kernel
  have h1 := Int.lt_trans h.1.2 e
  have h2 := Int.lt_trans e2 h.1.1
  omega
theorem isv_str {z : Str} (h : isv (.str z) = true) : z.length ≤ 60 ∧ z.cps.toList.all isSign = true ∧ txtOk z = true := by
  simp only [isv, wl, Bool.and_eq_true] at h
  have h' := h.1
  simp only [txtOk, wordOk, Bool.and_eq_true, decide_eq_true_eq] at h'
  exact ⟨h'.2.1, h'.2.2, h.1⟩
theorem isv_tup {xs : List PyData} (h : isv (.tuple xs) = true) : xs.length ≤ 50 ∧ ∀ x ∈ xs, cl x = true ∧ x.depth ≤ 4 := by
  simp only [isv, wl, Bool.and_eq_true, decide_eq_true_eq, List.all_eq_true] at h
  exact ⟨h.1.1, fun x hx => ⟨wl_cl 4 x (h.1.2 x hx), wl_depth 4 x (h.1.2 x hx)⟩⟩
theorem cl_tup {xs : List PyData} (h1 : xs.length ≤ 1000) (h2 : ∀ x ∈ xs, cl x = true) : cl (.tuple xs) = true := by
  simp only [cl, Bool.and_eq_true, decide_eq_true_eq, clAll_iff]
  exact ⟨h1, h2⟩
theorem str_app_len (x y : Str) : (x ++ y).length = x.length + y.length := by
  show (x.cps ++ y.cps).size = _
  rw [Array.size_append]
  rfl
theorem str_app_all (x y : Str) (f : Nat → Bool) : (x ++ y).cps.toList.all f = (x.cps.toList.all f && y.cps.toList.all f) := by
  show (x.cps ++ y.cps).toList.all f = _
  rw [Array.toList_append, List.all_append]
theorem cl_app {x y : Str} (hx : isv (.str x) = true) (hy : isv (.str y) = true) : cl (.str (x ++ y)) = true := by
  obtain ⟨a, b, _⟩ := isv_str hx
  obtain ⟨c, d, _⟩ := isv_str hy
  simp only [cl, Bool.and_eq_true, decide_eq_true_eq, str_app_all, str_app_len]
  exact ⟨by omega, b, d⟩
def Good (r : R) : Prop := ∀ d, r = .ok d → cl d = true ∧ d.depth < 8
theorem good_no (r : Str) : Good (.no r) := fun d h => nomatch h
theorem good_int (i : Int) : Good (.ok (.int i)) := fun d h => by
  cases h
  exact ⟨rfl, by simp [PyData.depth]⟩
theorem good_num (w : Str) (i j : Int) : Good (num w i j) := by
  unfold num
  split
  · split
    · exact good_no _
    · exact good_int _
  · split
    · exact good_int _
    · split
      · exact good_int _
      · split
        · exact good_int _
        · exact good_int _
theorem good_numOf (w : Str) (a b : PyData) : Good (numOf w a b) := by
  unfold numOf
  split
  · exact good_num _ _ _
  · exact good_no _
theorem depth_tup {xs : List PyData} {n : Nat} (h : ∀ x ∈ xs, x.depth ≤ n) : (PyData.tuple xs).depth ≤ n + 1 := by
  have := depthAll_le xs n h
  simp only [PyData.depth]
  omega
theorem good_joinOf {a b : PyData} (ha : isv a = true) (hb : isv b = true) : Good (joinOf a b) := by
  unfold joinOf
  split
  · intro d h
    cases h
    exact ⟨cl_app ha hb, by simp [PyData.depth]⟩
  · intro d h
    cases h
    obtain ⟨l1, h1⟩ := isv_tup ha
    obtain ⟨l2, h2⟩ := isv_tup hb
    have h3 : ∀ x ∈ _ ++ _, cl x = true ∧ x.depth ≤ 4 := fun x hx => by
      rcases List.mem_append.mp hx with q | q
      · exact h1 x q
      · exact h2 x q
    refine ⟨cl_tup (by rw [List.length_append]; omega) fun x hx => (h3 x hx).1, ?_⟩
    have := depth_tup fun x hx => (h3 x hx).2
    omega
  · exact good_no _
theorem getD_in {xs : List PyData} {i : Nat} (h : i < xs.length) : xs.getD i .none ∈ xs := by
  rw [List.getD_eq_getElem?_getD, List.getElem?_eq_getElem h]
  exact List.getElem_mem h
theorem good_itemOf {a b : PyData} (ha : isv a = true) : Good (itemOf a b) := by
  unfold itemOf
  split
  · rename_i xs i
    split
    · intro d h
      cases h
      obtain ⟨l1, h1⟩ := isv_tup ha
      have q := h1 _ (getD_in (xs := xs) (i := i.toNat) (by omega))
      exact ⟨q.1, by omega⟩
    · exact good_no _
  · exact good_no _
theorem good_pairOf {w : Str} {a b : PyData} (ha : isv a = true) (hb : isv b = true) : Good (pairOf w a b) := by
  unfold pairOf
  split
  · exact good_int _
  · split
    · exact good_joinOf ha hb
    · split
      · exact good_itemOf ha
      · exact good_numOf _ _ _
theorem good_sizeOf (a : PyData) : Good (sizeOf a) := by
  unfold sizeOf
  split
  · exact good_int _
  · exact good_int _
  · exact good_no _
theorem good_comb {w : Str} {ds : List PyData} (h : Ar w ds.length) (hd : ∀ d ∈ ds, isv d = true) : Good (comb w ds) := by
  unfold comb
  split
  · intro d e
    cases e
    have l := (ar_cl h).2
    refine ⟨cl_tup (by omega) fun x hx => isv_cl (hd x hx), ?_⟩
    have := depth_tup fun x hx => isv_depth (hd x hx)
    omega
  · split
    · exact good_sizeOf _
    · rcases h with ⟨_, h⟩ | ⟨h, _⟩ | ⟨h, _⟩
      · match ds, h with
        | [a, b], _ => exact good_pairOf (hd a (by simp)) (hd b (by simp))
      · exact absurd h (by assumption)
      · exact absurd h (by assumption)
theorem chk_isv {r : R} {d : PyData} (h : chk r = .ok d) : isv d = true := by
  unfold chk at h
  split at h
  · split at h
    · cases h
      assumption
    · cases h
  · cases h
theorem res_isv {g : Str → Option PyData} (hg : ∀ x d, g x = some d → isv d = true) : ∀ {n : Nat} {t : T} {d : PyData}, TOk n t → res g t = .ok d → isv d = true
  | 0, _, _, h, _ => h.elim
  | n + 1, .val d, _, h, e => by
    have e' : R.ok d = .ok _ := e
    cases e'
    exact h
  | n + 1, .nam x, d, h, e => by
    unfold res at e
    split at e
    · cases e
      exact hg _ _ (by assumption)
    · cases e
  | n + 1, .op w ts, d, h, e => by
    unfold res at e
    split at e
    · exact chk_isv e
    · cases e
theorem resAll_snoc (g : Str → Option PyData) (t : T) : ∀ (l : List T) (ds : List PyData), resAll g l = .ok ds → resAll g (l ++ [t]) = match res g t with | .ok d => .ok (ds ++ [d]) | .no r => .no r
  | [], ds, h => by
    have h' : RR.ok [] = .ok ds := h
    cases h'
    show RR.cons (res g t) (.ok []) = _
    cases res g t <;> rfl
  | u :: l, ds, h => by
    have h' : RR.cons (res g u) (resAll g l) = .ok ds := h
    show RR.cons (res g u) (resAll g (l ++ [t])) = _
    cases eu : res g u with
    | no r =>
      rw [eu] at h'
      cases h'
    | ok d =>
      rw [eu] at h'
      cases el : resAll g l with
      | no r =>
        rw [el] at h'
        cases h'
      | ok es =>
        rw [el] at h'
        have h2 : RR.ok (d :: es) = .ok ds := h'
        cases h2
        rw [resAll_snoc g t l es el]
        cases res g t <;> rfl
theorem resAll_no (g : Str → Option PyData) (m : List T) : ∀ (l : List T) (r : Str), resAll g l = .no r → resAll g (l ++ m) = .no r
  | [], r, h => nomatch (show RR.ok [] = .no r from h)
  | u :: l, r, h => by
    have h' : RR.cons (res g u) (resAll g l) = .no r := h
    show RR.cons (res g u) (resAll g (l ++ m)) = _
    cases eu : res g u with
    | no r' =>
      rw [eu] at h'
      exact h'
    | ok d =>
      rw [eu] at h'
      cases el : resAll g l with
      | no r' =>
        rw [el] at h'
        rw [resAll_no g m l r' el]
        exact h'
      | ok es =>
        rw [el] at h'
        cases h'
end E3

/-! failed, numeric_result, joined, item_of, combined. -/
namespace E3
open PySem PySem.Spec PyProof.Rows L2
section
variable {P : Program} {w : World} {K : PySem.W.Frag} {mg : Str → Option Value} {base : Heap}
/-- what follows a result: it stands somewhere, all else as it was -/
def Res (K : PySem.W.Frag) (H : Hp) (r : R) (Q : VK) : Prop := ∀ H' x, Same H H' → Dp K H' x (resT r) → Q x H'
theorem Res.same {H H1 : Hp} {r : R} {Q : VK} (q : Res K H r Q) (s : Same H H1) : Res K H1 r Q := fun H' x s' d => q H' x (s.trans s') d
/-- a pair laid anew -/
theorem Res.ok {H : Hp} {d : PyData} {v : V} {Q : VK} (q : Res K H (.ok d) Q) (c : cl d = true) (h : Dp K H v d) {p : Addr} (np : H p = none) : Q (.ref p) (upd H p (.tup [.str "value", v])) :=
  q _ _ (same_upd np) (.tup (.inl (.inl upd_same)) (.cons (.str _) (.cons (dp_kt (same_kt (same_upd np)) d v c h) .nil)))
theorem Res.no {H : Hp} {r : Str} {Q : VK} (q : Res K H (.no r) Q) {p : Addr} (np : H p = none) : Q (.ref p) (upd H p (.tup [.str "failed", .str r])) :=
  q _ _ (same_upd np) (.tup (.inl (.inl upd_same)) (.cons (.str _) (.cons (.str _) .nil)))

def spFail (K : PySem.W.Frag) : Sp := fun vs H Q _ => ∃ r, vs = [.str r] ∧ Res K H (.no r) Q
abbrev sFail : Stmt := topS 34
theorem scFail : FnScope ["reason"] ["reason"] (defScope sFail) := ⟨rfl, rfl, rfl, by decide +kernel, rfl, by decide +kernel, by decide +kernel⟩
theorem ok_fail (D : D0 K mg "failed" sFail ["reason"]) : C8.Cal P w K mg base 1 "failed" (spFail K) [] := by
  refine cal_of D scFail (fun vs H Q E h => ?_) fun f cdv A outer s H vs Q E hr h => ?_
  · obtain ⟨r, rfl, _⟩ := h
    rfl
  · obtain ⟨r, rfl, q⟩ := h
    refine ⟨_, pss_one (ps_ret (pe_tup (pa_cons pe_str (pa_cons (pv 0) pa_nil)))), ?_⟩
    exact ⟨_, rfl, by show 2 ≤ sizeLine; decide, fun p np => q.no np⟩

/-! ### numeric_result -/
def spNum (K : PySem.W.Frag) : Sp := fun vs H Q _ => ∃ (wd : Str) (v u : V) (a b : PyData), vs = [.str wd, v, u] ∧ Dp K H v a ∧ Dp K H u b ∧ isv a = true ∧ isv b = true ∧ Res K H (numOf wd a b) Q
abbrev sNum : Stmt := topS 35
theorem scNum : FnScope ["word", "one", "other", "name"] ["word", "one", "other"] (defScope sNum) := ⟨rfl, rfl, rfl, by decide +kernel, rfl, by decide +kernel, by decide +kernel⟩
theorem intEq (i j : Int) : decide (V.int i = V.int j) = decide (i = j) := decide_eq_decide.mpr ⟨fun h => V.int.inj h, fun h => by rw [h]⟩
theorem two_ok : 2 ≤ sizeLine := by decide
theorem b2i_if (i j : Int) : (if decide (i < j) = true then (1 : Int) else 0) = if i < j then 1 else 0 := by
  by_cases h : i < j
  · rw [if_pos h, if_pos (decide_eq_true h)]
  · rw [if_neg h, if_neg (fun z => h (of_decide_eq_true z))]
theorem ok_num (D : D0 K mg "numeric_result" sNum ["word", "one", "other"]) (G : Glo K mg) (ci : C8.Cal P w K mg base 1 "is_integer" (spIsI K) []) (cf : C8.Cal P w K mg base 1 "failed" (spFail K) []) : C8.Cal P w K mg base 2 "numeric_result" (spNum K) [] := by
  refine cal_of D scNum (fun vs H Q E h => ?_) fun f cdv A outer s H vs Q E hr h => ?_
  · obtain ⟨wd, v, u, a, b, rfl, _⟩ := h
    rfl
  · obtain ⟨wd, v, u, a, b, rfl, ha, hb, va, vb, q⟩ := h
    refine ⟨_, pss_cons (ps_if (PW.pt (pw_or (pt_not (pt_val (pe_k ci hr (pa_cons (pv 1) pa_nil)))) (pw_or1 (pt_not (pt_val (pe_k ci hr (pa_cons (pv 2) pa_nil))))))) (pss_one (ps_ret (pe_k cf hr (pa_cons pe_str pa_nil)))) pss_nil)
      (pss_cons (ps_if (PW.pt (pw_and (pt_cmpR op_eq (pv 0) pe_str (nomark _)) (pw_and1 (pt_cmpR op_eq (pv 2) pe_int (nomark _))))) (pss_one (ps_ret (pe_k cf hr (pa_cons pe_str pa_nil)))) pss_nil)
      (pss_one (ps_match (pv 0)
        (pm_cap (i := 3) scNum.nd rfl (Or.inl rfl) (pt_cmpR op_eq (pv 3) pe_str (nomark _)) (pss_one (ps_ret (pe_tup (pa_cons pe_str (pa_cons (pe_op op_add (pv 1) (pv 2)) pa_nil)))))
        (pm_cap (i := 3) scNum.nd rfl (Or.inl rfl) (pt_cmpR op_eq (pv 3) pe_str (nomark _)) (pss_one (ps_ret (pe_tup (pa_cons pe_str (pa_cons (pe_op op_sub (pv 1) (pv 2)) pa_nil)))))
        (pm_cap (i := 3) scNum.nd rfl (Or.inl rfl) (pt_cmpR op_eq (pv 3) pe_str (nomark _)) (pss_one (ps_ret (pe_tup (pa_cons pe_str (pa_cons (pe_op op_mulW (pv 1) (pv 2)) pa_nil)))))
        (pm_cap (i := 3) scNum.nd rfl (Or.inl rfl) (pt_cmpR op_eq (pv 3) pe_str (nomark _)) (pss_one (ps_ret (pe_tup (pa_cons pe_str (pa_cons (pe_op op_fdivG (pv 1) (pv 2)) pa_nil)))))
        (pm_any (pss_one (ps_ret (pe_tup (pa_cons pe_str (pa_cons (pe_callTy call_int1 (by rfl) G.int b_int (pa_cons (pe_cmpR op_lt (pv 1) (pv 2) (nomark _)) pa_nil)) pa_nil))))))))))))), ?_⟩
    refine ⟨_, rfl, v, a, rfl, ha, isv_cl va, _, rfl, ?_⟩
    rcases cl_cases (isv_cl va) with ⟨i, rfl⟩ | ⟨z, rfl, _⟩ | ⟨xs, rfl, _⟩
    · obtain rfl := dp_int ha
      refine iteF ⟨_, rfl, u, b, rfl, hb, isv_cl vb, _, rfl, ?_⟩
      rcases cl_cases (isv_cl vb) with ⟨j, rfl⟩ | ⟨z, rfl, _⟩ | ⟨xs, rfl, _⟩
      · obtain rfl := dp_int hb
        refine iteF ⟨_, rfl, rfl, _, rfl, ?_⟩
        rw [strEq]
        have q' : Res K H (num wd i j) Q := q
        by_cases hdv : wd = "divide"
        · subst hdv
          refine ite2 (fun _ => ⟨_, rfl, rfl, _, rfl, ?_⟩) (fun z => absurd (decide_eq_true rfl) z)
          rw [intEq]
          by_cases hj : j = 0
          · refine ite2 (fun _ => ?_) (fun z => absurd (decide_eq_true hj) z)
            refine ⟨_, rfl, ?_⟩
            unfold num at q'
            rw [if_pos rfl, if_pos hj] at q'
            exact q'
          · refine ite2 (fun z => absurd (of_decide_eq_true z) hj) (fun _ => ?_)
            unfold num at q'
            rw [if_pos rfl, if_neg hj] at q'
            refine ⟨_, rfl, _, rfl, rfl, _, rfl, iteF ⟨_, rfl, rfl, _, rfl, iteF ⟨_, rfl, rfl, _, rfl, iteF ⟨_, rfl, rfl, _, rfl, iteT ?_⟩⟩⟩⟩
            exact ⟨_, rfl, _, rfl, i, j, rfl, rfl, ⟨hj, Nat.lt_of_lt_of_le (PySem.Flt.log2_lt_of (by decide) (isv_int vb)) (by decide)⟩, two_ok, fun p np => q'.ok rfl (.int _) np⟩
        · refine ite2 (fun z => absurd (of_decide_eq_true z) hdv) (fun _ => ?_)
          unfold num at q'
          rw [if_neg hdv] at q'
          refine ⟨_, rfl, _, rfl, rfl, _, rfl, ?_⟩
          rw [strEq]
          by_cases h1 : wd = "add"
          · rw [if_pos h1] at q'
            refine ite2 (fun _ => ?_) (fun z => absurd (decide_eq_true h1) z)
            exact ⟨_, rfl, _, rfl, i, j, rfl, rfl, two_ok, fun p np => q'.ok rfl (.int _) np⟩
          · rw [if_neg h1] at q'
            refine ite2 (fun z => absurd (of_decide_eq_true z) h1) (fun _ => ⟨_, rfl, rfl, _, rfl, ?_⟩)
            rw [strEq]
            by_cases h2 : wd = "subtract"
            · rw [if_pos h2] at q'
              refine ite2 (fun _ => ?_) (fun z => absurd (decide_eq_true h2) z)
              exact ⟨_, rfl, _, rfl, i, j, rfl, rfl, two_ok, fun p np => q'.ok rfl (.int _) np⟩
            · rw [if_neg h2] at q'
              refine ite2 (fun z => absurd (of_decide_eq_true z) h2) (fun _ => ⟨_, rfl, rfl, _, rfl, ?_⟩)
              rw [strEq]
              by_cases h3 : wd = "multiply"
              · rw [if_pos h3] at q'
                refine ite2 (fun _ => ?_) (fun z => absurd (decide_eq_true h3) z)
                exact ⟨_, rfl, _, rfl, i, j, rfl, rfl, wide_mul (isv_int va) (isv_int vb) (by decide) (by decide) (by decide), two_ok, fun p np => q'.ok rfl (.int _) np⟩
              · rw [if_neg h3] at q'
                refine ite2 (fun z => absurd (of_decide_eq_true z) h3) (fun _ => ⟨_, rfl, rfl, _, rfl, ?_⟩)
                rw [strEq]
                refine ite2 (fun z => absurd (of_decide_eq_true z) hdv) (fun _ => ?_)
                refine ⟨_, rfl, _, rfl, i, j, rfl, rfl, .inr ⟨_, rfl, ?_⟩⟩
                rw [b2i_if]
                exact ⟨two_ok, fun p np => q'.ok rfl (.int _) np⟩
      · obtain rfl := dp_str hb
        exact iteT ⟨_, rfl, q⟩
      · obtain ⟨c, us, rfl, _⟩ := dp_tup hb
        exact iteT ⟨_, rfl, q⟩
    · obtain rfl := dp_str ha
      exact iteT ⟨_, rfl, q⟩
    · obtain ⟨c, us, rfl, _⟩ := dp_tup ha
      exact iteT ⟨_, rfl, q⟩

/-! ### joined -/
def spJoin (K : PySem.W.Frag) : Sp := fun vs H Q _ => ∃ (v u : V) (a b : PyData), vs = [v, u] ∧ Dp K H v a ∧ Dp K H u b ∧ isv a = true ∧ isv b = true ∧ Res K H (joinOf a b) Q
abbrev sJoin : Stmt := topS 36
theorem scJoin : FnScope ["one", "other", "are_texts"] ["one", "other"] (defScope sJoin) := ⟨rfl, rfl, rfl, by decide +kernel, rfl, by decide +kernel, by decide +kernel⟩
theorem ok_join (D : D0 K mg "joined" sJoin ["one", "other"]) (G : Glo K mg) (ct : C8.Cal P w K mg base 2 "is_text" (spTxt K signs 0 60) []) (cf : C8.Cal P w K mg base 1 "failed" (spFail K) []) : C8.Cal P w K mg base 3 "joined" (spJoin K) [] := by
  refine cal_of D scJoin (fun vs H Q E h => ?_) fun f cdv A outer s H vs Q E hr h => ?_
  · obtain ⟨v, u, a, b, rfl, _⟩ := h
    rfl
  · obtain ⟨v, u, a, b, rfl, ha, hb, va, vb, q⟩ := h
    refine ⟨_, pss_cons (ps_set (i := 2) scJoin.nd rfl (.inl rfl) (pe_and (pe_k ct hr (pa_cons (pv 0) pa_nil)) (pe_one (pe_k ct hr (pa_cons (pv 1) pa_nil)))))
      (pss_cons (ps_if (PW.pt (pw_and (pt_not (pt_val (pv 2))) (pw_and1 (pt_not (PW.pt (pw_and (pt_val (pe_isi G.isi G.tuple b_tuple (pv 0))) (pw_and1 (pt_val (pe_isi G.isi G.tuple b_tuple (pv 1)))))))))) (pss_one (ps_ret (pe_k cf hr (pa_cons pe_str pa_nil)))) pss_nil)
      (pss_one (ps_ret (pe_tup (pa_cons pe_str (pa_cons (pe_op (OpR.or op_add_str op_catA) (pv 0) (pv 1)) pa_nil)))))), ?_⟩
    refine ⟨_, rfl, v, a, rfl, ha, isv_cl va, fun H1 s1 => ⟨_, rfl, ?_⟩⟩
    have ha1 := dp_kt (same_kt s1) a v (isv_cl va) ha
    have hb1 := dp_kt (same_kt s1) b u (isv_cl vb) hb
    rcases cl_cases (isv_cl va) with ⟨i, rfl⟩ | ⟨z, rfl, _⟩ | ⟨xs, rfl, _⟩
    · refine iteF ⟨_, rfl, _, rfl, iteT ⟨_, rfl, isi_T ha1 (isv_cl va) ⟨_, rfl, iteF (iteT ⟨_, rfl, ?_⟩)⟩⟩⟩
      exact q.same s1
    · rw [show isWd signs 0 60 (.str z) = true from (isv_str va).2.2]
      refine iteT ⟨_, rfl, u, b, rfl, hb1, isv_cl vb, fun H2 s2 => ?_⟩
      have ha2 := dp_kt (same_kt s2) _ v (isv_cl va) ha1
      have hb2 := dp_kt (same_kt s2) _ u (isv_cl vb) hb1
      rcases cl_cases (isv_cl vb) with ⟨j, rfl⟩ | ⟨z', rfl, _⟩ | ⟨ys, rfl, _⟩
      · refine ⟨_, rfl, _, rfl, iteT ⟨_, rfl, isi_T ha2 (isv_cl va) ⟨_, rfl, iteF (iteT ⟨_, rfl, ?_⟩)⟩⟩⟩
        exact q.same (s1.trans s2)
      · rw [show isWd signs 0 60 (.str z') = true from (isv_str vb).2.2]
        refine ⟨_, rfl, _, rfl, iteF ?_⟩
        obtain rfl := dp_str ha
        obtain rfl := dp_str hb
        have l1 := (isv_str va).1
        have l2 := (isv_str vb).1
        exact ⟨_, rfl, _, rfl, .inl ⟨z, z', rfl, rfl, Nat.le_of_lt (small1000 (by omega)), two_ok, fun p np => (q.same (s1.trans s2)).ok (cl_app va vb) (.str _) np⟩⟩
      · refine ⟨_, rfl, _, rfl, iteT ⟨_, rfl, isi_T ha2 (isv_cl va) ⟨_, rfl, iteF (iteT ⟨_, rfl, ?_⟩)⟩⟩⟩
        exact q.same (s1.trans s2)
    · refine iteF ⟨_, rfl, _, rfl, iteT ⟨_, rfl, isi_T ha1 (isv_cl va) ⟨_, rfl, iteT ⟨_, rfl, isi_T hb1 (isv_cl vb) ⟨_, rfl, ?_⟩⟩⟩⟩⟩
      have q1 := q.same s1
      rcases cl_cases (isv_cl vb) with ⟨j, rfl⟩ | ⟨z', rfl, _⟩ | ⟨ys, rfl, _⟩
      · exact iteT ⟨_, rfl, q1⟩
      · exact iteT ⟨_, rfl, q1⟩
      · obtain ⟨pa, xv, rfl, hs, hxs⟩ := dp_tup ha1
        obtain ⟨pb, yv, rfl, hs', hys⟩ := dp_tup hb1
        have lx := dps_len hxs
        have ly := dps_len hys
        obtain ⟨l1, c1⟩ := isv_tup va
        obtain ⟨l2, c2⟩ := isv_tup vb
        have ca : cl (.tuple (xs ++ ys)) = true := cl_tup (by rw [List.length_append]; omega) fun x hx => by
          rcases List.mem_append.mp hx with h | h
          · exact (c1 x h).1
          · exact (c2 x h).1
        refine iteF ⟨_, rfl, _, rfl, .inr ⟨pa, pb, xv, yv, rfl, rfl, hs, hs', Nat.le_of_lt (small1000 (by omega)), fun e => ?_, fun _ e => ?_, fun _ _ c nc => ?_⟩⟩
        · subst e
          have : xs = [] := List.length_eq_zero_iff.mp lx.symm
          subst this
          exact ⟨two_ok, fun p np => q1.ok ca hb1 np⟩
        · subst e
          have : ys = [] := List.length_eq_zero_iff.mp ly.symm
          subst this
          rw [joinOf, List.append_nil] at q1
          rw [List.append_nil] at ca
          exact ⟨two_ok, fun p np => q1.ok ca ha1 np⟩
        · have sc := same_upd (o := .tup (xv ++ yv)) nc
          have hx2 := dps_kt (same_kt sc) xs xv (by rw [clAll_iff]; exact fun x h => (c1 x h).1) hxs
          have hy2 := dps_kt (same_kt sc) ys yv (by rw [clAll_iff]; exact fun x h => (c2 x h).1) hys
          exact ⟨two_ok, fun p np => (q1.same sc).ok ca (.tup (.inl (.inl upd_same)) (dps_app hx2 hy2)) np⟩

/-! ### item_of -/
def spItem (K : PySem.W.Frag) : Sp := fun vs H Q _ => ∃ (v u : V) (a b : PyData), vs = [v, u] ∧ Dp K H v a ∧ Dp K H u b ∧ isv a = true ∧ isv b = true ∧ Res K H (itemOf a b) Q
abbrev sItem : Stmt := topS 37
theorem scItem : FnScope ["items", "index"] ["items", "index"] (defScope sItem) := ⟨rfl, rfl, rfl, by decide +kernel, rfl, by decide +kernel, by decide +kernel⟩
theorem ok_item (D : D0 K mg "item_of" sItem ["items", "index"]) (G : Glo K mg) (ci : C8.Cal P w K mg base 1 "is_integer" (spIsI K) []) (cf : C8.Cal P w K mg base 1 "failed" (spFail K) []) : C8.Cal P w K mg base 2 "item_of" (spItem K) [] := by
  refine cal_of D scItem (fun vs H Q E h => ?_) fun f cdv A outer s H vs Q E hr h => ?_
  · obtain ⟨v, u, a, b, rfl, _⟩ := h
    rfl
  · obtain ⟨v, u, a, b, rfl, ha, hb, va, vb, q⟩ := h
    refine ⟨_, pss_cons (ps_if (PW.pt (pw_or (pt_not (pt_val (pe_isi G.isi G.tuple b_tuple (pv 0)))) (pw_or1 (pt_not (pt_val (pe_k ci hr (pa_cons (pv 1) pa_nil))))))) (pss_one (ps_ret (pe_k cf hr (pa_cons pe_str pa_nil)))) pss_nil)
      (pss_cons (ps_if (pt_not (pt_chain op_le op_lt pe_int (pv 1) (pe_callB call_len_seq (by rfl) G.len b_len (pa_cons (pv 0) pa_nil)))) (pss_one (ps_ret (pe_k cf hr (pa_cons pe_str pa_nil)))) pss_nil)
      (pss_one (ps_ret (pe_tup (pa_cons pe_str (pa_cons (pe_ix ix_tup (pv 0) (pv 1) (fun _ _ => rfl)) pa_nil)))))), ?_⟩
    refine ⟨_, rfl, isi_T ha (isv_cl va) ⟨_, rfl, ?_⟩⟩
    rcases cl_cases (isv_cl va) with ⟨i, rfl⟩ | ⟨z, rfl, _⟩ | ⟨xs, rfl, _⟩
    · exact iteT ⟨_, rfl, q⟩
    · exact iteT ⟨_, rfl, q⟩
    · refine iteF ⟨_, rfl, u, b, rfl, hb, isv_cl vb, _, rfl, ?_⟩
      rcases cl_cases (isv_cl vb) with ⟨j, rfl⟩ | ⟨z', rfl, _⟩ | ⟨ys, rfl, _⟩
      · obtain rfl := dp_int hb
        obtain ⟨pa, xv, rfl, hs, hxs⟩ := dp_tup ha
        have lx := dps_len hxs
        obtain ⟨l1, c1⟩ := isv_tup va
        refine iteF ⟨_, rfl, _, _, rfl, rfl, _, rfl, ite2 (fun e1 => ?_) (fun e1 => ?_)⟩
        · have g1 : 0 ≤ j := of_decide_eq_true e1
          refine ⟨_, rfl, pa, xv, rfl, .inr hs, _, _, rfl, rfl, _, rfl, ite2 (fun e2 => ?_) (fun e2 => ?_)⟩
          · have n2 : ¬ j < xv.length := by
              intro k
              have : decide (j < ((xv.length : Nat) : Int)) = true := decide_eq_true k
              rw [this] at e2
              cases e2
            have q' := q
            rw [itemOf, if_neg (by omega)] at q'
            exact ⟨_, rfl, q'⟩
          · have g2 : j < xv.length := by
              cases h : decide (j < ((xv.length : Nat) : Int)) with
              | true => exact of_decide_eq_true h
              | false =>
                rw [h] at e2
                exact absurd rfl e2
            have q' := q
            rw [itemOf, if_pos (by omega)] at q'
            have hj : j.toNat < xv.length := by omega
            obtain ⟨d, ed, hd⟩ := dps_get hxs (List.getElem?_eq_getElem hj)
            have egd : xs.getD j.toNat .none = d := by
              rw [List.getD_eq_getElem?_getD, ed]
              rfl
            rw [egd] at q'
            have cd := (c1 d (List.mem_of_getElem? ed)).1
            refine ⟨_, rfl, _, rfl, pa, xv, j, _, rfl, rfl, hs, at_of (j := j.toNat) (by omega) (List.getElem?_eq_getElem hj), two_ok, fun p np => q'.ok cd hd np⟩
        · have n1 : ¬ 0 ≤ j := fun k => e1 (decide_eq_true k)
          have q' := q
          rw [itemOf, if_neg (by omega)] at q'
          exact ⟨_, rfl, iteT ⟨_, rfl, q'⟩⟩
      · exact iteT ⟨_, rfl, q⟩
      · exact iteT ⟨_, rfl, q⟩
end
end E3

/-! combined, result_of, evaluate. -/
namespace E3
open PySem PySem.Spec PyProof.Rows L2
section
variable {P : Program} {w : World} {K : PySem.W.Frag} {mg : Str → Option Value} {base : Heap}
theorem dps_mem {H : Hp} : ∀ {us : List V} {ds : List PyData} {i : Nat} {d : PyData}, DpAll K H us ds → ds[i]? = some d → ∃ u, us[i]? = some u ∧ Dp K H u d
  | _, _, i, d, .nil, e => by simp at e
  | _, _, 0, d, .cons h _, e => by
    simp at e
    subst e
    exact ⟨_, rfl, h⟩
  | _, _, i + 1, d, .cons _ h, e => by
    rw [List.getElem?_cons_succ] at e
    obtain ⟨u, h1, h2⟩ := dps_mem h e
    exact ⟨u, by rw [List.getElem?_cons_succ]; exact h1, h2⟩
/-- values that may be had -/
def Isvs (ds : List PyData) : Prop := ∀ d ∈ ds, isv d = true
theorem isvs_cl {ds : List PyData} (h : Isvs ds) : clAll ds = true := by
  rw [clAll_iff]
  exact fun x hx => isv_cl (h x hx)
def spComb (K : PySem.W.Frag) : Sp := fun vs H Q _ => ∃ (wd : Str) (p : Addr) (us : List V) (ds : List PyData), vs = [.str wd, .ref p] ∧ SqL K H p us ∧ DpAll K H us ds ∧ Isvs ds ∧ Ar wd ds.length ∧ Res K H (comb wd ds) Q
abbrev sComb : Stmt := topS 38
theorem scComb : FnScope ["word", "values", "one", "other"] ["word", "values"] (defScope sComb) := ⟨rfl, rfl, rfl, by decide +kernel, rfl, by decide +kernel, by decide +kernel⟩
theorem list_ne_pairs : ("list" : Str) ∉ pairs ∧ ("size" : Str) ∉ pairs ∧ ("size" : Str) ≠ "list" := by decide +kernel
theorem ok_comb (D : D0 K mg "combined" sComb ["word", "values"]) (G : Glo K mg) (ci : C8.Cal P w K mg base 1 "is_integer" (spIsI K) []) (cf : C8.Cal P w K mg base 1 "failed" (spFail K) []) (ce : C8.Cal P w K mg base 7 "are_equal" (spEq K 6) [])
    (cj : C8.Cal P w K mg base 3 "joined" (spJoin K) []) (ct : C8.Cal P w K mg base 2 "item_of" (spItem K) []) (cn : C8.Cal P w K mg base 2 "numeric_result" (spNum K) []) : C8.Cal P w K mg base 8 "combined" (spComb K) [] := by
  refine cal_of D scComb (fun vs H Q E h => ?_) fun f cdv A outer s H vs Q E hr h => ?_
  · obtain ⟨wd, p, us, ds, rfl, _⟩ := h
    rfl
  · obtain ⟨wd, p, us, ds, rfl, hs, ha, hv, har, q⟩ := h
    refine ⟨_, pss_cons (ps_if (pt_cmpR op_eq (pv 0) pe_str (nomark _)) (pss_one (ps_ret (pe_tup (pa_cons pe_str (pa_cons (pe_callTy call_tuple_of (by rfl) G.tuple b_tuple (pa_cons (pv 1) pa_nil)) pa_nil))))) pss_nil)
      (pss_cons (ps_if (pt_cmpR op_eq (pv 0) pe_str (nomark _)) (pss_one (ps_ret (pe_ifExp (pt_val (pe_k ci hr (pa_cons (pe_ix ix_list (pv 1) pe_int (fun _ _ => rfl)) pa_nil))) (pe_k cf hr (pa_cons pe_str pa_nil))
          (pe_tup (pa_cons pe_str (pa_cons (pe_callB (CallR.or call_len_str call_len_seq) (by rfl) G.len b_len (pa_cons (pe_ix ix_list (pv 1) pe_int (fun _ _ => rfl)) pa_nil)) pa_nil)))))) pss_nil)
      (pss_cons (ps_asg (pv 1) (pg_unl rfl (pgs_cons (pg_name (i := 2) scComb.nd rfl (Or.inl rfl)) (pgs_cons (pg_name (i := 3) scComb.nd rfl (Or.inl rfl)) pgs_nil))))
      (pss_cons (ps_if (pt_cmpR op_eq (pv 0) pe_str (nomark _)) (pss_one (ps_ret (pe_tup (pa_cons pe_str (pa_cons (pe_callTy call_int1 (by rfl) G.int b_int (pa_cons (pe_k ce hr (pa_cons (pv 2) (pa_cons (pv 3) pa_nil))) pa_nil)) pa_nil))))) pss_nil)
      (pss_cons (ps_if (pt_cmpR op_eq (pv 0) pe_str (nomark _)) (pss_one (ps_ret (pe_k cj hr (pa_cons (pv 2) (pa_cons (pv 3) pa_nil))))) pss_nil)
      (pss_cons (ps_if (pt_cmpR op_eq (pv 0) pe_str (nomark _)) (pss_one (ps_ret (pe_k ct hr (pa_cons (pv 2) (pa_cons (pv 3) pa_nil))))) pss_nil)
      (pss_one (ps_ret (pe_k cn hr (pa_cons (pv 0) (pa_cons (pv 2) (pa_cons (pv 3) pa_nil))))))))))), ?_⟩
    have lu := dps_len ha
    have ca := isvs_cl hv
    refine ⟨_, rfl, rfl, _, rfl, ?_⟩
    rw [strEq]
    unfold comb at q
    by_cases h1 : wd = "list"
    · rw [if_pos h1] at q
      refine ite2 (fun _ => ?_) (fun z => absurd (decide_eq_true h1) z)
      have l4 := (ar_cl har).2
      refine ⟨_, rfl, p, us, rfl, .inl ⟨hs, fun l nl => ⟨two_ok, fun p2 np2 => ?_⟩⟩⟩
      have s1 := same_upd (o := .tup us) nl
      exact (q.same s1).ok (cl_tup (by omega) fun x hx => isv_cl (hv x hx)) (.tup (.inl (.inl upd_same)) (dps_kt (same_kt s1) ds us ca ha)) np2
    · rw [if_neg h1] at q
      refine ite2 (fun z => absurd (of_decide_eq_true z) h1) (fun _ => ⟨_, rfl, rfl, _, rfl, ?_⟩)
      rw [strEq]
      by_cases h2 : wd = "size"
      · rw [if_pos h2] at q
        refine ite2 (fun _ => ?_) (fun z => absurd (decide_eq_true h2) z)
        have hone : ds.length = 1 := by
          rcases har with ⟨z, _⟩ | ⟨z, _⟩ | ⟨_, z⟩
          · rw [h2] at z
            exact absurd z list_ne_pairs.2.1
          · exact absurd z h1
          · exact z
        match ds, hone, ha with
        | [d], _, ha =>
          cases ha with
          | @cons u _ _ _ hu hn =>
            cases hn
            have vd := hv d (by simp)
            have q' : Res K H (sizeOf d) Q := q
            refine ⟨_, rfl, p, _, 0, u, rfl, rfl, hs, atI_nat (j := 0) rfl, u, d, rfl, hu, isv_cl vd, _, rfl, ?_⟩
            rcases cl_cases (isv_cl vd) with ⟨i, rfl⟩ | ⟨z, rfl, _⟩ | ⟨xs, rfl, _⟩
            · exact iteT ⟨_, rfl, q'⟩
            · obtain rfl := dp_str hu
              have l1 := (isv_str vd).1
              refine iteF ⟨_, rfl, p, _, 0, _, rfl, rfl, hs, atI_nat (j := 0) rfl, .inl ⟨z, rfl, Nat.le_of_lt (small1000 (by omega)), two_ok, fun p2 np2 => q'.ok rfl (.int _) np2⟩⟩
            · obtain ⟨pa, xv, rfl, hs', hxs⟩ := dp_tup hu
              have lx := dps_len hxs
              refine iteF ⟨_, rfl, p, _, 0, _, rfl, rfl, hs, atI_nat (j := 0) rfl, .inr ⟨pa, xv, rfl, .inr hs', two_ok, fun p2 np2 => ?_⟩⟩
              rw [lx]
              exact q'.ok rfl (.int _) np2
      · rw [if_neg h2] at q
        refine ite2 (fun z => absurd (of_decide_eq_true z) h2) (fun _ => ?_)
        have htwo : ds.length = 2 := by
          rcases har with ⟨_, z⟩ | ⟨z, _⟩ | ⟨z, _⟩
          · exact z
          · exact absurd z h1
          · exact absurd z h2
        match ds, htwo, ha with
        | [a, b], _, ha =>
          cases ha with
          | @cons u1 _ _ _ hu1 hn =>
            cases hn with
            | @cons u2 _ _ _ hu2 hn2 =>
              cases hn2
              have va := hv a (by simp)
              have vb := hv b (by simp)
              have q' : Res K H (pairOf wd a b) Q := q
              refine ⟨_, rfl, p, _, rfl, hs, rfl, _, _, rfl, _, _, rfl, rfl, ?_⟩
              refine ⟨_, rfl, rfl, _, rfl, ?_⟩
              rw [strEq]
              unfold pairOf at q'
              by_cases h3 : wd = "equal"
              · rw [if_pos h3] at q'
                refine ite2 (fun _ => ?_) (fun z => absurd (decide_eq_true h3) z)
                refine ⟨_, rfl, _, rfl, u1, u2, a, b, rfl, by have := isv_depth va; omega, hu1, hu2, isv_cl va, isv_cl vb, fun H1 s1 => .inr ⟨_, rfl, two_ok, fun p2 np2 => ?_⟩⟩
                exact (q'.same s1).ok rfl (.int _) np2
              · rw [if_neg h3] at q'
                refine ite2 (fun z => absurd (of_decide_eq_true z) h3) (fun _ => ⟨_, rfl, rfl, _, rfl, ?_⟩)
                rw [strEq]
                by_cases h4 : wd = "join"
                · rw [if_pos h4] at q'
                  refine ite2 (fun _ => ?_) (fun z => absurd (decide_eq_true h4) z)
                  exact ⟨_, rfl, _, rfl, u1, u2, a, b, rfl, hu1, hu2, va, vb, q'⟩
                · rw [if_neg h4] at q'
                  refine ite2 (fun z => absurd (of_decide_eq_true z) h4) (fun _ => ⟨_, rfl, rfl, _, rfl, ?_⟩)
                  rw [strEq]
                  by_cases h5 : wd = "item"
                  · rw [if_pos h5] at q'
                    refine ite2 (fun _ => ?_) (fun z => absurd (decide_eq_true h5) z)
                    exact ⟨_, rfl, _, rfl, u1, u2, a, b, rfl, hu1, hu2, va, vb, q'⟩
                  · rw [if_neg h5] at q'
                    refine ite2 (fun z => absurd (of_decide_eq_true z) h5) (fun _ => ?_)
                    exact ⟨_, rfl, _, rfl, _, rfl, wd, u1, u2, a, b, rfl, hu1, hu2, va, vb, q'⟩

/-! ### result_of -/
def spRes (K : PySem.W.Frag) (n : Nat) : Sp := fun vs H Q _ => ∃ (v : V) (t : T) (a : Addr) (kvs : List (Key × V)) (g : Str → Option PyData), vs = [v, .ref a] ∧ Dp K H v (toD t) ∧ TOk n t ∧ n ≤ 5 ∧ Vars K H a kvs g ∧ Res K H (res g t) Q
abbrev sRes : Stmt := topS 39
theorem scRes : FnScope ["expression", "variables", "word", "parts", "values", "part", "result"] ["expression", "variables"] (defScope sRes) := ⟨rfl, rfl, rfl, by decide +kernel, rfl, by decide +kernel, by decide +kernel⟩
theorem Vars.isv {H : Hp} {a : Addr} {kvs : List (Key × V)} {g : Str → Option PyData} (x : Vars K H a kvs g) : ∀ y d, g y = some d → isv d = true := fun y d h => let ⟨_, _, _, h3⟩ := x.some_ y d h; h3
/-- a result as it is read -/
theorem res_ok {H : Hp} {x : V} {d : PyData} (h : Dp K H x (resT (.ok d))) : ∃ c u, x = .ref c ∧ SqT K H c [.str "value", u] ∧ Dp K H u d := by
  obtain ⟨c, us, rfl, hs, ha⟩ := dp_term h
  cases ha with
  | cons hu hn =>
    cases hn
    exact ⟨c, _, rfl, hs, hu⟩
theorem res_no {H : Hp} {x : V} {r : Str} (h : Dp K H x (resT (.no r))) : ∃ c, x = .ref c ∧ SqT K H c [.str "failed", .str r] := by
  obtain ⟨c, us, rfl, hs, ha⟩ := dp_term h
  cases ha with
  | cons hu hn =>
    cases hn
    obtain rfl := dp_str hu
    exact ⟨c, rfl, hs⟩
theorem words_ne : ("value" : Str) ≠ "failed" ∧ ("name" : Str) ≠ "value" := by decide +kernel
theorem ok_res (D : D0 K mg "result_of" sRes ["expression", "variables"]) (G : Glo K mg) (cf : C8.Cal P w K mg base 1 "failed" (spFail K) []) (cc : C8.Cal P w K mg base 8 "combined" (spComb K) []) (cv : C8.Cal P w K mg base 10 "is_value" (spVal K) []) :
    ∀ n, C8.Cal P w K mg base (n + 11) "result_of" (spRes K n) []
  | 0 => cal_false D scRes fun vs H Q E h => by
    obtain ⟨v, t, a, kvs, g, _, _, h, _⟩ := h
    exact h
  | n + 1 => by
    have ih := ok_res D G cf cc cv n
    refine cal_of D scRes (fun vs H Q E h => ?_) fun f cdv A outer s H vs Q E hr h => ?_
    · obtain ⟨v, t, a, kvs, g, rfl, _⟩ := h
      rfl
    · obtain ⟨v, t, ad, kvs, g, rfl, hd, ht, h5, hV, q⟩ := h
      refine ⟨_, pss_cons (ps_asg (pv 0) (pg_star rfl (pgs_cons (pg_name (i := 2) scRes.nd rfl (Or.inl rfl)) (pgs_star (pg_name (i := 3) scRes.nd rfl (Or.inl rfl)) pgs_nil))))
        (pss_cons (ps_if (pt_cmpR op_eq (pv 2) pe_str (nomark _)) (pss_one (ps_ret (pe_tup (pa_cons pe_str (pa_cons (pe_ix ix_list (pv 3) pe_int (fun _ _ => rfl)) pa_nil))))) pss_nil)
        (pss_cons (ps_if (pt_cmpR op_eq (pv 2) pe_str (nomark _)) (pss_one (ps_ret (pe_ifExp (pt_cmp (pc_din (hu_of hr) (pe_ix ix_list (pv 3) pe_int (fun _ _ => rfl)) (pv 1)) (by rfl))
            (pe_tup (pa_cons pe_str (pa_cons (pe_dget (hu_of hr) (pv 1) (pe_ix ix_list (pv 3) pe_int (fun _ _ => rfl)) (fun _ _ => rfl)) pa_nil))) (pe_k cf hr (pa_cons pe_str pa_nil))))) pss_nil)
        (pss_cons (ps_set (i := 4) scRes.nd rfl (.inl rfl) (pe_lst pa_nil))
        (pss_cons (ps_for PassesOwn.never rfl (pi_list (pv 3)) (pg_name (i := 5) scRes.nd rfl (Or.inl rfl))
          (pss_cons (ps_set (i := 6) scRes.nd rfl (.inl rfl) (pe_k ih hr (pa_cons (pv 5) (pa_cons (pv 1) pa_nil))))
          (pss_cons (ps_if (pt_cmpR op_eq (pe_ix ix_tup (pv 6) pe_int (fun _ _ => rfl)) pe_str (nomark _)) (pss_one (ps_ret (pv 6))) pss_nil)
          (pss_one (ps_expr (pe_bm PySem.F.plainAttrs_list PySem.F.slot_list_append PySem.F.type_list_append mt_append (pv 4) (pa_cons (pe_ix ix_tup (pv 6) pe_int (fun _ _ => rfl)) pa_nil)))))))
        (pss_cons (ps_set (i := 6) scRes.nd rfl (.inl rfl) (pe_k cc hr (pa_cons (pv 2) (pa_cons (pv 4) pa_nil))))
        (pss_one (ps_ret (pe_ifExp (PW.pt (pw_or (pt_cmpR op_eq (pe_ix ix_tup (pv 6) pe_int (fun _ _ => rfl)) pe_str (nomark _)) (pw_or1 (pt_val (pe_k cv hr (pa_cons (pe_ix ix_tup (pv 6) pe_int (fun _ _ => rfl)) pa_nil))))))
          (pv 6) (pe_k cf hr (pa_cons pe_str pa_nil)))))))))), ?_⟩
      obtain ⟨wd, ps, et, hl, hcase⟩ := tok_shape ht
      rw [et] at hd
      obtain ⟨a, us, rfl, hs, ha⟩ := dp_term hd
      have hul := dps_len ha
      refine ⟨_, rfl, a, .str wd, us, rfl, hs, by omega, fun L nL => ⟨_, _, rfl, _, _, rfl, rfl, ?_⟩⟩
      have s1 : Same H (upd H L (.lst us)) := same_upd nL
      have hL : SqL K (upd H L (.lst us)) L us := .of upd_same
      refine ⟨_, rfl, rfl, _, rfl, ?_⟩
      rw [strEq]
      refine ite2 (fun ew => ?_) (fun ew => ?_)
      · have ew' : wd = "value" := of_decide_eq_true ew
        rcases hcase with ⟨d, rfl, _, rfl, hv⟩ | ⟨x, _, e, _⟩ | ⟨ts, _, _, _, e, _⟩
        · cases ha with
          | @cons u _ _ _ hu hn =>
            cases hn
            exact ⟨_, rfl, L, _, 0, u, rfl, rfl, hL, atI_nat (j := 0) rfl, two_ok, fun p np => (q.same s1).ok (isv_cl hv) (dp_kt (same_kt s1) d u (isv_cl hv) hu) np⟩
        · exact absurd (ew'.symm.trans e) words_ne.2.symm
        · exact absurd ew' e
      · have ew' : wd ≠ "value" := fun e => ew (decide_eq_true e)
        refine ⟨_, rfl, rfl, _, rfl, ?_⟩
        rw [strEq]
        refine ite2 (fun en => ?_) (fun en => ?_)
        · have en' : wd = "name" := of_decide_eq_true en
          rcases hcase with ⟨d, _, e, _⟩ | ⟨x, rfl, _, rfl, hx⟩ | ⟨ts, _, _, _, _, e, _⟩
          · exact absurd e ew'
          · cases ha with
            | @cons u _ _ _ hu hn =>
              cases hn
              obtain rfl := dp_str hu
              have hV1 := hV.same s1
              refine ⟨_, rfl, L, _, 0, _, rfl, rfl, hL, atI_nat (j := 0) rfl, _, rfl, ad, _, rfl, DGet.k (k := (Sum.inr x : Key)) hV1.at_, _, rfl, ?_⟩
              have q1 := q.same s1
              cases eg : g x with
              | none =>
                rw [hV1.none_ x eg]
                have q2 : Res K (upd H L (.lst [V.str x])) (.no "name") Q := by
                  have : res g (.nam x) = .no "name" := by rw [res, eg]
                  rw [← this]
                  exact q1
                exact iteF ⟨_, rfl, q2⟩
              | some d =>
                obtain ⟨vx, e1, e2, e3⟩ := hV1.some_ x d eg
                rw [e1]
                have q2 : Res K (upd H L (.lst [V.str x])) (.ok d) Q := by
                  have : res g (.nam x) = .ok d := by rw [res, eg]
                  rw [← this]
                  exact q1
                refine iteT ⟨_, rfl, _, rfl, L, _, 0, _, rfl, rfl, hL, atI_nat (j := 0) rfl, ad, vx, rfl, ?_, two_ok, fun p np => q2.ok (isv_cl e3) e2 np⟩
                rw [← e1]
                exact DGet.k (k := (Sum.inr x : Key)) hV1.at_
          · exact absurd en' e
        · have en' : wd ≠ "name" := fun e => en (decide_eq_true e)
          rcases hcase with ⟨d, _, e, _⟩ | ⟨x, _, e, _⟩ | ⟨ts, rfl, eps, har, _, _, hts⟩
          · exact absurd e ew'
          · exact absurd e en'
          · have lts : us.length = ts.length := by rw [hul, eps, List.length_map]
            have h4 := (ar_cl har).2
            have hgv := hV.isv
            -- values = []
            refine ⟨Nat.zero_le _, fun va nva => ?_⟩
            have s2 : Same H (upd (upd H L (.lst us)) va (.lst [])) := s1.trans (same_upd nva)
            have nLva : L ≠ va := fun e => by
              rw [e] at hL
              rw [← e, upd_same] at nva
              cases nva
            have nvaH : H va = none := same_none s1 nva
            refine ⟨_, rfl, L, rfl, ⟨us, .of (by rw [upd_ne nLva, upd_same])⟩, ?_⟩
            refine for_list (xs := us) (fun i σ H1 => ∃ ys ds y5 y6, σ = [some (.ref a), some (.ref ad), some (.str wd), some (.ref L), some (.ref va), y5, y6] ∧ Same H H1 ∧ H1 L = some (.lst us) ∧ H1 va = some (.lst ys) ∧ DpAll K H1 ys ds ∧ Isvs ds ∧ ds.length = i ∧ resAll g (ts.take i) = .ok ds)
              ⟨[], [], none, none, rfl, s2, by rw [upd_ne nLva, upd_same], upd_same, .nil, fun d h => (nomatch h), rfl, rfl⟩ (fun i σ H1 _ p => ?_) (fun i x σ H1 ei p => ?_) fun σ H1 p => ?_
            · obtain ⟨_, _, _, _, _, _, e, _⟩ := p
              exact .of e
            · obtain ⟨ys, ds, y5, y6, rfl, sm, eL, eva, hds, hiv, ld, er⟩ := p
              obtain ⟨dx, ex, hdx⟩ := dps_get ha ei
              rw [eps, List.getElem?_map] at ex
              obtain ⟨tx, etx, rfl⟩ := Option.map_eq_some_iff.mp ex
              have mt := List.mem_of_getElem? etx
              have hx := hts tx mt
              have hi : i < us.length := (List.getElem?_eq_some_iff.mp ei).1
              refine ⟨x, rfl, _, rfl, x, tx, ad, kvs, g, rfl, dp_kt (same_kt sm) _ x (tok_cl n tx hx).1 hdx, hx, by omega, hV.same sm, fun H2 r s3 hrs => ?_⟩
              have snoc := resAll_snoc g tx (ts.take i) ds er
              have etk : ts.take i ++ [tx] = ts.take (i + 1) := by rw [List.take_add_one, etx]; rfl
              cases eres : res g tx with
              | no rs =>
                rw [eres] at hrs snoc
                obtain ⟨c, rfl, hc⟩ := res_no hrs
                refine ⟨_, rfl, c, _, 0, _, rfl, rfl, hc, atI_nat (j := 0) rfl, rfl, _, rfl, iteT ⟨_, rfl, ?_⟩⟩
                have eall : res g (.op wd ts) = .no rs := by
                  have : resAll g ts = .no rs := by
                    rw [etk] at snoc
                    have := resAll_no g (ts.drop (i + 1)) _ rs snoc
                    rw [List.take_append_drop] at this
                    exact this
                  rw [res, this]
                rw [eall] at q
                exact q H2 _ (sm.trans s3) hrs
              | ok d =>
                rw [eres] at hrs snoc
                obtain ⟨c, u, rfl, hc, hu⟩ := res_ok hrs
                have vd := res_isv hgv hx eres
                refine ⟨_, rfl, c, _, 0, _, rfl, rfl, hc, atI_nat (j := 0) rfl, rfl, _, rfl, ?_⟩
                rw [strEq, decide_eq_false words_ne.1]
                refine iteF ⟨_, rfl, .inl ⟨rfl, _, .of (s3 _ _ eva)⟩, _, rfl, c, _, 1, u, rfl, rfl, hc, atI_nat (j := 1) rfl, va, ys, u, rfl, rfl, s3 _ _ eva, ?_, ?_⟩
                · have ly := dps_len hds
                  exact small1000 (by omega)
                · have kt : KT H2 (upd H2 va (.lst (ys ++ [u]))) := kt_upd (no_tup (s3 _ _ eva) (fun _ z => by cases z) (fun _ _ z => by cases z))
                  refine ⟨ys ++ [u], ds ++ [d], _, _, rfl, same_set (sm.trans s3) nvaH, by rw [upd_ne nLva]; exact s3 _ _ eL, upd_same, ?_, ?_, by simp [ld], ?_⟩
                  · exact dps_app (dps_kt ((same_kt s3).trans kt) ds ys (isvs_cl hiv) hds) (.cons (dp_kt kt d u (isv_cl vd) hu) .nil)
                  · intro y hy
                    rcases List.mem_append.mp hy with h | h
                    · exact hiv y h
                    · rw [List.mem_singleton.mp h]
                      exact vd
                  · rw [← etk]
                    exact snoc
            · obtain ⟨ys, ds, y5, y6, rfl, sm, eL, eva, hds, hiv, ld, er⟩ := p
              rw [lts, List.take_length] at er
              have har' : Ar wd ds.length := by rw [ld, lts]; exact har
              have q1 : Res K H1 (chk (comb wd ds)) Q := by
                have : res g (.op wd ts) = chk (comb wd ds) := by rw [res, er]
                rw [← this]
                exact q.same sm
              refine ⟨_, rfl, _, rfl, wd, va, ys, ds, rfl, .of eva, hds, hiv, har', fun H2 r s3 hrs => ?_⟩
              have gd := good_comb har' hiv
              cases ec : comb wd ds with
              | no rs =>
                rw [ec] at hrs q1
                obtain ⟨c, rfl, hc⟩ := res_no hrs
                refine ⟨_, rfl, c, _, 0, _, rfl, rfl, hc, atI_nat (j := 0) rfl, rfl, _, rfl, iteT (iteT ⟨_, rfl, ?_⟩)⟩
                exact q1 H2 _ s3 hrs
              | ok d =>
                rw [ec] at hrs q1
                obtain ⟨c, u, rfl, hc, hu⟩ := res_ok hrs
                obtain ⟨cd, dd⟩ := gd d ec
                refine ⟨_, rfl, c, _, 0, _, rfl, rfl, hc, atI_nat (j := 0) rfl, rfl, _, rfl, ?_⟩
                rw [strEq, decide_eq_false words_ne.1]
                refine iteF ⟨_, rfl, c, _, 1, u, rfl, rfl, hc, atI_nat (j := 1) rfl, u, d, rfl, dd, hu, cd, fun H3 s4 => ⟨_, rfl, ite2 (fun e => ?_) (fun e => ?_)⟩⟩
                · have q2 : Res K H1 (.ok d) Q := by
                    have : chk (.ok d) = .ok d := by rw [chk, if_pos e]
                    rw [← this]
                    exact q1
                  refine ⟨_, rfl, q2 H3 _ (s3.trans s4) ?_⟩
                  have k := same_kt s4
                  exact .tup (seqT_kt k hc) (.cons (.str _) (.cons (dp_kt k d u cd hu) .nil))
                · have q2 : Res K H1 (.no "size") Q := by
                    have : chk (.ok d) = .no "size" := by rw [chk, if_neg e]
                    rw [← this]
                    exact q1
                  exact ⟨_, rfl, q2.same (s3.trans s4)⟩

/-! ### evaluate -/
def spEval (K : PySem.W.Frag) : Sp := fun vs H Q _ => ∃ (v : V) (t : T) (a : Addr) (kvs : List (Key × V)) (g : Str → Option PyData), vs = [v, .ref a] ∧ Dp K H v (toD t) ∧ TOk 5 t ∧ Vars K H a kvs g ∧ Res K H (res g t) Q
abbrev sEval : Stmt := topS 40
theorem scEval : FnScope ["expression", "variables"] ["expression", "variables"] (defScope sEval) := ⟨rfl, rfl, rfl, by decide +kernel, rfl, by decide +kernel, by decide +kernel⟩
theorem ok_eval (D : D0 K mg "evaluate" sEval ["expression", "variables"]) (ci : C8.Cal P w K mg base 17 "is_expression" (spIex K) []) (ck : C8.Cal P w K mg base 13 "check_variables" (spChv K) []) (cr : C8.Cal P w K mg base 16 "result_of" (spRes K 5) []) :
    C8.Cal P w K mg base 18 "evaluate" (spEval K) [] := by
  refine cal_of D scEval (fun vs H Q E h => ?_) fun f cdv A outer s H vs Q E hr h => ?_
  · obtain ⟨v, t, a, kvs, g, rfl, _⟩ := h
    rfl
  · obtain ⟨v, t, a, kvs, g, rfl, hd, ht, hV, q⟩ := h
    refine ⟨_, pss_cons (ps_if (pt_not (pt_val (pe_k ci hr (pa_cons (pv 0) pa_nil)))) (pss_one ps_never) pss_nil) (pss_cons (ps_expr (pe_k ck hr (pa_cons (pv 1) pa_nil))) (pss_one (ps_ret (pe_k cr hr (pa_cons (pv 0) (pa_cons (pv 1) pa_nil)))))), ?_⟩
    have ct := (tok_cl 5 t ht).1
    refine ⟨v, rfl, v, t, rfl, hd, ht, fun H1 s1 => ⟨_, rfl, iteF ⟨_, rfl, a, kvs, g, rfl, hV.same s1, fun H2 s2 => ?_⟩⟩⟩
    have s := s1.trans s2
    exact ⟨v, rfl, _, rfl, v, t, a, kvs, g, rfl, dp_kt (same_kt s) _ v ct hd, ht, by decide, hV.same s, q.same s⟩
end
end E3

/-! The law's own helpers: pool, draw, whole, small, within, nested, once. -/
namespace E3
open PySem PySem.Spec PyProof.Rows L2

/-! ### any data, where everything stays -/
section
variable {K : PySem.W.Frag} {H H' : Hp}
mutual
theorem dp_same (k : Same H H') : ∀ (d : PyData) (v : V), Dp K H v d → Dp K H' v d
  | .int i, v, h => by cases h; exact .int i
  | .str z, v, h => by cases h; exact .str z
  | .bool b, v, h => by cases h; exact .bl b
  | .none, v, h => by cases h; exact .non
  | .tuple xs, v, h => by
    cases h with
    | tup hs ha => exact .tup (seqT_kt (same_kt k) hs) (dps_same k xs _ ha)
  | .list xs, v, h => by
    cases h with
    | lst hs ha => exact .lst (k.seq hs) (dps_same k xs _ ha)
  | .dict _, v, h => by cases h
theorem dps_same (k : Same H H') : ∀ (ds : List PyData) (vs : List V), DpAll K H vs ds → DpAll K H' vs ds
  | [], _, h => by cases h; exact .nil
  | d :: ds, _, h => by
    cases h with
    | cons h1 h2 => exact .cons (dp_same k d _ h1) (dps_same k ds _ h2)
end
end
theorem dps_snoc {K : PySem.W.Frag} {H : Hp} {vs : List V} {ds : List PyData} {v : V} {d : PyData} (h : DpAll K H vs ds) (h1 : Dp K H v d) : DpAll K H (vs ++ [v]) (ds ++ [d]) := dps_app h (.cons h1 .nil)
/-- all but the object at p stands -/
def Off (p : Addr) (H H' : Hp) : Prop := ∀ b o, b ≠ p → H b = some o → H' b = some o
theorem Off.refl (p : Addr) (H : Hp) : Off p H H := fun _ _ _ h => h
theorem Off.trans {p : Addr} {H H1 H2 : Hp} (a : Off p H H1) (b : Off p H1 H2) : Off p H H2 := fun c o n h => b c o n (a c o n h)
theorem off_same {p : Addr} {H H' : Hp} (s : Same H H') : Off p H H' := fun b o _ h => s b o h
theorem off_upd {p : Addr} {H : Hp} {o : HO} : Off p H (upd H p o) := fun b u n h => by
  rw [upd_ne n]
  exact h
theorem off_kt {p : Addr} {H H' : Hp} {xs : List V} (f : Off p H H') (h : H p = some (.lst xs)) : KT H H' := fun a ys r => by
  have ne : a ≠ p := fun e => no_tup (h := h) (fun _ z => by cases z) (fun _ _ z => by cases z) ys (e ▸ r)
  rcases r with r | ⟨o, r⟩
  · exact .inl (f _ _ ne r)
  · exact .inr ⟨o, f _ _ ne r⟩
/-- a pool of draws: two numbers -/
def Pool (H : Hp) (p : Addr) : Prop := ∃ x y : Int, H p = some (.lst [.int x, .int y]) ∧ 0 ≤ x ∧ 0 ≤ y ∧ y < 2147483648
theorem Pool.lst {H : Hp} {p : Addr} (h : Pool H p) : ∃ xs, H p = some (.lst xs) := let ⟨_, _, e, _⟩ := h; ⟨_, e⟩
section
variable {P : Program} {w : World} {K : PySem.W.Frag} {mg : Str → Option Value} {base : Heap}

/-! ### _law_pool -/
def spPool (K : PySem.W.Frag) : Sp := fun vs H Q _ => ∃ (a : Addr) (ns : List Int) (k : Nat), vs = [.ref a, .int k] ∧ SqL K H a (ns.map V.int) ∧ k ≤ 8 ∧ ∀ H' p, Same H H' → H p = none → Pool H' p → Q (.ref p) H'
abbrev sPool : Stmt := topS 42
theorem scPool : FnScope ["_law_script", "_law_k", "_law_cell", "_law_great", "_law_mixed"] ["_law_script", "_law_k"] (defScope sPool) := ⟨rfl, rfl, rfl, by decide +kernel, rfl, by decide +kernel, by decide +kernel⟩
theorem cut_ints (ns : List Int) (lo hi : Option Int) : ∃ ms : List Int, cutV (ns.map V.int) lo hi = ms.map V.int := by
  unfold cutV
  exact ⟨_, by rw [← List.map_drop, ← List.map_take]⟩
theorem small_mul {i j : Int} {a b : Int} (h1 : 0 ≤ i) (h2 : i ≤ a) (h3 : 0 ≤ j) (h4 : j ≤ b) : 0 ≤ i * j ∧ i * j ≤ a * b := by
  refine ⟨Int.mul_nonneg h1 h3, Int.mul_le_mul h2 h4 h3 (by omega)⟩
def mixOf (great k : Int) : Int := (great % 2147483629 + 7919 * k * k + 31 * k + 17) * 48271 % 2147483647
theorem ok_pool (D : D0 K mg "_law_pool" sPool ["_law_script", "_law_k"]) (G : Glo K mg) : C8.Cal P w K mg base 1 "_law_pool" (spPool K) [] := by
  refine cal_of D scPool (fun vs H Q E h => ?_) fun f cdv A outer s H vs Q E hr h => ?_
  · obtain ⟨a, ns, k, rfl, _⟩ := h
    rfl
  · obtain ⟨a, ns, k, rfl, hs, hk, q⟩ := h
    refine ⟨_, pss_cons (ps_set (i := 2) scPool.nd rfl (.inl rfl) (pe_op op_add (pe_op op_mul pe_int (pe_callB (cr_sum rfl) (by rfl) G.sum b_sum (pa_cons (pe_slice sl_list (pv 0) po_none (po_some pe_int)) pa_nil))) (pv 1)))
      (pss_cons (ps_if (pt_cmpR op_lt (pv 1) (pe_callB call_len_seq (by rfl) G.len b_len (pa_cons (pv 0) pa_nil)) (nomark _)) (pss_one (ps_set (i := 2) scPool.nd rfl (.inl rfl) (pe_ix ix_list (pv 0) (pv 1) (fun _ _ => rfl)))) pss_nil)
      (pss_cons (ps_set (i := 3) scPool.nd rfl (.inl rfl) (pe_callB call_abs (by rfl) G.abs b_abs (pa_cons (pv 2) pa_nil)))
      (pss_cons (ps_set (i := 4) scPool.nd rfl (.inl rfl) (pe_op op_mod (pe_op op_mul (pe_op op_add (pe_op op_add (pe_op op_add (pe_op op_mod (pv 3) pe_int) (pe_op op_mul (pe_op op_mul pe_int (pv 1)) (pv 1))) (pe_op op_mul pe_int (pv 1))) pe_int) pe_int) pe_int))
      (pss_one (ps_ret (pe_lst (pa_cons (pe_op op_mul (pv 3) (pe_callTy call_int1 (by rfl) G.int b_int (pa_cons (pe_cmpR op_ge (pv 3) (pe_op op_pow pe_int pe_int) (nomark _)) pa_nil)))
        (pa_cons (pe_op op_mod (pe_op op_mul (pv 4) (pv 4)) pe_int) pa_nil)))))))), ?_⟩
    obtain ⟨ms, ems⟩ := cut_ints ns none (some 63)
    refine ⟨_, rfl, 63, rfl, a, _, rfl, hs, fun c nc => ⟨c, ms, rfl, .of (by rw [upd_same, ← ems]), 11, ms.sum, rfl, rfl, .inl ⟨by decide, by decide⟩, _, rfl, _, _, rfl, rfl, ?_⟩⟩
    have s1 := same_upd (o := .lst (cutV (ns.map V.int) none (some 63))) nc
    have hs1 := s1.seq hs
    generalize upd H c (.lst (cutV (ns.map V.int) none (some 63))) = H1 at s1 hs1 ⊢
    -- whatever the cell is
    have tail : ∀ cell : Int, tSeq (tAsg (tCB (fun xs H Q => ∃ i, xs = [.int i] ∧ Q (.int (if i < 0 then -i else i)) H) (tCons (tVar 2) tNil)) (gName 3))
        (tSeq (tAsg (tOp (rI (fun _ j => 0 < j) fun i j => .int (i % j)) (tOp (rI CMul fun i j => .int (i * j)) (tOp (rI0 fun i j => .int (i + j)) (tOp (rI0 fun i j => .int (i + j)) (tOp (rI0 fun i j => .int (i + j)) (tOp (rI (fun _ j => 0 < j) fun i j => .int (i % j)) (tVar 3) (tC (.int 2147483629)))
            (tOp (rI CMul fun i j => .int (i * j)) (tOp (rI CMul fun i j => .int (i * j)) (tC (.int 7919)) (tVar 1)) (tVar 1))) (tOp (rI CMul fun i j => .int (i * j)) (tC (.int 31)) (tVar 1))) (tC (.int 17))) (tC (.int 48271))) (tC (.int 2147483647))) (gName 4))
          (tRet (tLst (tCons (tOp (rI CMul fun i j => .int (i * j)) (tVar 3) (tCB (fun xs H Q => (∃ i, xs = [.int i] ∧ Q (.int i) H) ∨ ∃ k, xs = [.bl k] ∧ Q (.int (if k then 1 else 0)) H) (tCons (tOp (rI0 fun i j => .bl (decide (j ≤ i))) (tVar 3) (tOp (rI CPow fun i j => .int (i ^ j.toNat)) (tC (.int 10)) (tC (.int 18)))) tNil)))
            (tCons (tOp (rI (fun _ j => 0 < j) fun i j => .int (i % j)) (tOp (rI CMul fun i j => .int (i * j)) (tVar 4) (tVar 4)) (tC (.int 2147483629))) tNil)))))
        { nx := fun _ H' => Q V.non H', rt := Q } [some (.ref a), some (.int k), some (.int cell), none, none] H1 := by
      intro cell
      refine ⟨_, rfl, cell, rfl, ?_⟩
      have hg : 0 ≤ (if cell < 0 then -cell else cell) := by split <;> omega
      generalize (if cell < 0 then -cell else cell) = great at hg
      have m1 := Int.emod_nonneg great (show (2147483629 : Int) ≠ 0 by decide)
      have m2 := Int.emod_lt_of_pos great (show (0 : Int) < 2147483629 by decide)
      have kk : (0 : Int) ≤ 7919 * (k : Int) * (k : Int) ∧ 7919 * (k : Int) * (k : Int) ≤ 7919 * 8 * 8 := by
        have h1 : 0 ≤ 7919 * (k : Int) ∧ 7919 * (k : Int) ≤ 7919 * 8 := by omega
        exact small_mul h1.1 h1.2 (by omega) (by omega)
      refine ⟨_, rfl, great, 2147483629, rfl, rfl, (by show (0 : Int) < 2147483629; decide), _, rfl, 7919, k, rfl, rfl, .inl ⟨by decide, by decide⟩, _, rfl, _, k, rfl, rfl, .inl ⟨by omega, by omega⟩, _, _, rfl, rfl, _, rfl, 31, k, rfl, rfl, .inl ⟨by decide, by decide⟩, _, _, rfl, rfl, _, _, rfl, rfl, _, 48271, rfl, rfl, .inr ⟨by decide, by decide⟩, _, _, rfl, rfl, (by show (0 : Int) < 2147483647; decide), ?_⟩
      have x1 : 0 ≤ mixOf great k := Int.emod_nonneg _ (by decide)
      have x2 : mixOf great k < 2147483647 := Int.emod_lt_of_pos _ (by decide)
      have y1 := Int.emod_nonneg (mixOf great k * mixOf great k) (show (2147483629 : Int) ≠ 0 by decide)
      have y2 := Int.emod_lt_of_pos (mixOf great k * mixOf great k) (show (0 : Int) < 2147483629 by decide)
      refine ⟨_, rfl, _, rfl, 10, 18, rfl, rfl, ⟨by decide, by decide, by decide⟩, _, _, rfl, rfl, .inr ⟨_, rfl, great, _, rfl, rfl, .inr ?_, _, rfl, _, rfl, mixOf great k, mixOf great k, rfl, rfl, .inl ⟨by omega, by omega⟩, _, _, rfl, rfl, (by show (0 : Int) < 2147483629; decide), two_ok, fun p np => ?_⟩⟩
      · split <;> exact ⟨by decide, by decide⟩
      · refine q _ p (s1.trans (same_upd np)) (same_none s1 np) ⟨_, _, upd_same, ?_, y1, by omega⟩
        split
        · omega
        · omega
    refine ⟨_, rfl, _, rfl, a, _, rfl, .inl hs1, _, _, rfl, rfl, _, rfl, ite2 (fun e1 => ?_) (fun e1 => ?_)⟩
    · have h1 : k < ns.length := by
        have := of_decide_eq_true e1
        rw [List.length_map] at this
        omega
      refine ⟨_, rfl, _, rfl, a, _, _, _, rfl, rfl, hs1, atI_nat (j := k) (by rw [List.getElem?_map, List.getElem?_eq_getElem h1]; rfl), ?_⟩
      exact tail _
    · exact tail _
end
end E3

/-! draw, whole, small, within, nested. -/
namespace E3
open PySem PySem.Spec PyProof.Rows L2
section
variable {P : Program} {w : World} {K : PySem.W.Frag} {mg : Str → Option Value} {base : Heap}
def spDraw (K : PySem.W.Frag) : Sp := fun vs H Q _ => ∃ (p : Addr) (m : Int), vs = [.ref p, .int m] ∧ Pool H p ∧ 0 < m ∧ m ≤ 1000 ∧ ∀ H' d, 0 ≤ d → d < m → Off p H H' → Pool H' p → Q (.int d) H'
abbrev sDraw : Stmt := topS 43
theorem scDraw : FnScope ["_law_pool_here", "_law_many", "_law_found"] ["_law_pool_here", "_law_many"] (defScope sDraw) := ⟨rfl, rfl, rfl, by decide +kernel, rfl, by decide +kernel, by decide +kernel⟩
theorem ok_draw (D : D0 K mg "_law_draw" sDraw ["_law_pool_here", "_law_many"]) : C8.Cal P w K mg base 1 "_law_draw" (spDraw K) [] := by
  refine cal_of D scDraw (fun vs H Q E h => ?_) fun f cdv A outer s H vs Q E hr h => ?_
  · obtain ⟨p, m, rfl, _⟩ := h
    rfl
  · obtain ⟨p, m, rfl, ⟨x, y, e, hx, hy, hy2⟩, hm, hm2, q⟩ := h
    refine ⟨_, pss_cons (ps_if (pt_cmpR op_gt (pe_ix ix_list (pv 0) pe_int (fun _ _ => rfl)) pe_int (nomark _))
        (pss_cons (ps_set (i := 2) scDraw.nd rfl (.inl rfl) (pe_op op_mod (pe_ix ix_list (pv 0) pe_int (fun _ _ => rfl)) (pv 1)))
        (pss_cons (ps_asg (pe_op op_fdiv (pe_ix ix_list (pv 0) pe_int (fun _ _ => rfl)) (pv 1)) (pg_sub (pv 0) pe_int set_list))
        (pss_one (ps_ret (pv 2))))) pss_nil)
      (pss_cons (ps_asg (pe_op op_mod (pe_op op_add (pe_op op_mul (pe_ix ix_list (pv 0) pe_int (fun _ _ => rfl)) pe_int) pe_int) pe_int) (pg_sub (pv 0) pe_int set_list))
      (pss_one (ps_ret (pe_op op_mod (pe_op op_fdiv (pe_op op_mod (pe_op op_mul (pe_ix ix_list (pv 0) pe_int (fun _ _ => rfl)) (pe_ix ix_list (pv 0) pe_int (fun _ _ => rfl))) pe_int) pe_int) (pv 1))))), ?_⟩
    have hS : SqL K H p [.int x, .int y] := .of e
    refine ⟨_, rfl, p, _, 0, _, rfl, rfl, hS, atI_nat (j := 0) rfl, _, _, rfl, rfl, _, rfl, ite2 (fun e1 => ?_) (fun e1 => ?_)⟩
    · refine ⟨_, rfl, p, _, 0, _, rfl, rfl, hS, atI_nat (j := 0) rfl, _, rfl, x, m, rfl, rfl, hm, ?_⟩
      refine ⟨_, rfl, p, _, 0, _, rfl, rfl, hS, atI_nat (j := 0) rfl, _, rfl, x, m, rfl, rfl, ⟨hm, by omega⟩, _, rfl, p, _, 0, 0, rfl, rfl, e, rfl, _, rfl, ?_⟩
      exact q _ _ (Int.emod_nonneg x (by omega)) (Int.emod_lt_of_pos x hm) off_upd ⟨_, _, upd_same, Int.ediv_nonneg hx (by omega), hy, hy2⟩
    · have m0 := Int.emod_nonneg (y * 48271 + 11) (show (2147483647 : Int) ≠ 0 by decide)
      have m1 := Int.emod_lt_of_pos (y * 48271 + 11) (show (0 : Int) < 2147483647 by decide)
      refine ⟨_, rfl, p, _, 1, _, rfl, rfl, hS, atI_nat (j := 1) rfl, y, 48271, rfl, rfl, .inr ⟨by decide, by decide⟩, _, _, rfl, rfl, _, 2147483647, rfl, rfl, (by show (0 : Int) < 2147483647; decide), _, rfl, p, _, 1, 1, rfl, rfl, e, rfl, ?_⟩
      have hS2 : SqL K (upd H p (.lst ([V.int x, V.int y].set 1 (.int ((y * 48271 + 11) % 2147483647))))) p [.int x, .int ((y * 48271 + 11) % 2147483647)] := .of upd_same
      refine ⟨_, rfl, p, _, 1, _, rfl, rfl, hS2, atI_nat (j := 1) rfl, _, rfl, p, _, 1, _, rfl, rfl, hS2, atI_nat (j := 1) rfl, _, _, rfl, rfl, .inl ⟨by omega, by omega⟩, _, 2147483629, rfl, rfl, (by show (0 : Int) < 2147483629; decide), _, 16, rfl, rfl, ⟨by decide, by decide⟩, _, rfl, _, m, rfl, rfl, hm, ?_⟩
      exact q _ _ (Int.emod_nonneg _ (by omega)) (Int.emod_lt_of_pos _ hm) off_upd ⟨_, _, upd_same, hx, m0, by omega⟩

/-! ### _law_whole -/
abbrev sWhole : Stmt := topS 44
theorem scWhole : FnScope ["_law_thing"] ["_law_thing"] (defScope sWhole) := ⟨rfl, rfl, rfl, by decide +kernel, rfl, by decide +kernel, by decide +kernel⟩
theorem ok_whole (D : D0 K mg "_law_whole" sWhole ["_law_thing"]) (G : Glo K mg) : C8.Cal P w K mg base 1 "_law_whole" (spIsI K) [] := by
  refine cal_of D scWhole (fun vs H Q E h => ?_) fun f cdv A outer s H vs Q E hr h => ?_
  · obtain ⟨v, d, rfl, _⟩ := h
    rfl
  · obtain ⟨v, d, rfl, hd, c, q⟩ := h
    refine ⟨_, pss_one (ps_ret (pe_and (pe_isi G.isi G.int b_int (pv 0)) (pe_one (pe_not (pe_isi G.isi G.bool b_bool (pv 0)))))), ?_⟩
    refine ⟨v, rfl, isi_I hd c ⟨_, rfl, ite2 (fun e => ?_) (fun e => ?_)⟩⟩
    · rw [e] at q
      exact ⟨v, rfl, isi_B hd c ⟨_, rfl, q⟩⟩
    · rw [eq_false_of_ne_true e] at q
      exact q

/-! ### _law_within -/
abbrev sLsz : Stmt := topS 46
theorem scLsz : FnScope ["_law_thing", "_law_one"] ["_law_thing"] (defScope sLsz) := ⟨rfl, rfl, rfl, by decide +kernel, rfl, by decide +kernel, by decide +kernel⟩
theorem ok_lsz (D : D0 K mg "_law_within" sLsz ["_law_thing"]) (G : Glo K mg) : ∀ n, C8.Cal P w K mg base (n + 1) "_law_within" (spSz K n) []
  | 0 => cal_false D scLsz fun vs H Q E h => by
    obtain ⟨v, d, _, h, _⟩ := h
    omega
  | n + 1 => by
    have ih := ok_lsz D G n
    refine cal_of D scLsz (fun vs H Q E h => ?_) fun f cdv A outer s H vs Q E hr h => ?_
    · obtain ⟨v, d, rfl, _⟩ := h
      rfl
    · obtain ⟨v, d, rfl, hn, hd, c, q⟩ := h
      refine ⟨_, pss_one (ps_ret (pe_ifExp (pt_val (pe_isi G.isi G.tuple b_tuple (pv 0)))
        (pe_callB (cr_sum rfl) (by rfl) G.sum b_sum (pa_cons (pe_lc (own := [("_law_one", 1)]) (g := gName 1) (tt := tYes) rfl scLsz.nd (pi_tup (pv 0)) (blkOk_by (N := ["_law_thing", "_law_one"]) (sc := defScope sLsz) (by decide +kernel))
            (fun _ _ _ _ _ => pg_name (i := 1) scLsz.nd rfl (Or.inl rfl)) (fun _ _ _ _ _ => pts_nil) (fun _ _ _ _ _ => pe_op op_add pe_int (pe_k ih hr (pa_cons (pv 1) pa_nil)))) pa_nil)) pe_int)), ?_⟩
      refine ⟨v, rfl, isi_T hd c ⟨_, rfl, ?_⟩⟩
      rcases cl_cases c with ⟨i, rfl⟩ | ⟨z, rfl, hz, _⟩ | ⟨xs, rfl, hx, hcs⟩
      · exact iteF (q H (Same.refl H))
      · exact iteF (q H (Same.refl H))
      · obtain ⟨a, vs, rfl, hs, ha⟩ := dp_tup hd
        have hl := dps_len ha
        refine iteT ⟨_, rfl, a, rfl, ⟨vs, hs⟩, fun D nD => ?_⟩
        refine lc_pure (walk_tup (xs := vs)) (fun i => .int (1 + szw (xs.getD i .none))) nD (by omega) (fun H1 s1 => seqT_kt (same_kt s1) hs) (fun i x H1 H' hi s1 y => ?_) fun H1 s1 e => ?_
        · obtain ⟨rfl, ei⟩ := y
          obtain ⟨dx, ex, hdx⟩ := dps_get ha ei
          have mx := List.mem_of_getElem? ex
          have cx : cl dx = true := hcs dx mx
          have egd : xs.getD i .none = dx := by
            rw [List.getD_eq_getElem?_getD, ex]
            rfl
          refine ⟨Same.refl _, fun R hR => ⟨rfl, x, rfl, x, dx, rfl, depth_item mx hn, dp_kt (same_kt s1) dx x cx hdx, cx, fun H4 s4 => ⟨_, _, rfl, rfl, ?_⟩⟩⟩
          rw [← egd]
          exact hR H4 s4
        · refine ⟨D, xs.map fun x => (1 + szw x : Int), rfl, .of ?_, ?_⟩
          · rw [e, map_range_get (f := fun x => V.int (1 + szw x)) .none hl.symm, List.map_map]
            rfl
          · rw [← szwAll_sum]
            exact q H1 s1

/-! ### _law_small -/
theorem wl_all_filter (m : Nat) (xs : List PyData) : (xs.filter fun x => !wl m x).isEmpty = xs.all (fun x => wl m x) := by
  induction xs with
  | nil => rfl
  | cons x xs ih =>
    rw [List.filter_cons]
    cases h : wl m x with
    | true => simp [h, ih]
    | false => simp [h]
theorem abs_big (i : Int) : decide ((if i < 0 then -i else i) < big) = (decide (-big < i) && decide (i < big)) := by
  rw [← Bool.decide_and]
  apply decide_eq_decide.mpr
  generalize big = b
  split <;> constructor <;> intro h <;> omega
theorem txt_len {z : Str} (h : z.cps.toList.all isSign = true) : txtOk z = decide (z.length ≤ 60) := by
  have h' : (z.cps.toList.all fun c => decide (c ∈ signs.cps.toList)) = true := h
  unfold txtOk wordOk
  rw [h', decide_eq_true (Nat.zero_le _), Bool.true_and, Bool.and_true]
theorem eqv_list_nil (ds : List PyData) : PyData.eqv (.list ds) (.list []) = ds.isEmpty := by
  cases ds <;> rfl
def spLsm (K : PySem.W.Frag) (n : Nat) : Sp := fun vs H Q _ => ∃ (v : V) (d : PyData) (lv : Int), vs = [v, .int lv] ∧ d.depth < n ∧ d.depth ≤ 20 ∧ Dp K H v d ∧ cl d = true ∧ ∀ H', Same H H' → Q (.bl (wl lv.toNat d)) H'
abbrev sLsm : Stmt := topS 45
theorem scLsm : FnScope ["_law_thing", "_law_levels", "_law_wrong", "_law_one"] ["_law_thing", "_law_levels"] (defScope sLsm) := ⟨rfl, rfl, rfl, by decide +kernel, rfl, by decide +kernel, by decide +kernel⟩
theorem ok_lsm (D : D0 K mg "_law_small" sLsm ["_law_thing", "_law_levels"]) (G : Glo K mg) : ∀ n, C8.Cal P w K mg base (n + 1) "_law_small" (spLsm K n) []
  | 0 => cal_false D scLsm fun vs H Q E h => by
    obtain ⟨v, d, lv, _, h, _⟩ := h
    omega
  | n + 1 => by
    have ih := ok_lsm D G n
    refine cal_of D scLsm (fun vs H Q E h => ?_) fun f cdv A outer s H vs Q E hr h => ?_
    · obtain ⟨v, d, lv, rfl, _⟩ := h
      rfl
    · obtain ⟨v, d, lv, rfl, hn, h20, hd, c, q⟩ := h
      refine ⟨_, pss_cons (ps_if (pt_val (pe_isi G.isi G.tuple b_tuple (pv 0)))
          (pss_cons (ps_setLc (i := 2) (own := [("_law_one", 3)]) (g := gName 3) (by rfl) scLsm.nd rfl rfl (sw_true rfl rfl rfl (by decide +kernel)) (pi_tup (pv 0)) (blkOk_by (N := ["_law_thing", "_law_levels", "_law_wrong", "_law_one"]) (sc := defScope sLsm) (by decide +kernel))
            (fun _ _ _ _ _ => pg_name (i := 3) scLsm.nd rfl (Or.inl rfl)) (fun _ _ _ _ _ => pts_one (pt_not (pt_val (pe_k ih hr (pa_cons (pv 3) (pa_cons (pe_op op_sub (pv 1) pe_int) pa_nil)))))) (fun _ _ _ _ _ => pv 3))
          (pss_one (ps_ret (pe_and (pe_cmpR op_gt (pv 1) pe_int (nomark _)) (pe_and (pe_cmpR op_le (pe_callB call_len_seq (by rfl) G.len b_len (pa_cons (pv 0) pa_nil)) pe_int (nomark _)) (pe_one (pe_cmpR (op_eqD hr.units) (pv 2) (pe_lst pa_nil) (nomark _)))))))) pss_nil)
        (pss_one (ps_ret (pe_ifExp (pt_val (pe_isi G.isi G.str b_str (pv 0))) (pe_cmpR op_le (pe_callB call_len_str (by rfl) G.len b_len (pa_cons (pv 0) pa_nil)) pe_int (nomark _))
          (pe_cmpR op_lt (pe_callB call_abs (by rfl) G.abs b_abs (pa_cons (pv 0) pa_nil)) (pe_op op_pow pe_int pe_int) (nomark _))))), ?_⟩
      refine ⟨v, rfl, isi_T hd c ⟨_, rfl, ?_⟩⟩
      rcases cl_cases c with ⟨i, rfl⟩ | ⟨z, rfl, hz, hzs⟩ | ⟨xs, rfl, hx, hcs⟩
      · obtain rfl := dp_int hd
        refine iteF ⟨_, rfl, isi_S hd c ⟨_, rfl, iteF ⟨_, rfl, i, rfl, 10, 60, rfl, rfl, ⟨by decide, by decide, by decide⟩, _, _, rfl, rfl, ?_⟩⟩⟩
        have g := q H (Same.refl H)
        have ew : wl lv.toNat (.int i) = decide ((if i < 0 then -i else i) < big) := by
          rw [abs_big]
          cases lv.toNat <;> rfl
        rw [ew] at g
        exact g
      · obtain rfl := dp_str hd
        refine iteF ⟨_, rfl, isi_S hd c ⟨_, rfl, iteT ⟨_, rfl, z, rfl, Nat.le_of_lt (small1000 (by omega)), _, _, rfl, rfl, ?_⟩⟩⟩
        have g := q H (Same.refl H)
        have ew : wl lv.toNat (.str z) = decide ((z.length : Int) ≤ 60) := by
          have : wl lv.toNat (.str z) = txtOk z := by cases lv.toNat <;> rfl
          rw [this, txt_len hzs]
          exact decide_eq_decide.mpr (by omega)
        rw [ew] at g
        exact g
      · obtain ⟨a, vs, rfl, hs, ha⟩ := dp_tup hd
        have hl := dps_len ha
        refine iteT ⟨_, rfl, a, rfl, ⟨vs, hs⟩, fun D nD => ?_⟩
        refine lc_it (walk_tup (xs := vs)) (fun i H1 => Same H H1 ∧ ∃ acc, H1 D = some (.lst acc) ∧ DpAll K H1 acc ((xs.take i).filter fun x => !wl (lv - 1).toNat x) ∧ acc.length ≤ i) ⟨same_upd nD, [], upd_same, .nil, Nat.zero_le _⟩
          (fun i H1 _ p => seqT_kt (same_kt p.1) hs) (fun i x H1 H' hi p y => ?_) fun H1 p => ?_
        · obtain ⟨sm, acc, eD, hac, hlen⟩ := p
          obtain ⟨rfl, ei⟩ := y
          obtain ⟨dx, ex, hdx⟩ := dps_get ha ei
          have mx := List.mem_of_getElem? ex
          have cx : cl dx = true := hcs dx mx
          have hdx1 := dp_kt (same_kt sm) dx x cx hdx
          have ddx := depth_item mx hn
          have etk : (xs.take (i + 1)).filter (fun y => !wl (lv - 1).toNat y) = (xs.take i).filter (fun y => !wl (lv - 1).toNat y) ++ (if wl (lv - 1).toNat dx = true then [] else [dx]) := by
            rw [List.take_add_one, ex, List.filter_append]
            generalize (lv - 1).toNat = m
            cases h : wl m dx <;> simp [h]
          have x20 : dx.depth ≤ 20 := by
            have := depthAll_ge xs dx mx
            simp only [PyData.depth] at h20
            omega
          have hac' : ∀ H2, Same H' H2 → DpAll K H2 acc ((xs.take i).filter fun x => !wl (lv - 1).toNat x) := fun H2 s2 => dps_same s2 _ _ hac
          refine ⟨rfl, _, rfl, _, rfl, _, _, rfl, rfl, x, dx, lv - 1, rfl, ddx, x20, hdx1, cx, fun H4 s4 => ?_⟩
          refine ⟨_, rfl, ite2 (fun e => ?_) (fun e => ?_)⟩
          · have e' : wl (lv - 1).toNat dx = false := by
              cases h : wl (lv - 1).toNat dx with
              | false => rfl
              | true =>
                rw [h] at e
                cases e
            refine ⟨_, rfl, acc, s4 _ _ eD, small1000 (by omega), same_set (sm.trans s4) nD, acc ++ [x], upd_same, ?_, by simp; omega⟩
            rw [etk, e', if_neg (by simp)]
            have kt : KT H4 (upd H4 D (.lst (acc ++ [x]))) := kt_upd (no_tup (s4 _ _ eD) (fun _ z => by cases z) (fun _ _ z => by cases z))
            have ca : clAll ((xs.take i).filter fun x => !wl (lv - 1).toNat x) = true := by
              rw [clAll_iff]
              exact fun y hy => hcs y (List.mem_of_mem_take (List.mem_filter.mp hy).1)
            exact dps_snoc (dps_kt kt _ _ ca (hac' H4 s4)) (dp_kt ((same_kt s4).trans kt) dx x cx hdx1)
          · have e' : wl (lv - 1).toNat dx = true := by
              cases h : wl (lv - 1).toNat dx with
              | true => rfl
              | false =>
                rw [h] at e
                exact absurd rfl e
            refine ⟨sm.trans s4, acc, s4 _ _ eD, ?_, by omega⟩
            rw [etk, e', if_pos rfl, List.append_nil]
            exact hac' H4 s4
        · obtain ⟨sm, acc, eD, hac, hlen⟩ := p
          rw [hl, List.take_length] at hac
          refine ⟨_, rfl, _, _, rfl, rfl, _, rfl, ite2 (fun e1 => ?_) (fun e1 => ?_)⟩
          · have h1 : 0 < lv := of_decide_eq_true e1
            obtain ⟨m, em⟩ : ∃ m : Nat, lv = (m : Int) + 1 := ⟨(lv - 1).toNat, by omega⟩
            have e2 : lv.toNat = m + 1 := by omega
            have e3 : (lv - 1).toNat = m := by omega
            rw [e3] at hac
            have g := q
            rw [e2] at g
            refine ⟨_, rfl, a, vs, rfl, .inr (seqT_kt (same_kt sm) hs), _, _, rfl, rfl, _, rfl, ite2 (fun e4 => ?_) (fun e4 => ?_)⟩
            · have w2 : xs.length ≤ 50 := by
                have := of_decide_eq_true e4
                omega
              refine ⟨_, rfl, Nat.zero_le _, fun p np => ⟨.list (xs.filter fun x => !wl m x), .list [], .lst ((same_upd np).seq (.of eD)) (dps_same (same_upd np) _ _ hac), .lst (.of upd_same) .nil, ?_, by decide, ?_⟩⟩
              · have ca : clAll (xs.filter fun x => !wl m x) = true := by
                  rw [clAll_iff]
                  exact fun y hy => hcs y (List.mem_filter.mp hy).1
                have dd : PyData.depthAll (xs.filter fun x => !wl m x) ≤ 20 := depthAll_le _ _ fun y hy => by
                  have := depthAll_ge xs y (List.mem_filter.mp hy).1
                  simp only [PyData.depth] at h20
                  omega
                unfold SeqAt.shaped
                rw [show PyData.canLay0 (.list (xs.filter fun x => !wl m x)) = true from cl_canLayAll _ ca, Bool.true_and]
                apply decide_eq_true
                simp only [PyData.depth]
                omega
              · rw [eqv_list_nil, wl_all_filter]
                have g2 := g _ (sm.trans (same_upd (o := .lst []) np))
                simp only [wl, decide_eq_true w2, Bool.true_and] at g2
                exact g2
            · have w2 : ¬ xs.length ≤ 50 := fun k => e4 (decide_eq_true (by omega))
              have g2 := g _ sm
              simp only [wl, decide_eq_false w2, Bool.false_and] at g2
              exact g2
          · have h1 : ¬ 0 < lv := fun k => e1 (decide_eq_true k)
            have e2 : lv.toNat = 0 := by omega
            have g := q _ sm
            rw [e2] at g
            exact g

/-! ### _law_nested -/
def nest : Nat → PyData
  | 0 => .tuple []
  | n + 1 => .tuple [nest n]
theorem nest_cl : ∀ n, cl (nest n) = true
  | 0 => rfl
  | n + 1 => by
    simp [nest, cl, clAll, nest_cl n]
def spNest (K : PySem.W.Frag) : Sp := fun vs H Q _ => ∃ n : Nat, vs = [.int n] ∧ n ≤ 10 ∧ ∀ H' v, Same H H' → Dp K H' v (nest n) → Q v H'
abbrev sNest : Stmt := topS 52
theorem scNest : FnScope ["_law_levels", "_law_found", "_law_turn"] ["_law_levels"] (defScope sNest) := ⟨rfl, rfl, rfl, by decide +kernel, rfl, by decide +kernel, by decide +kernel⟩
theorem ok_nest (D : D0 K mg "_law_nested" sNest ["_law_levels"]) (G : Glo K mg) : C8.Cal P w K mg base 1 "_law_nested" (spNest K) [] := by
  refine cal_of D scNest (fun vs H Q E h => ?_) fun f cdv A outer s H vs Q E hr h => ?_
  · obtain ⟨n, rfl, _⟩ := h
    rfl
  · obtain ⟨n, rfl, hn, q⟩ := h
    refine ⟨_, pss_cons (ps_set (i := 1) scNest.nd rfl (.inl rfl) (pe_tup pa_nil))
      (pss_cons (ps_for PassesOwn.never rfl (pi_range1 (by rfl) G.range (pa_cons (pv 0) pa_nil)) (pg_name (i := 2) scNest.nd rfl (Or.inl rfl)) (pss_one (ps_set (i := 1) scNest.nd rfl (.inl rfl) (pe_tup (pa_cons (pv 1) pa_nil)))))
      (pss_one (ps_ret (pv 1)))), ?_⟩
    refine ⟨Nat.zero_le _, fun p np => ?_⟩
    refine ⟨_, rfl, n, rfl, by omega, by omega, ?_⟩
    refine for_range (lo := 0) (n := (n : Int).toNat) (fun i σ H1 => ∃ v y, σ = [some (.int n), some v, y] ∧ Same H H1 ∧ Dp K H1 v (nest i)) ⟨_, _, rfl, same_upd np, .tup (.inl (.inl upd_same)) .nil⟩ (fun i σ H1 hi p => ?_) fun σ H1 p => ?_
    · obtain ⟨v, y, rfl, sm, hv⟩ := p
      refine ⟨_, rfl, by show 1 ≤ sizeLine; decide, fun r nr => ?_⟩
      exact ⟨_, _, rfl, sm.trans (same_upd nr), .tup (.inl (.inl upd_same)) (.cons (dp_same (same_upd nr) _ _ hv) .nil)⟩
    · obtain ⟨v, y, rfl, sm, hv⟩ := p
      rw [Int.toNat_natCast] at hv
      exact ⟨_, rfl, q H1 v sm hv⟩
end
end E3

/-! once, the law's names, the law's pair. -/
namespace E3
open PySem PySem.Spec PyProof.Rows L2
section
variable {P : Program} {w : World} {K : PySem.W.Frag} {mg : Str → Option Value} {base : Heap}

/-! ### _law_once -/
abbrev sOnce : Stmt := topS 50
theorem scOnce : FnScope ["_law_names", "_law_name"] ["_law_names"] (defScope sOnce) := ⟨rfl, rfl, rfl, by decide +kernel, rfl, by decide +kernel, by decide +kernel⟩
theorem ok_once (D : D0 K mg "_law_once" sOnce ["_law_names"]) (G : Glo K mg) : C8.Cal P w K mg base 1 "_law_once" (spUnl K) [] := by
  refine cal_of D scOnce (fun vs H Q E h => ?_) fun f cdv A outer s H vs Q E hr h => ?_
  · obtain ⟨p, ns, rfl, _⟩ := h
    rfl
  · obtain ⟨p, ns, rfl, hs, hl, q⟩ := h
    refine ⟨_, pss_one (ps_ret (pe_callTy (call_list_dK rfl) (by rfl) G.list b_list (pa_cons (pe_callTy (call_dictP rfl) (by rfl) G.dict b_dict (pa_cons (pe_lc (own := [("_law_name", 1)]) (g := gName 1) (tt := tYes) rfl scOnce.nd (pi_list (pv 0)) (blkOk_by (N := ["_law_names", "_law_name"]) (sc := defScope sOnce) (by decide +kernel))
              (fun _ _ _ _ _ => pg_name (i := 1) scOnce.nd rfl (Or.inl rfl)) (fun _ _ _ _ _ => pts_nil) (fun _ _ _ _ _ => pe_tup (pa_cons (pv 1) (pa_cons pe_bl pa_nil)))) pa_nil)) pa_nil))), ?_⟩
    refine ⟨_, rfl, p, rfl, ⟨_, hs⟩, fun D nD => ?_⟩
    refine lc_yes (walk_list (xs := ns.map V.str)) (fun i H1 => Same H H1 ∧ ∃ ps : List Addr, H1 D = some (.lst (ps.map V.ref)) ∧ ps.length = i ∧ Paired (fun p (kv : Key × V) => H1 p = some (HO.tup [kV kv.1, kv.2]) ∧ p ≠ D) ps ((ns.take i).map ent))
      ⟨same_upd nD, [], by rw [upd_same]; rfl, rfl, .nil⟩ (fun i H1 _ p => p.1.seq hs) (fun i x H1 H' hi p y => ?_) fun H1 p => ?_
    · obtain ⟨sm, ps, eD, lp, pr⟩ := p
      obtain ⟨rfl, ei⟩ := y
      rw [List.getElem?_map] at ei
      obtain ⟨nm, en, rfl⟩ := Option.map_eq_some_iff.mp ei
      have hi' : i < ns.length := (List.getElem?_eq_some_iff.mp en).1
      refine ⟨rfl, _, rfl, two_ok, fun t nt => ?_⟩
      have ntD : t ≠ D := fun e => by
        rw [e, eD] at nt
        cases nt
      have s4 := same_upd (o := .tup [V.str nm, V.bl true]) nt
      refine ⟨_, s4 _ _ eD, ?_, same_set (sm.trans s4) nD, ps ++ [t], ?_, by simp [lp], ?_⟩
      · rw [List.length_map, lp]
        have : (10001 : Nat) < sizeLine := by decide
        omega
      · rw [upd_same, List.map_append]
        rfl
      · rw [List.take_add_one, en, List.map_append]
        refine paired_snoc (Paired.mapP pr fun b kv hb => ⟨?_, hb.2⟩) ⟨?_, ntD⟩
        · rw [upd_ne hb.2]
          exact s4 _ _ hb.1
        · rw [upd_ne ntD, upd_same]
          rfl
    · obtain ⟨sm, ps, eD, lp, pr⟩ := p
      rw [List.length_map, List.take_length] at pr
      refine ⟨D, ps, ns.map ent, rfl, .of eD, Paired.mapP pr fun b kv hb => .inl (.inl hb.1), fun c nc => ?_⟩
      rw [merge_ent]
      refine ⟨c, _, rfl, upd_same, fun r nr => ?_⟩
      rw [keys_ent]
      exact q _ r ((sm.trans (same_upd nc)).trans (same_upd nr)) upd_same

/-! ### _law_names_in -/
theorem cut_tail (x : V) (xs : List V) : cutV (x :: xs) (some 1) none = xs := by
  unfold cutV
  rw [show HT.sIx (x :: xs).length 0 (some 1) = min 1 (x :: xs).length from HT.sIx_nat _ _ 1, HT.sIx_none, List.length_cons, show min 1 (xs.length + 1) = 1 by omega]
  show List.take (xs.length + 1 - 1) xs = xs
  exact List.take_length
theorem cut_not (x : V) (xs : List V) : ¬ (HT.sIx (x :: xs).length 0 (some 1) = 0 ∧ HT.sIx (x :: xs).length (x :: xs).length none = (x :: xs).length) := by
  rw [show HT.sIx (x :: xs).length 0 (some 1) = min 1 (x :: xs).length from HT.sIx_nat _ _ 1, List.length_cons]
  omega
theorem at_cons0 (x : V) (xs : List V) : atI (x :: xs) 0 = some x := atI_nat (j := 0) rfl
theorem at_cons1 (x y : V) (xs : List V) : atI (x :: y :: xs) 1 = some y := atI_nat (j := 1) rfl
abbrev sLnm : Stmt := topS 49
theorem scLnm : FnScope ["_law_term", "_law_part"] ["_law_term"] (defScope sLnm) := ⟨rfl, rfl, rfl, by decide +kernel, rfl, by decide +kernel, by decide +kernel⟩
theorem ok_lnm (D : D0 K mg "_law_names_in" sLnm ["_law_term"]) (G : Glo K mg) : ∀ n, C8.Cal P w K mg base (n + 1) "_law_names_in" (spNms K n) []
  | 0 => cal_false D scLnm fun vs H Q E h => by
    obtain ⟨v, t, _, _, h, _⟩ := h
    exact h
  | n + 1 => by
    have ih := ok_lnm D G n
    refine cal_of D scLnm (fun vs H Q E h => ?_) fun f cdv A outer s H vs Q E hr h => ?_
    · obtain ⟨v, t, rfl, _⟩ := h
      rfl
    · obtain ⟨v, t, rfl, hd, ht, h5, q⟩ := h
      refine ⟨_, pss_cons (ps_if (pt_cmpR op_eq (pe_ix ix_tup (pv 0) pe_int (fun _ _ => rfl)) pe_str (nomark _)) (pss_one (ps_ret (pe_lst pa_nil))) pss_nil)
        (pss_cons (ps_if (pt_cmpR op_eq (pe_ix ix_tup (pv 0) pe_int (fun _ _ => rfl)) pe_str (nomark _)) (pss_one (ps_ret (pe_lst (pa_cons (pe_ix ix_tup (pv 0) pe_int (fun _ _ => rfl)) pa_nil)))) pss_nil)
        (pss_one (ps_ret (pe_callB (cr_sumL rfl) (by rfl) G.sum b_sum (pa_cons (pe_lc (own := [("_law_part", 1)]) (g := gName 1) (tt := tYes) rfl scLnm.nd (pi_tup (pe_slice sl_tup (pv 0) (po_some pe_int) po_none)) (blkOk_by (N := ["_law_term", "_law_part"]) (sc := defScope sLnm) (by decide +kernel))
              (fun _ _ _ _ _ => pg_name (i := 1) scLnm.nd rfl (Or.inl rfl)) (fun _ _ _ _ _ => pts_nil) (fun _ _ _ _ _ => pe_k ih hr (pa_cons (pv 1) pa_nil))) (pa_cons (pe_lst pa_nil) pa_nil)))))), ?_⟩
      obtain ⟨wd, ps, et, hl, hcase⟩ := tok_shape ht
      rw [et] at hd
      obtain ⟨a, us, rfl, hs, ha⟩ := dp_term hd
      have hul := dps_len ha
      refine ⟨_, rfl, a, _, 0, _, rfl, rfl, hs, at_cons0 _ _, rfl, _, rfl, ?_⟩
      rw [strEq]
      refine ite2 (fun ew => ?_) (fun ew => ?_)
      · have ew' : wd = "value" := of_decide_eq_true ew
        rcases hcase with ⟨d, rfl, _⟩ | ⟨x, _, e, _⟩ | ⟨ts, _, _, _, e, _⟩
        · exact ⟨Nat.zero_le _, fun p np => q _ p (same_upd np) np upd_same⟩
        · exact absurd (ew'.symm.trans e) (by decide +kernel)
        · exact absurd ew' e
      · have ew' : wd ≠ "value" := fun e => ew (decide_eq_true e)
        refine ⟨_, rfl, a, _, 0, _, rfl, rfl, hs, at_cons0 _ _, rfl, _, rfl, ?_⟩
        rw [strEq]
        refine ite2 (fun en => ?_) (fun en => ?_)
        · have en' : wd = "name" := of_decide_eq_true en
          rcases hcase with ⟨d, _, e, _⟩ | ⟨x, rfl, _, rfl, hx⟩ | ⟨ts, _, _, _, _, e, _⟩
          · exact absurd e ew'
          · cases ha with
            | @cons u _ _ _ hu hn =>
              cases hn
              obtain rfl := dp_str hu
              exact ⟨_, rfl, a, _, 1, _, rfl, rfl, hs, at_cons1 _ _ _, by show 1 ≤ sizeLine; decide, fun p np => q _ p (same_upd np) np upd_same⟩
          · exact absurd en' e
        · have en' : wd ≠ "name" := fun e => en (decide_eq_true e)
          rcases hcase with ⟨d, _, e, _⟩ | ⟨x, _, e, _⟩ | ⟨ts, rfl, eps, har, _, _, hts⟩
          · exact absurd e ew'
          · exact absurd e en'
          · have lts : us.length = ts.length := by rw [hul, eps, List.length_map]
            have h4 := (ar_cl har).2
            refine ⟨_, rfl, 1, rfl, a, _, rfl, hs, cut_not _ _, fun L nL => ?_⟩
            rw [cut_tail]
            have s1 : Same H (upd H L (.tup us)) := same_upd nL
            have hL : (upd H L (.tup us)) L = some (.tup us) := upd_same
            refine ⟨L, rfl, ⟨us, .inl (.inl hL)⟩, fun D nD => ?_⟩
            refine lc_yes (walk_tup (xs := us)) (fun i H1 => Same (upd H L (.tup us)) H1 ∧ ∃ qs : List Addr, H1 D = some (.lst (qs.map V.ref)) ∧ qs.length = i ∧ Paired (fun p xs => H1 p = some (HO.lst xs) ∧ p ≠ D) qs ((ts.take i).map fun t => (nms t).map V.str))
              ⟨same_upd nD, [], by rw [upd_same]; rfl, rfl, .nil⟩ (fun i H1 _ p => .inl (.inl (p.1 _ _ hL))) (fun i x H1 H' hi p y => ?_) fun H1 p => ?_
            · obtain ⟨sm, qs, eD, lq, pr⟩ := p
              obtain ⟨rfl, ei⟩ := y
              obtain ⟨dx, ex, hdx⟩ := dps_get ha ei
              rw [eps, List.getElem?_map] at ex
              obtain ⟨tx, etx, rfl⟩ := Option.map_eq_some_iff.mp ex
              have hx := hts tx (List.mem_of_getElem? etx)
              refine ⟨rfl, _, rfl, x, tx, rfl, dp_kt (same_kt (s1.trans sm)) _ x (tok_cl n tx hx).1 hdx, hx, by omega, fun H4 p s4 np ep => ?_⟩
              have npD : p ≠ D := fun e => by
                rw [e, eD] at np
                cases np
              refine ⟨_, s4 _ _ eD, ?_, same_set (sm.trans s4) nD, qs ++ [p], ?_, by simp [lq], ?_⟩
              · rw [List.length_map, lq]
                exact small1000 (by omega)
              · rw [upd_same, List.map_append]
                rfl
              · rw [List.take_add_one, etx, List.map_append]
                refine paired_snoc (Paired.mapP pr fun b xs hb => ⟨?_, hb.2⟩) ⟨?_, npD⟩
                · rw [upd_ne hb.2]
                  exact s4 _ _ hb.1
                · rw [upd_ne npD]
                  exact ep
            · obtain ⟨sm, qs, eD, lq, pr⟩ := p
              rw [lts, List.take_length] at pr
              have fl : (ts.map fun t => (nms t).map V.str).flatten = (nmsAll ts).map V.str := by
                rw [nmsAll_flat, List.map_flatten, List.map_map]
                rfl
              refine ⟨Nat.zero_le _, fun b nb => ?_⟩
              refine ⟨D, b, qs, _, rfl, .of ((same_upd nb) _ _ eD), Paired.mapP pr fun p xs hp => (same_upd nb) _ _ hp.1, upd_same, ?_, fun H2 r s2 hr2 er => ?_⟩
              · rw [fl, List.length_map]
                have h1 := nms_len (n + 1) (.op wd ts) ht
                have h2 : 4 ^ (n + 1) ≤ 4 ^ 5 := Nat.pow_le_pow_right (by decide) h5
                have h3 : (4 : Nat) ^ 5 = 1024 := by decide
                show (nms (.op wd ts)).length ≤ 10000
                omega
              · rw [fl] at er
                have sH1 : Same H H1 := s1.trans sm
                have sHb := sH1.trans (same_upd (o := .lst []) nb)
                refine q H2 r (sHb.trans s2) ?_ er
                rcases hr2 with e | e
                · rw [e]
                  exact same_none sH1 nb
                · exact same_none sHb e

/-! ### _law_pair -/
/-- a result as the law keeps it: data, or a list with the reason -/
def Raw (K : PySem.W.Frag) (H : Hp) (x : V) : R → Prop
  | .ok d => Dp K H x d
  | .no r => ∃ p, x = .ref p ∧ H p = some (.lst [.str "failed", .str r])
def RawK (K : PySem.W.Frag) (H : Hp) (r : R) (Q : VK) : Prop := ∀ H' x, Same H H' → Raw K H' x r → Q x H'
theorem RawK.same {H H1 : Hp} {r : R} {Q : VK} (q : RawK K H r Q) (s : Same H H1) : RawK K H1 r Q := fun H' x s' d => q H' x (s.trans s') d
theorem RawK.ok {H : Hp} {d : PyData} {v : V} {Q : VK} (q : RawK K H (.ok d) Q) (h : Dp K H v d) : Q v H := q H v (Same.refl H) h
theorem RawK.no {H : Hp} {r : Str} {Q : VK} (q : RawK K H (.no r) Q) : 2 ≤ sizeLine ∧ ∀ p, H p = none → Q (.ref p) (upd H p (.lst [.str "failed", .str r])) := ⟨two_ok, fun p np => q _ _ (same_upd np) ⟨p, rfl, upd_same⟩⟩
def spPair (K : PySem.W.Frag) : Sp := fun vs H Q _ => ∃ (wd : Str) (v u : V) (a b : PyData), vs = [.str wd, v, u] ∧ Dp K H v a ∧ Dp K H u b ∧ isv a = true ∧ isv b = true ∧ RawK K H (pairOf wd a b) Q
abbrev sPair : Stmt := topS 47
theorem scPair : FnScope ["_law_word", "_law_a", "_law_b"] ["_law_word", "_law_a", "_law_b"] (defScope sPair) := ⟨rfl, rfl, rfl, by decide +kernel, rfl, by decide +kernel, by decide +kernel⟩
theorem shaped_isv {d : PyData} (h : isv d = true) : SeqAt.shaped d = true := shaped_cl (isv_cl h) (by have := isv_depth h; omega)
theorem ok_pair (D : D0 K mg "_law_pair" sPair ["_law_word", "_law_a", "_law_b"]) (G : Glo K mg) (cw : C8.Cal P w K mg base 1 "_law_whole" (spIsI K) []) : C8.Cal P w K mg base 2 "_law_pair" (spPair K) [] := by
  refine cal_of D scPair (fun vs H Q E h => ?_) fun f cdv A outer s H vs Q E hr h => ?_
  · obtain ⟨wd, v, u, a, b, rfl, _⟩ := h
    rfl
  · obtain ⟨wd, v, u, a, b, rfl, ha, hb, va, vb, q⟩ := h
    refine ⟨_, pss_cons (ps_if (pt_cmpR op_eq (pv 0) pe_str (nomark _)) (pss_one (ps_ret (pe_callTy call_int1 (by rfl) G.int b_int (pa_cons (pe_cmpR (op_eqD hr.units) (pv 1) (pv 2) (nomark _)) pa_nil)))) pss_nil)
      (pss_cons (ps_if (pt_cmpR op_eq (pv 0) pe_str (nomark _))
        (pss_cons (ps_if (PW.pt (pw_or (pt_val (pe_k cw hr (pa_cons (pv 1) pa_nil))) (pw_or (pt_val (pe_k cw hr (pa_cons (pv 2) pa_nil))) (pw_or1 (pt_cmpR op_ne (pe_isi G.isi G.str b_str (pv 1)) (pe_isi G.isi G.str b_str (pv 2)) (nomark _))))))
            (pss_one (ps_ret (pe_lst (pa_cons pe_str (pa_cons pe_str pa_nil))))) pss_nil)
          (pss_one (ps_ret (pe_op (OpR.or op_add_str op_catA) (pv 1) (pv 2))))) pss_nil)
      (pss_cons (ps_if (pt_cmpR op_eq (pv 0) pe_str (nomark _))
        (pss_cons (ps_if (PW.pt (pw_or (pt_not (pt_val (pe_isi G.isi G.tuple b_tuple (pv 1)))) (pw_or1 (pt_not (pt_val (pe_k cw hr (pa_cons (pv 2) pa_nil)))))))
            (pss_one (ps_ret (pe_lst (pa_cons pe_str (pa_cons pe_str pa_nil))))) pss_nil)
          (pss_one (ps_ret (pe_ifExp (pt_chain op_le op_lt pe_int (pv 2) (pe_callB call_len_seq (by rfl) G.len b_len (pa_cons (pv 1) pa_nil))) (pe_ix ix_tup (pv 1) (pv 2) (fun _ _ => rfl)) (pe_lst (pa_cons pe_str (pa_cons pe_str pa_nil))))))) pss_nil)
      (pss_cons (ps_if (PW.pt (pw_or (pt_not (pt_val (pe_k cw hr (pa_cons (pv 1) pa_nil)))) (pw_or1 (pt_not (pt_val (pe_k cw hr (pa_cons (pv 2) pa_nil))))))) (pss_one (ps_ret (pe_lst (pa_cons pe_str (pa_cons pe_str pa_nil))))) pss_nil)
      (pss_cons (ps_if (pt_cmpR op_eq (pv 0) pe_str (nomark _)) (pss_one (ps_ret (pe_ifExp (pt_cmpR op_ne (pv 2) pe_int (nomark _)) (pe_op op_fdivG (pv 1) (pv 2)) (pe_lst (pa_cons pe_str (pa_cons pe_str pa_nil)))))) pss_nil)
      (pss_cons (ps_if (pt_cmpR op_eq (pv 0) pe_str (nomark _)) (pss_one (ps_ret (pe_op op_add (pv 1) (pv 2)))) pss_nil)
      (pss_cons (ps_if (pt_cmpR op_eq (pv 0) pe_str (nomark _)) (pss_one (ps_ret (pe_op op_sub (pv 1) (pv 2)))) pss_nil)
      (pss_one (ps_ret (pe_ifExp (pt_cmpR op_eq (pv 0) pe_str (nomark _)) (pe_op op_mulW (pv 1) (pv 2)) (pe_callTy call_int1 (by rfl) G.int b_int (pa_cons (pe_cmpR op_lt (pv 1) (pv 2) (nomark _)) pa_nil))))))))))), ?_⟩
    refine ⟨_, rfl, rfl, _, rfl, ?_⟩
    rw [strEq]
    unfold pairOf at q
    by_cases h1 : wd = "equal"
    · rw [if_pos h1] at q
      refine ite2 (fun _ => ?_) (fun z => absurd (decide_eq_true h1) z)
      exact ⟨_, rfl, _, rfl, a, b, ha, hb, shaped_isv va, shaped_isv vb, .inr ⟨_, rfl, q.ok (.int _)⟩⟩
    rw [if_neg h1] at q
    refine ite2 (fun z => absurd (of_decide_eq_true z) h1) (fun _ => ⟨_, rfl, rfl, _, rfl, ?_⟩)
    rw [strEq]
    by_cases h2 : wd = "join"
    · rw [if_pos h2] at q
      refine ite2 (fun _ => ?_) (fun z => absurd (decide_eq_true h2) z)
      refine ⟨v, rfl, v, a, rfl, ha, isv_cl va, _, rfl, ?_⟩
      rcases cl_cases (isv_cl va) with ⟨i, rfl⟩ | ⟨z, rfl, _⟩ | ⟨xs, rfl, _⟩
      · exact iteT (iteT q.no)
      · refine iteF ⟨u, rfl, u, b, rfl, hb, isv_cl vb, _, rfl, ?_⟩
        rcases cl_cases (isv_cl vb) with ⟨j, rfl⟩ | ⟨z', rfl, _⟩ | ⟨ys, rfl, _⟩
        · exact iteT (iteT q.no)
        · refine iteF ⟨v, rfl, isi_S ha (isv_cl va) ⟨u, rfl, isi_S hb (isv_cl vb) ⟨rfl, _, rfl, iteF ?_⟩⟩⟩
          obtain rfl := dp_str ha
          obtain rfl := dp_str hb
          have l1 := (isv_str va).1
          have l2 := (isv_str vb).1
          exact ⟨_, rfl, _, rfl, .inl ⟨z, z', rfl, rfl, Nat.le_of_lt (small1000 (by omega)), q.ok (.str _)⟩⟩
        · exact iteF ⟨v, rfl, isi_S ha (isv_cl va) ⟨u, rfl, isi_S hb (isv_cl vb) ⟨rfl, _, rfl, iteT q.no⟩⟩⟩
      · refine iteF ⟨u, rfl, u, b, rfl, hb, isv_cl vb, _, rfl, ?_⟩
        rcases cl_cases (isv_cl vb) with ⟨j, rfl⟩ | ⟨z', rfl, _⟩ | ⟨ys, rfl, _⟩
        · exact iteT (iteT q.no)
        · exact iteF ⟨v, rfl, isi_S ha (isv_cl va) ⟨u, rfl, isi_S hb (isv_cl vb) ⟨rfl, _, rfl, iteT q.no⟩⟩⟩
        · refine iteF ⟨v, rfl, isi_S ha (isv_cl va) ⟨u, rfl, isi_S hb (isv_cl vb) ⟨rfl, _, rfl, iteF ?_⟩⟩⟩
          obtain ⟨pa, xv, rfl, hs, hxs⟩ := dp_tup ha
          obtain ⟨pb, yv, rfl, hs', hys⟩ := dp_tup hb
          have lx := dps_len hxs
          have ly := dps_len hys
          obtain ⟨l1, c1⟩ := isv_tup va
          obtain ⟨l2, c2⟩ := isv_tup vb
          refine ⟨_, rfl, _, rfl, .inr ⟨pa, pb, xv, yv, rfl, rfl, hs, hs', Nat.le_of_lt (small1000 (by omega)), fun e => ?_, fun _ e => ?_, fun _ _ c nc => ?_⟩⟩
          · subst e
            have : xs = [] := List.length_eq_zero_iff.mp lx.symm
            subst this
            exact q.ok hb
          · subst e
            have : ys = [] := List.length_eq_zero_iff.mp ly.symm
            subst this
            rw [joinOf, List.append_nil] at q
            exact q.ok ha
          · have sc := same_upd (o := .tup (xv ++ yv)) nc
            exact q _ _ sc (.tup (.inl (.inl upd_same)) (dps_app (dps_same sc _ _ hxs) (dps_same sc _ _ hys)))
    rw [if_neg h2] at q
    refine ite2 (fun z => absurd (of_decide_eq_true z) h2) (fun _ => ⟨_, rfl, rfl, _, rfl, ?_⟩)
    rw [strEq]
    by_cases h3 : wd = "item"
    · rw [if_pos h3] at q
      refine ite2 (fun _ => ?_) (fun z => absurd (decide_eq_true h3) z)
      refine ⟨v, rfl, isi_T ha (isv_cl va) ⟨_, rfl, ?_⟩⟩
      rcases cl_cases (isv_cl va) with ⟨i, rfl⟩ | ⟨z, rfl, _⟩ | ⟨xs, rfl, _⟩
      · exact iteT (iteT q.no)
      · exact iteT (iteT q.no)
      · refine iteF ⟨u, rfl, u, b, rfl, hb, isv_cl vb, _, rfl, ?_⟩
        rcases cl_cases (isv_cl vb) with ⟨j, rfl⟩ | ⟨z', rfl, _⟩ | ⟨ys, rfl, _⟩
        · obtain rfl := dp_int hb
          obtain ⟨pa, xv, rfl, hs, hxs⟩ := dp_tup ha
          have lx := dps_len hxs
          obtain ⟨l1, c1⟩ := isv_tup va
          refine iteF ⟨_, rfl, _, _, rfl, rfl, _, rfl, ite2 (fun e1 => ?_) (fun e1 => ?_)⟩
          · have g1 : 0 ≤ j := of_decide_eq_true e1
            refine ⟨_, rfl, pa, xv, rfl, .inr hs, _, _, rfl, rfl, _, rfl, ite2 (fun e2 => ?_) (fun e2 => ?_)⟩
            · have g2 : j < xv.length := of_decide_eq_true e2
              have q' := q
              rw [itemOf, if_pos (by omega)] at q'
              have hj : j.toNat < xv.length := by omega
              obtain ⟨d, ed, hd⟩ := dps_get hxs (List.getElem?_eq_getElem hj)
              have egd : xs.getD j.toNat .none = d := by
                rw [List.getD_eq_getElem?_getD, ed]
                rfl
              rw [egd] at q'
              exact ⟨_, rfl, _, rfl, pa, xv, j, _, rfl, rfl, hs, at_of (j := j.toNat) (by omega) (List.getElem?_eq_getElem hj), q'.ok hd⟩
            · have n2 : ¬ j < xv.length := fun k => e2 (decide_eq_true k)
              have q' := q
              rw [itemOf, if_neg (by omega)] at q'
              exact q'.no
          · have n1 : ¬ 0 ≤ j := fun k => e1 (decide_eq_true k)
            have q' := q
            rw [itemOf, if_neg (by omega)] at q'
            exact ⟨_, rfl, iteF q'.no⟩
        · exact iteT q.no
        · exact iteT q.no
    rw [if_neg h3] at q
    refine ite2 (fun z => absurd (of_decide_eq_true z) h3) (fun _ => ?_)
    refine ⟨v, rfl, v, a, rfl, ha, isv_cl va, _, rfl, ?_⟩
    rcases cl_cases (isv_cl va) with ⟨i, rfl⟩ | ⟨z, rfl, _⟩ | ⟨xs, rfl, _⟩
    · obtain rfl := dp_int ha
      refine iteF ⟨u, rfl, u, b, rfl, hb, isv_cl vb, _, rfl, ?_⟩
      rcases cl_cases (isv_cl vb) with ⟨j, rfl⟩ | ⟨z, rfl, _⟩ | ⟨xs, rfl, _⟩
      · obtain rfl := dp_int hb
        refine iteF ⟨_, rfl, rfl, _, rfl, ?_⟩
        rw [strEq]
        have q' : RawK K H (num wd i j) Q := q
        unfold num at q'
        by_cases hdv : wd = "divide"
        · rw [if_pos hdv] at q'
          refine ite2 (fun _ => ⟨_, rfl, rfl, _, rfl, ?_⟩) (fun z => absurd (decide_eq_true hdv) z)
          rw [intEq]
          by_cases hj : j = 0
          · rw [if_pos hj] at q'
            rw [decide_eq_true hj]
            exact iteF q'.no
          · rw [if_neg hj] at q'
            rw [decide_eq_false hj]
            exact iteT ⟨_, rfl, _, rfl, i, j, rfl, rfl, ⟨hj, Nat.lt_of_lt_of_le (PySem.Flt.log2_lt_of (by decide) (isv_int vb)) (by decide)⟩, q'.ok (.int _)⟩
        rw [if_neg hdv] at q'
        refine ite2 (fun z => absurd (of_decide_eq_true z) hdv) (fun _ => ⟨_, rfl, rfl, _, rfl, ?_⟩)
        rw [strEq]
        by_cases h1 : wd = "add"
        · rw [if_pos h1] at q'
          refine ite2 (fun _ => ?_) (fun z => absurd (decide_eq_true h1) z)
          exact ⟨_, rfl, _, rfl, i, j, rfl, rfl, q'.ok (.int _)⟩
        rw [if_neg h1] at q'
        refine ite2 (fun z => absurd (of_decide_eq_true z) h1) (fun _ => ⟨_, rfl, rfl, _, rfl, ?_⟩)
        rw [strEq]
        by_cases h2 : wd = "subtract"
        · rw [if_pos h2] at q'
          refine ite2 (fun _ => ?_) (fun z => absurd (decide_eq_true h2) z)
          exact ⟨_, rfl, _, rfl, i, j, rfl, rfl, q'.ok (.int _)⟩
        rw [if_neg h2] at q'
        refine ite2 (fun z => absurd (of_decide_eq_true z) h2) (fun _ => ⟨_, rfl, rfl, _, rfl, ?_⟩)
        rw [strEq]
        by_cases h3 : wd = "multiply"
        · rw [if_pos h3] at q'
          refine ite2 (fun _ => ?_) (fun z => absurd (decide_eq_true h3) z)
          exact ⟨_, rfl, _, rfl, i, j, rfl, rfl, wide_mul (isv_int va) (isv_int vb) (by decide) (by decide) (by decide), q'.ok (.int _)⟩
        rw [if_neg h3] at q'
        refine ite2 (fun z => absurd (of_decide_eq_true z) h3) (fun _ => ?_)
        refine ⟨_, rfl, _, rfl, i, j, rfl, rfl, .inr ⟨_, rfl, ?_⟩⟩
        rw [b2i_if]
        exact q'.ok (.int _)
      · exact iteT q.no
      · exact iteT q.no
    · exact iteT q.no
    · exact iteT q.no
end
end E3

/-! the law's own result. -/
namespace E3
open PySem PySem.Spec PyProof.Rows L2
section
variable {P : Program} {w : World} {K : PySem.W.Frag} {mg : Str → Option Value} {base : Heap}
/-- a result in the law's list -/
def LRes (K : PySem.W.Frag) (H : Hp) (x : V) : R → Prop
  | .ok d => ∃ p u, x = .ref p ∧ H p = some (.lst [.str "value", u]) ∧ Dp K H u d
  | .no r => ∃ p, x = .ref p ∧ H p = some (.lst [.str "failed", .str r])
def LK (K : PySem.W.Frag) (H : Hp) (r : R) (Q : VK) : Prop := ∀ H' x, Same H H' → LRes K H' x r → Q x H'
theorem LK.same {H H1 : Hp} {r : R} {Q : VK} (q : LK K H r Q) (s : Same H H1) : LK K H1 r Q := fun H' x s' d => q H' x (s.trans s') d
theorem LK.ok {H : Hp} {d : PyData} {v : V} {Q : VK} (q : LK K H (.ok d) Q) (h : Dp K H v d) : 2 ≤ sizeLine ∧ ∀ p, H p = none → Q (.ref p) (upd H p (.lst [.str "value", v])) := ⟨two_ok, fun p np => q _ _ (same_upd np) ⟨p, v, rfl, upd_same, dp_same (same_upd np) _ _ h⟩⟩
theorem LK.no {H : Hp} {r : Str} {Q : VK} (q : LK K H (.no r) Q) : 2 ≤ sizeLine ∧ ∀ p, H p = none → Q (.ref p) (upd H p (.lst [.str "failed", .str r])) := ⟨two_ok, fun p np => q _ _ (same_upd np) ⟨p, rfl, upd_same⟩⟩
theorem isi_L {H : Hp} {v : V} {d : PyData} {Q : VK} (h : Dp K H v d) (c : cl d = true) (q : Q (.bl false) H) : rIsi K [v, .ty "list"] H Q := isi_one (f := fun _ => false) h c q (fun _ => kit_int_list) (fun _ => kit_str_list) (fun _ => kit_tup_list)
def lrTail (K : PySem.W.Frag) : TS := tSeq (tIfS (tB (tIsi K "list" (tVar 5))) (tRet (tVar 5)) tNext)
  (tSeq (tAsg (tAndV (tCall (spLsm K 8) [] E0 (tCons (tVar 5) (tCons (tC (.int 5)) tNil))) (tOp (rI0 fun i j => .bl (decide (i ≤ j))) (tCall (spSz K 8) [] E0 (tCons (tVar 5) tNil)) (tC (.int 50)))) (gName 6))
    (tRet (tIf (tB (tVar 6)) (tLst (tCons (tC (.str "value")) (tCons (tVar 5) tNil))) (tLst (tCons (tC (.str "failed")) (tCons (tC (.str "size")) tNil))))))
theorem lr_tail {H : Hp} {x : V} {r : R} {Q : VK} {n : L2.St → Hp → Prop} {v0 v1 v2 v3 v4 v6 : Option V} (hx : Raw K H x r) (gd : Good r) (q : LK K H (chk r) Q) : lrTail K { nx := n, rt := Q } [v0, v1, v2, v3, v4, some x, v6] H := by
  cases r with
  | no rs =>
    obtain ⟨p, rfl, e⟩ := hx
    exact ⟨_, rfl, ⟨_, _, _, _, _, rfl, .ty "list", .base (.lst e), kit_list_list, ⟨_, rfl, iteT ⟨_, rfl, q H _ (Same.refl H) ⟨p, rfl, e⟩⟩⟩⟩⟩
  | ok d =>
    have hx' : Dp K H x d := hx
    obtain ⟨cd, dd⟩ := gd d rfl
    have no_ : ∀ H1, Same H H1 → isv d = false → LK K H1 (.no "size") Q := fun H1 s e => by
      have : chk (.ok d) = .no "size" := by rw [chk, if_neg (by rw [e]; decide)]
      rw [← this]
      exact q.same s
    have ok_ : ∀ H1, Same H H1 → isv d = true → LK K H1 (.ok d) Q := fun H1 s e => by
      have : chk (.ok d) = .ok d := by rw [chk, if_pos e]
      rw [← this]
      exact q.same s
    refine ⟨x, rfl, isi_L hx' cd ⟨_, rfl, iteF ⟨x, rfl, x, d, 5, rfl, dd, by omega, hx', cd, fun H3 s3 => ⟨_, rfl, ite2 (fun e => ?_) (fun e => ?_)⟩⟩⟩⟩
    · have e' : wl 5 d = true := e
      refine ⟨x, rfl, x, d, rfl, dd, dp_same s3 _ _ hx', cd, fun H4 s4 => ⟨_, _, rfl, rfl, _, rfl, _, rfl, ite2 (fun e2 => ?_) (fun e2 => ?_)⟩⟩
      · have e3 : (szw d : Int) ≤ 50 := of_decide_eq_true e2
        have ei : isv d = true := by
          unfold isv
          rw [e', decide_eq_true (by omega)]
          rfl
        exact ⟨_, rfl, (ok_ H4 (s3.trans s4) ei).ok (dp_same (s3.trans s4) _ _ hx')⟩
      · have e3 : ¬ (szw d : Int) ≤ 50 := fun k => e2 (decide_eq_true k)
        have ei : isv d = false := by
          unfold isv
          rw [e', decide_eq_false (by omega)]
          rfl
        exact (no_ H4 (s3.trans s4) ei).no
    · have e' : wl 5 d = false := eq_false_of_ne_true e
      have ei : isv d = false := by
        unfold isv
        rw [e']
        rfl
      exact ⟨_, rfl, _, rfl, iteF (no_ H3 s3 ei).no⟩
def spLres (K : PySem.W.Frag) (n : Nat) : Sp := fun vs H Q _ => ∃ (v : V) (t : T) (a : Addr) (kvs : List (Key × V)) (g : Str → Option PyData), vs = [v, .ref a] ∧ Dp K H v (toD t) ∧ TOk n t ∧ n ≤ 5 ∧ Vars K H a kvs g ∧ LK K H (res g t) Q
abbrev sLres : Stmt := topS 48
theorem scLres : FnScope ["_law_term", "_law_names", "_law_word", "_law_items", "_law_part", "_law_result_here", "_law_good"] ["_law_term", "_law_names"] (defScope sLres) := ⟨rfl, rfl, rfl, by decide +kernel, rfl, by decide +kernel, by decide +kernel⟩
theorem ok_lres (D : D0 K mg "_law_result" sLres ["_law_term", "_law_names"]) (G : Glo K mg) (cw : C8.Cal P w K mg base 1 "_law_whole" (spIsI K) []) (cp : C8.Cal P w K mg base 2 "_law_pair" (spPair K) []) (cm : C8.Cal P w K mg base 9 "_law_small" (spLsm K 8) []) (cs : C8.Cal P w K mg base 9 "_law_within" (spSz K 8) []) :
    ∀ n, C8.Cal P w K mg base (n + 11) "_law_result" (spLres K n) []
  | 0 => cal_false D scLres fun vs H Q E h => by
    obtain ⟨v, t, a, kvs, g, _, _, h, _⟩ := h
    exact h
  | n + 1 => by
    have ih := ok_lres D G cw cp cm cs n
    refine cal_of D scLres (fun vs H Q E h => ?_) fun f cdv A outer s H vs Q E hr h => ?_
    · obtain ⟨v, t, a, kvs, g, rfl, _⟩ := h
      rfl
    · obtain ⟨v, t, ad, kvs, g, rfl, hd, ht, h5, hV, q⟩ := h
      refine ⟨_, pss_cons (ps_par (i := 2) (j := 3) rfl scLres.nd rfl rfl (by decide) rfl rfl (pa_cons (pe_ix ix_tup (pv 0) pe_int (fun _ _ => rfl)) (pa_cons (pe_lst pa_nil) pa_nil)) rfl)
        (pss_cons (ps_if (pt_cmpR op_eq (pv 2) pe_str (nomark _)) (pss_one (ps_ret (pe_lst (pa_cons pe_str (pa_cons (pe_ix ix_tup (pv 0) pe_int (fun _ _ => rfl)) pa_nil))))) pss_nil)
        (pss_cons (ps_if (pt_cmpR op_eq (pv 2) pe_str (nomark _)) (pss_one (ps_ret (pe_ifExp (pt_cmp (pc_din (hu_of hr) (pe_ix ix_tup (pv 0) pe_int (fun _ _ => rfl)) (pv 1)) (by rfl))
            (pe_lst (pa_cons pe_str (pa_cons (pe_dget (hu_of hr) (pv 1) (pe_ix ix_tup (pv 0) pe_int (fun _ _ => rfl)) (fun _ _ => rfl)) pa_nil))) (pe_lst (pa_cons pe_str (pa_cons pe_str pa_nil)))))) pss_nil)
        (pss_cons (ps_for PassesOwn.never rfl (pi_tup (pe_slice sl_tup (pv 0) (po_some pe_int) po_none)) (pg_name (i := 4) scLres.nd rfl (Or.inl rfl))
          (pss_cons (ps_set (i := 5) scLres.nd rfl (.inl rfl) (pe_k ih hr (pa_cons (pv 4) (pa_cons (pv 1) pa_nil))))
          (pss_cons (ps_if (pt_cmpR op_eq (pe_ix ix_list (pv 5) pe_int (fun _ _ => rfl)) pe_str (nomark _)) (pss_one (ps_ret (pv 5))) pss_nil)
          (pss_one (ps_expr (pe_bm PySem.F.plainAttrs_list PySem.F.slot_list_append PySem.F.type_list_append mt_append (pv 3) (pa_cons (pe_ix ix_list (pv 5) pe_int (fun _ _ => rfl)) pa_nil)))))))
        (pss_cons (ps_if (pt_cmpR op_eq (pv 2) pe_str (nomark _)) (pss_one (ps_set (i := 5) scLres.nd rfl (.inl rfl) (pe_callTy call_tuple_of (by rfl) G.tuple b_tuple (pa_cons (pv 3) pa_nil))))
          (pss_one (ps_if (pt_cmpR op_eq (pv 2) pe_str (nomark _)) (pss_one (ps_set (i := 5) scLres.nd rfl (.inl rfl) (pe_ifExp (pt_val (pe_k cw hr (pa_cons (pe_ix ix_list (pv 3) pe_int (fun _ _ => rfl)) pa_nil))) (pe_lst (pa_cons pe_str (pa_cons pe_str pa_nil)))
              (pe_callB (CallR.or call_len_str call_len_seq) (by rfl) G.len b_len (pa_cons (pe_ix ix_list (pv 3) pe_int (fun _ _ => rfl)) pa_nil)))))
            (pss_one (ps_set (i := 5) scLres.nd rfl (.inl rfl) (pe_k cp hr (pa_cons (pv 2) (pa_cons (pe_ix ix_list (pv 3) pe_int (fun _ _ => rfl)) (pa_cons (pe_ix ix_list (pv 3) pe_int (fun _ _ => rfl)) pa_nil)))))))))
        (pss_cons (ps_if (pt_val (pe_isi G.isi G.list b_list (pv 5))) (pss_one (ps_ret (pv 5))) pss_nil)
        (pss_cons (ps_set (i := 6) scLres.nd rfl (.inl rfl) (pe_and (pe_k cm hr (pa_cons (pv 5) (pa_cons pe_int pa_nil))) (pe_one (pe_cmpR op_le (pe_k cs hr (pa_cons (pv 5) pa_nil)) pe_int (nomark _)))))
        (pss_one (ps_ret (pe_ifExp (pt_val (pv 6)) (pe_lst (pa_cons pe_str (pa_cons (pv 5) pa_nil))) (pe_lst (pa_cons pe_str (pa_cons pe_str pa_nil)))))))))))), ?_⟩
      obtain ⟨wd, ps, et, hl, hcase⟩ := tok_shape ht
      rw [et] at hd
      obtain ⟨a, us, rfl, hs, ha⟩ := dp_term hd
      have hul := dps_len ha
      refine ⟨_, rfl, a, _, 0, _, rfl, rfl, hs, at_cons0 _ _, Nat.zero_le _, fun va nva => ⟨_, _, rfl, _, rfl, rfl, _, rfl, ?_⟩⟩
      have s1 : Same H (upd H va (.lst [])) := same_upd nva
      have hs1 : SqT K (upd H va (.lst [])) a (.str wd :: us) := seqT_kt (same_kt s1) hs
      rw [strEq]
      refine ite2 (fun ew => ?_) (fun ew => ?_)
      · have ew' : wd = "value" := of_decide_eq_true ew
        rcases hcase with ⟨d, rfl, _, rfl, hv⟩ | ⟨x, _, e, _⟩ | ⟨ts, _, _, _, e, _⟩
        · cases ha with
          | @cons u _ _ _ hu hn =>
            cases hn
            exact ⟨_, rfl, a, _, 1, _, rfl, rfl, hs1, at_cons1 _ _ _, (q.same s1).ok (dp_same s1 _ _ hu)⟩
        · exact absurd (ew'.symm.trans e) words_ne.2.symm
        · exact absurd ew' e
      · have ew' : wd ≠ "value" := fun e => ew (decide_eq_true e)
        refine ⟨_, rfl, rfl, _, rfl, ?_⟩
        rw [strEq]
        refine ite2 (fun en => ?_) (fun en => ?_)
        · have en' : wd = "name" := of_decide_eq_true en
          rcases hcase with ⟨d, _, e, _⟩ | ⟨x, rfl, _, rfl, hx⟩ | ⟨ts, _, _, _, _, e, _⟩
          · exact absurd e ew'
          · cases ha with
            | @cons u _ _ _ hu hn =>
              cases hn
              obtain rfl := dp_str hu
              have hV1 := hV.same s1
              refine ⟨_, rfl, a, _, 1, _, rfl, rfl, hs1, at_cons1 _ _ _, _, rfl, ad, _, rfl, DGet.k (k := (Sum.inr x : Key)) hV1.at_, _, rfl, ?_⟩
              have q1 := q.same s1
              cases eg : g x with
              | none =>
                rw [hV1.none_ x eg]
                have q2 : LK K (upd H va (.lst [])) (.no "name") Q := by
                  have : res g (.nam x) = .no "name" := by rw [res, eg]
                  rw [← this]
                  exact q1
                exact iteF q2.no
              | some d =>
                obtain ⟨vx, e1, e2, e3⟩ := hV1.some_ x d eg
                rw [e1]
                have q2 : LK K (upd H va (.lst [])) (.ok d) Q := by
                  have : res g (.nam x) = .ok d := by rw [res, eg]
                  rw [← this]
                  exact q1
                refine iteT ⟨_, rfl, _, rfl, a, _, 1, _, rfl, rfl, hs1, at_cons1 _ _ _, ad, vx, rfl, ?_, q2.ok e2⟩
                rw [← e1]
                exact DGet.k (k := (Sum.inr x : Key)) hV1.at_
          · exact absurd en' e
        · have en' : wd ≠ "name" := fun e => en (decide_eq_true e)
          rcases hcase with ⟨d, _, e, _⟩ | ⟨x, _, e, _⟩ | ⟨ts, rfl, eps, har, _, _, hts⟩
          · exact absurd e ew'
          · exact absurd e en'
          · have lts : us.length = ts.length := by rw [hul, eps, List.length_map]
            have h4 := (ar_cl har).2
            have hgv := hV.isv
            refine ⟨_, rfl, 1, rfl, a, _, rfl, hs1, cut_not _ _, fun L nL => ?_⟩
            rw [cut_tail]
            have s2 : Same H (upd (upd H va (.lst [])) L (.tup us)) := s1.trans (same_upd nL)
            have nLva : va ≠ L := fun e => by
              rw [e, upd_same] at nL
              cases nL
            refine ⟨L, rfl, ⟨us, .inl (.inl upd_same)⟩, ?_⟩
            refine for_tup (xs := us) (fun i σ H1 => ∃ ys ds y4 y5, σ = [some (.ref a), some (.ref ad), some (.str wd), some (.ref va), y4, y5, none] ∧ Same H H1 ∧ H1 L = some (.tup us) ∧ H1 va = some (.lst ys) ∧ DpAll K H1 ys ds ∧ Isvs ds ∧ ds.length = i ∧ resAll g (ts.take i) = .ok ds)
              ⟨[], [], none, none, rfl, s2, upd_same, by rw [upd_ne nLva, upd_same], .nil, fun d h => (nomatch h), rfl, rfl⟩ (fun i σ H1 _ p => ?_) (fun i x σ H1 ei p => ?_) fun σ H1 p => ?_
            · obtain ⟨_, _, _, _, _, _, e, _⟩ := p
              exact .inl (.inl e)
            · obtain ⟨ys, ds, y4, y5, rfl, sm, eL, eva, hds, hiv, ld, er⟩ := p
              obtain ⟨dx, ex, hdx⟩ := dps_get ha ei
              rw [eps, List.getElem?_map] at ex
              obtain ⟨tx, etx, rfl⟩ := Option.map_eq_some_iff.mp ex
              have mt := List.mem_of_getElem? etx
              have hx := hts tx mt
              have hi : i < us.length := (List.getElem?_eq_some_iff.mp ei).1
              refine ⟨x, rfl, _, rfl, x, tx, ad, kvs, g, rfl, dp_kt (same_kt sm) _ x (tok_cl n tx hx).1 hdx, hx, by omega, hV.same sm, fun H2 r s3 hrs => ?_⟩
              have snoc := resAll_snoc g tx (ts.take i) ds er
              have etk : ts.take i ++ [tx] = ts.take (i + 1) := by rw [List.take_add_one, etx]; rfl
              cases eres : res g tx with
              | no rs =>
                rw [eres] at hrs snoc
                obtain ⟨c, rfl, hc⟩ := hrs
                refine ⟨_, rfl, c, _, 0, _, rfl, rfl, .of hc, at_cons0 _ _, rfl, _, rfl, iteT ⟨_, rfl, ?_⟩⟩
                have eall : res g (.op wd ts) = .no rs := by
                  have : resAll g ts = .no rs := by
                    rw [etk] at snoc
                    have := resAll_no g (ts.drop (i + 1)) _ rs snoc
                    rw [List.take_append_drop] at this
                    exact this
                  rw [res, this]
                rw [eall] at q
                exact q H2 _ (sm.trans s3) ⟨c, rfl, hc⟩
              | ok d =>
                rw [eres] at hrs snoc
                obtain ⟨c, u, rfl, hc, hu⟩ := hrs
                have vd := res_isv hgv hx eres
                refine ⟨_, rfl, c, _, 0, _, rfl, rfl, .of hc, at_cons0 _ _, rfl, _, rfl, ?_⟩
                rw [strEq, decide_eq_false words_ne.1]
                refine iteF ⟨_, rfl, .inl ⟨rfl, _, .of (s3 _ _ eva)⟩, _, rfl, c, _, 1, u, rfl, rfl, .of hc, at_cons1 _ _ _, va, ys, u, rfl, rfl, s3 _ _ eva, ?_, ?_⟩
                · have ly := dps_len hds
                  exact small1000 (by omega)
                · have kt : KT H2 (upd H2 va (.lst (ys ++ [u]))) := kt_upd (no_tup (s3 _ _ eva) (fun _ z => by cases z) (fun _ _ z => by cases z))
                  refine ⟨ys ++ [u], ds ++ [d], _, _, rfl, same_set (sm.trans s3) nva, by rw [upd_ne nLva.symm]; exact s3 _ _ eL, upd_same, ?_, ?_, by simp [ld], ?_⟩
                  · exact dps_app (dps_kt ((same_kt s3).trans kt) ds ys (isvs_cl hiv) hds) (.cons (dp_kt kt d u (isv_cl vd) hu) .nil)
                  · intro y hy
                    rcases List.mem_append.mp hy with h | h
                    · exact hiv y h
                    · rw [List.mem_singleton.mp h]
                      exact vd
                  · rw [← etk]
                    exact snoc
            · obtain ⟨ys, ds, y4, y5, rfl, sm, eL, eva, hds, hiv, ld, er⟩ := p
              rw [lts, List.take_length] at er
              have har' : Ar wd ds.length := by rw [ld, lts]; exact har
              have gd := good_comb har' hiv
              have q1 : LK K H1 (chk (comb wd ds)) Q := by
                have : res g (.op wd ts) = chk (comb wd ds) := by rw [res, er]
                rw [← this]
                exact q.same sm
              have ly := dps_len hds
              have hva : SqL K H1 va ys := .of eva
              refine ⟨_, rfl, rfl, _, rfl, ?_⟩
              rw [strEq]
              refine ite2 (fun e1 => ?_) (fun e1 => ?_)
              · have e1' : wd = "list" := of_decide_eq_true e1
                refine ⟨_, rfl, va, ys, rfl, .inl ⟨hva, fun l nl => ?_⟩⟩
                refine lr_tail (r := comb wd ds) ?_ gd (q1.same (same_upd nl))
                rw [comb, if_pos e1']
                exact .tup (.inl (.inl upd_same)) (dps_same (same_upd nl) _ _ hds)
              · have e1' : wd ≠ "list" := fun k => e1 (decide_eq_true k)
                refine ⟨_, rfl, rfl, _, rfl, ?_⟩
                rw [strEq]
                refine ite2 (fun e2 => ?_) (fun e2 => ?_)
                · have e2' : wd = "size" := of_decide_eq_true e2
                  have hone : ds.length = 1 := by
                    rcases har' with ⟨z, _⟩ | ⟨z, _⟩ | ⟨_, z⟩
                    · rw [e2'] at z
                      exact absurd z list_ne_pairs.2.1
                    · exact absurd z e1'
                    · exact z
                  have ec : comb wd ds = sizeOf (ds.getD 0 .none) := by rw [comb, if_neg e1', if_pos e2']
                  rw [ec] at gd q1
                  match ds, hone, hds, hiv, gd, q1 with
                  | [d], _, hds, hiv, gd, q1 =>
                    cases hds with
                    | @cons u _ _ _ hu hn =>
                      cases hn
                      have vd := hiv d (by simp)
                      refine ⟨_, rfl, va, _, 0, u, rfl, rfl, hva, at_cons0 _ _, u, d, rfl, hu, isv_cl vd, _, rfl, ?_⟩
                      rcases cl_cases (isv_cl vd) with ⟨i, rfl⟩ | ⟨z, rfl, _⟩ | ⟨xs, rfl, _⟩
                      · exact iteT ⟨two_ok, fun p np => lr_tail (r := .no "kind") ⟨p, rfl, upd_same⟩ (good_no _) (q1.same (same_upd np))⟩
                      · obtain rfl := dp_str hu
                        have l1 := (isv_str vd).1
                        exact iteF ⟨_, rfl, va, _, 0, _, rfl, rfl, hva, at_cons0 _ _, .inl ⟨z, rfl, Nat.le_of_lt (small1000 (by omega)), lr_tail (r := .ok (.int z.length)) (.int _) gd q1⟩⟩
                      · obtain ⟨pa, xv, rfl, hs', hxs⟩ := dp_tup hu
                        have lx := dps_len hxs
                        refine iteF ⟨_, rfl, va, _, 0, _, rfl, rfl, hva, at_cons0 _ _, .inr ⟨pa, xv, rfl, .inr hs', ?_⟩⟩
                        rw [lx]
                        exact lr_tail (r := .ok (.int xs.length)) (.int _) gd q1
                · have e2' : wd ≠ "size" := fun k => e2 (decide_eq_true k)
                  have htwo : ds.length = 2 := by
                    rcases har' with ⟨_, z⟩ | ⟨z, _⟩ | ⟨z, _⟩
                    · exact z
                    · exact absurd z e1'
                    · exact absurd z e2'
                  have ec : comb wd ds = pairOf wd (ds.getD 0 .none) (ds.getD 1 .none) := by rw [comb, if_neg e1', if_neg e2']
                  rw [ec] at gd q1
                  match ds, htwo, hds, hiv, gd, q1 with
                  | [d, e], _, hds, hiv, gd, q1 =>
                    cases hds with
                    | @cons u _ _ _ hu hn =>
                      cases hn with
                      | @cons u2 _ _ _ hu2 hn =>
                        cases hn
                        refine ⟨_, rfl, _, rfl, va, _, 0, u, rfl, rfl, hva, at_cons0 _ _, _, rfl, va, _, 1, u2, rfl, rfl, hva, at_cons1 _ _ _, wd, u, u2, d, e, rfl, hu, hu2, hiv d (by simp), hiv e (by simp), fun H2 x s3 hx => ?_⟩
                        exact lr_tail hx gd (q1.same s3)
end
end E3

/-! the law's random terms. -/
namespace E3
open PySem PySem.Spec PyProof.Rows L2
theorem tok_mono : ∀ {n m : Nat} {t : T}, TOk n t → n ≤ m → TOk m t
  | 0, _, _, h, _ => h.elim
  | n + 1, 0, _, _, h => absurd h (by omega)
  | n + 1, m + 1, .val _, h, _ => h
  | n + 1, m + 1, .nam _, h, _ => h
  | n + 1, m + 1, .op w ts, h, l => by
    have h' : Ar w ts.length ∧ ∀ t ∈ ts, TOk n t := h
    exact ⟨h'.1, fun t ht => tok_mono (h'.2 t ht) (by omega)⟩

/-! ### all but the pool stands, and the pool is one -/
structure Stp (p : Addr) (H H' : Hp) : Prop where
  off : Off p H H'
  pool : Pool H' p
section
variable {p : Addr} {H H1 H2 : Hp}
theorem Stp.ne (s : Stp p H H1) {a : Addr} (n : H1 a = none) : a ≠ p := fun e => by
  obtain ⟨x, y, h, _⟩ := s.pool
  rw [e, h] at n
  cases n
theorem pool_upd {a : Addr} {o : HO} (h : Pool H1 p) (n : a ≠ p) : Pool (upd H1 a o) p := by
  obtain ⟨x, y, h, r⟩ := h
  exact ⟨x, y, by rw [upd_ne n.symm]; exact h, r⟩
theorem off_set {a : Addr} {o : HO} (s : Off p H H1) (n : H a = none) : Off p H (upd H1 a o) := fun b u nb h => by
  rw [upd_ne (ne_of_none h n)]
  exact s b u nb h
theorem Stp.back (s : Stp p H H1) {a : Addr} (n : H1 a = none) : H a = none := by
  cases e : H a with
  | none => rfl
  | some o => exact nomatch (s.off a o (s.ne n) e).symm.trans n
theorem Stp.new (s : Stp p H H1) {a : Addr} {o : HO} (n : H1 a = none) : Stp p H (upd H1 a o) := ⟨off_set s.off (s.back n), pool_upd s.pool (s.ne n)⟩
theorem Stp.trans (s : Stp p H H1) (t : Stp p H1 H2) : Stp p H H2 := ⟨s.off.trans t.off, t.pool⟩
theorem Stp.refl (h : Pool H p) : Stp p H H := ⟨Off.refl p H, h⟩
theorem Stp.kt (h : Pool H p) (s : Stp p H H1) : KT H H1 := by
  obtain ⟨xs, e⟩ := h.lst
  exact off_kt s.off e
end

def menu : List PyData := [.int 0, .int 1, .int (-7), .int (10 ^ (59 : Int).toNat), .int (3 - 10 ^ (60 : Int).toNat), .str "", .str "ab", .str ⟨(List.replicate (40 : Int).toNat 120).toArray⟩, .tuple [], .tuple [.int 1, .str "a"], .tuple [.tuple [.int 2], .int 3], .tuple (List.replicate (30 : Int).toNat (.int 1)), .int 5]
theorem menu_isv : ∀ d ∈ menu, isv d = true := by decide +kernel
theorem x_is : (Str.ofString "x") = ⟨#[120]⟩ := by decide +kernel
def abcde : Str := "abcde"
theorem abcde_five : ∀ c ∈ abcde.cps.toList, (⟨#[c]⟩ : Str) ∈ five := by decide +kernel
theorem abcde_len : abcde.cps.toList.length = 5 := by decide +kernel
def ten : List Str := ["add", "subtract", "multiply", "divide", "less", "equal", "join", "item", "list", "size"]
theorem ten_kinds : ∀ x ∈ ten, x = "list" ∨ x = "size" ∨ (x ∈ pairs ∧ x ≠ "list" ∧ x ≠ "size") := by decide +kernel
theorem one_ok : 1 ≤ sizeLine := by decide
theorem thirteen_ok : 13 ≤ sizeLine := by decide
theorem ten_ok : 10 ≤ sizeLine := by decide
theorem dps_ones {K : PySem.W.Frag} {H : Hp} : ∀ n : Nat, DpAll K H (List.replicate n [V.int 1]).flatten (List.replicate n (PyData.int 1))
  | 0 => .nil
  | n + 1 => .cons (.int 1) (dps_ones n)
theorem dp_tupN {K : PySem.W.Frag} {H : Hp} {a : Addr} {us : List V} {ds : List PyData} (_n : H a = none) (h : DpAll K (upd H a (.tup us)) us ds) : Dp K (upd H a (.tup us)) (.ref a) (.tuple ds) := .tup (.inl (.inl upd_same)) h
theorem at_gen {α : Type} {xs : List α} {z : Int} {j : Nat} {v : α} (e : z = (j : Int)) (h : xs[j]? = some v) : atI xs z = some v := by
  rw [e]
  exact atI_nat h
theorem if_val {c : Bool} {x y : V} {σ : L2.St} {H : Hp} {Q : VK} (h : Q (if c = true then x else y) H) : if c = true then tC x σ H Q else tC y σ H Q := by
  cases c <;> exact h
section
variable {P : Program} {w : World} {K : PySem.W.Frag} {mg : Str → Option Value} {base : Heap}
def spRnd (K : PySem.W.Frag) (n : Nat) : Sp := fun vs H Q _ => ∃ (p : Addr) (dp : Nat), vs = [.ref p, .int dp] ∧ dp < n ∧ Pool H p ∧ ∀ H' v t, Stp p H H' → TOk (dp + 1) t → Dp K H' v (toD t) → Q v H'
abbrev sRnd : Stmt := topS 51
theorem scRnd : FnScope ["_law_pool_here", "_law_depth", "_law_choice", "_law_some", "_law_words", "_law_word", "_law_many", "_law_turn"] ["_law_pool_here", "_law_depth"] (defScope sRnd) := ⟨rfl, rfl, rfl, by decide +kernel, rfl, by decide +kernel, by decide +kernel⟩
theorem ok_rnd (D : D0 K mg "_law_random_term" sRnd ["_law_pool_here", "_law_depth"]) (G : Glo K mg) (cd : C8.Cal P w K mg base 1 "_law_draw" (spDraw K) []) : ∀ n, C8.Cal P w K mg base (n + 2) "_law_random_term" (spRnd K n) []
  | 0 => cal_false D scRnd fun vs H Q E h => by
    obtain ⟨p, dp, _, h, _⟩ := h
    omega
  | n + 1 => by
    have ih := ok_rnd D G cd n
    refine cal_of D scRnd (fun vs H Q E h => ?_) fun f cdv A outer s H vs Q E hr h => ?_
    · obtain ⟨p, dp, rfl, _⟩ := h
      rfl
    · obtain ⟨p, dp, rfl, hn, hp, q⟩ := h
      refine ⟨_, pss_cons (ps_set (i := 2) scRnd.nd rfl (.inl rfl) (pe_k cd hr (pa_cons (pv 0) (pa_cons (pe_ifExp (pt_cmpR op_gt (pv 1) pe_int (nomark _)) pe_int pe_int) pa_nil))))
        (pss_cons (ps_if (pt_cmpR op_eq (pv 2) pe_int (nomark _))
          (pss_cons (ps_set (i := 3) scRnd.nd rfl (.inl rfl) (pe_lst (pa_cons pe_int (pa_cons pe_int (pa_cons (pe_un un_neg pe_int) (pa_cons (pe_op op_pow pe_int pe_int) (pa_cons (pe_op op_sub pe_int (pe_op op_pow pe_int pe_int)) (pa_cons pe_str (pa_cons pe_str (pa_cons (pe_op op_mul_str pe_str pe_int)
              (pa_cons (pe_tup pa_nil) (pa_cons (pe_tup (pa_cons pe_int (pa_cons pe_str pa_nil))) (pa_cons (pe_tup (pa_cons (pe_tup (pa_cons pe_int pa_nil)) (pa_cons pe_int pa_nil))) (pa_cons (pe_op op_repT (pe_tup (pa_cons pe_int pa_nil)) pe_int) (pa_cons pe_int pa_nil)))))))))))))))
          (pss_one (ps_ret (pe_tup (pa_cons pe_str (pa_cons (pe_ix ix_list (pv 3) (pe_k cd hr (pa_cons (pv 0) (pa_cons pe_int pa_nil))) (fun _ _ => rfl)) pa_nil)))))) pss_nil)
        (pss_cons (ps_if (pt_cmpR op_eq (pv 2) pe_int (nomark _)) (pss_one (ps_ret (pe_tup (pa_cons pe_str (pa_cons (pe_ix ix_str pe_str (pe_k cd hr (pa_cons (pv 0) (pa_cons pe_int pa_nil))) (fun _ _ => rfl)) pa_nil))))) pss_nil)
        (pss_cons (ps_set (i := 4) scRnd.nd rfl (.inl rfl) (pe_lst (pa_cons pe_str (pa_cons pe_str (pa_cons pe_str (pa_cons pe_str (pa_cons pe_str (pa_cons pe_str (pa_cons pe_str (pa_cons pe_str (pa_cons pe_str (pa_cons pe_str pa_nil))))))))))))
        (pss_cons (ps_set (i := 5) scRnd.nd rfl (.inl rfl) (pe_ix ix_list (pv 4) (pe_k cd hr (pa_cons (pv 0) (pa_cons pe_int pa_nil))) (fun _ _ => rfl)))
        (pss_cons (ps_set (i := 6) scRnd.nd rfl (.inl rfl) (pe_dget2 (hu_of hr) (pe_disp (pps_cons pe_str (pe_k cd hr (pa_cons (pv 0) (pa_cons pe_int pa_nil))) (pps_cons pe_str pe_int pps_nil)) (by rfl) (by rfl) (fun z => by cases z) (by decide)) (pv 5) pe_int ⟨by rfl, by rfl, by rfl, by rfl⟩))
        (pss_one (ps_ret (pe_op op_catT (pe_tup (pa_cons (pv 5) pa_nil)) (pe_callTy call_tuple_of (by rfl) G.tuple b_tuple (pa_cons
            (pe_lc (own := [("_law_turn", 7)]) (g := gName 7) (tt := tYes) rfl scRnd.nd (pi_range1 (by rfl) G.range (pa_cons (pv 6) pa_nil)) (blkOk_by (N := ["_law_pool_here", "_law_depth", "_law_choice", "_law_some", "_law_words", "_law_word", "_law_many", "_law_turn"]) (sc := defScope sRnd) (by decide +kernel))
              (fun _ _ _ _ _ => pg_name (i := 7) scRnd.nd rfl (Or.inl rfl)) (fun _ _ _ _ _ => pts_nil) (fun _ _ _ _ _ => pe_k ih hr (pa_cons (pv 0) (pa_cons (pe_op op_sub (pv 1) pe_int) pa_nil)))) pa_nil)))))))))), ?_⟩
      refine ⟨_, rfl, _, rfl, _, _, rfl, rfl, _, rfl, if_val ⟨p, if 0 < dp then 4 else 2, ?_, hp, by split <;> decide, by split <;> decide, fun H1 d d0 d1 o1 p1 => ?_⟩⟩
      · by_cases h : 0 < dp
        · rw [if_pos h, decide_eq_true (show (0 : Int) < (dp : Int) by omega)]
          rfl
        · rw [if_neg h, decide_eq_false (show ¬ (0 : Int) < (dp : Int) by omega)]
          rfl
      have s1 : Stp p H H1 := ⟨o1, p1⟩
      refine ⟨_, rfl, rfl, _, rfl, ?_⟩
      rw [intEq]
      refine ite2 (fun _ => ?_) (fun c0 => ?_)
      · -- a value
        refine ⟨7, rfl, 10, 59, rfl, rfl, ⟨by decide, by decide, by decide⟩, 10, 60, rfl, rfl, ⟨by decide, by decide, by decide⟩, _, _, rfl, rfl, 120, 40, congrArg V.str x_is, rfl, by decide, by decide, Nat.zero_le _, fun p8 n8 => ⟨two_ok, fun p9 n9 => ⟨one_ok, fun pa na => ⟨two_ok, fun p10 n10 => ⟨one_ok, fun pb nb => ⟨pb, 30, [V.int 1], rfl, rfl, .inl (.inl upd_same), (fun z => by cases z), by decide, by decide, by decide, fun p11 n11 => ⟨thirteen_ok, fun L nL => ?_⟩⟩⟩⟩⟩⟩⟩
        have t8 : Stp p H1 _ := (Stp.refl p1).new (o := .tup []) n8
        have t9 := t8.new (o := .tup [V.int 1, V.str "a"]) n9
        have ta := t9.new (o := .tup [V.int 2]) na
        have t10 := ta.new (o := .tup [V.ref pa, V.int 3]) n10
        have tb := t10.new (o := .tup [V.int 1]) nb
        have t11 := tb.new (o := .tup (List.replicate (30 : Int).toNat [V.int 1]).flatten) n11
        have e8 := same_upd (o := .tup []) n8
        have e9 := same_upd (o := .tup [V.int 1, V.str "a"]) n9
        have ea := same_upd (o := .tup [V.int 2]) na
        have e10 := same_upd (o := .tup [V.ref pa, V.int 3]) n10
        have eb := same_upd (o := .tup [V.int 1]) nb
        have e11 := same_upd (o := .tup (List.replicate (30 : Int).toNat [V.int 1]).flatten) n11
        have d8 := dp_same (K := K) (e9.trans (ea.trans (e10.trans (eb.trans e11)))) (.tuple []) (.ref p8) (.tup (.inl (.inl upd_same)) .nil)
        have d9 := dp_same (K := K) (ea.trans (e10.trans (eb.trans e11))) (.tuple [.int 1, .str "a"]) (.ref p9) (.tup (.inl (.inl upd_same)) (.cons (.int 1) (.cons (.str "a") .nil)))
        have da := dp_same (K := K) e10 (.tuple [.int 2]) (.ref pa) (.tup (.inl (.inl upd_same)) (.cons (.int 2) .nil))
        have d10 := dp_same (K := K) (eb.trans e11) (.tuple [.tuple [.int 2], .int 3]) (.ref p10) (.tup (.inl (.inl upd_same)) (.cons da (.cons (.int 3) .nil)))
        have d11 := dp_tupN (K := K) n11 (dps_ones (30 : Int).toNat)
        generalize upd _ p11 _ = H6 at nL t11 e11 d8 d9 d10 d11 ⊢
        have hall : DpAll K H6 [.int 0, .int 1, .int (-7), .int (10 ^ (59 : Int).toNat), .int (3 - 10 ^ (60 : Int).toNat), .str "", .str "ab", .str ⟨(List.replicate (40 : Int).toNat 120).toArray⟩, .ref p8, .ref p9, .ref p10, .ref p11, .int 5] menu :=
          .cons (.int _) (.cons (.int _) (.cons (.int _) (.cons (.int _) (.cons (.int _) (.cons (.str _) (.cons (.str _) (.cons (.str _) (.cons d8 (.cons d9 (.cons d10 (.cons d11 (.cons (.int _) .nil))))))))))))
        have s6 := s1.trans t11
        have sL := s6.new (o := .lst [.int 0, .int 1, .int (-7), .int (10 ^ (59 : Int).toNat), .int (3 - 10 ^ (60 : Int).toNat), .str "", .str "ab", .str ⟨(List.replicate (40 : Int).toNat 120).toArray⟩, .ref p8, .ref p9, .ref p10, .ref p11, .int 5]) nL
        have nLp := s6.ne nL
        have hallL := dps_same (same_upd (o := .lst [.int 0, .int 1, .int (-7), .int (10 ^ (59 : Int).toNat), .int (3 - 10 ^ (60 : Int).toNat), .str "", .str "ab", .str ⟨(List.replicate (40 : Int).toNat 120).toArray⟩, .ref p8, .ref p9, .ref p10, .ref p11, .int 5]) nL) _ _ hall
        refine ⟨_, rfl, _, rfl, p, 13, rfl, sL.pool, by decide, by decide, fun H7 j j0 j1 o7 p7 => ?_⟩
        have t7 : Stp p _ H7 := ⟨o7, p7⟩
        have hj : j.toNat < menu.length := by
          show j.toNat < 13
          omega
        obtain ⟨u, eu, hu⟩ := dps_mem hallL (List.getElem?_eq_getElem hj)
        have md := menu_isv _ (List.getElem_mem hj)
        have hu7 := dp_kt (t7.kt sL.pool) _ u (isv_cl md) hu
        refine ⟨L, _, j, u, rfl, rfl, .of (o7 _ _ nLp upd_same), at_of (j := j.toNat) (by omega) eu, two_ok, fun c nc => ?_⟩
        exact q _ _ (.val menu[j.toNat]) ((sL.trans t7).new nc) md (.tup (.inl (.inl upd_same)) (.cons (.str _) (.cons (dp_same (same_upd nc) _ _ hu7) .nil)))
      refine ⟨_, rfl, rfl, _, rfl, ?_⟩
      rw [intEq]
      refine ite2 (fun _ => ?_) (fun c1 => ?_)
      · -- a name
        refine ⟨_, rfl, p, 5, rfl, p1, by decide, by decide, fun H2 j j0 j1 o2 p2 => ?_⟩
        have hj : j.toNat < abcde.cps.toList.length := by
          rw [abcde_len]
          omega
        have t2 : Stp p H1 H2 := ⟨o2, p2⟩
        refine ⟨abcde, j, abcde.cps.toList[j.toNat], rfl, rfl, by decide +kernel, at_gen (z := j) (j := j.toNat) (by omega) (List.getElem?_eq_getElem hj), two_ok, fun c nc => ?_⟩
        exact q _ _ (.nam ⟨#[abcde.cps.toList[j.toNat]]⟩) ((s1.trans t2).new nc) (abcde_five _ (List.getElem_mem hj)) (.tup (.inl (.inl upd_same)) (.cons (.str _) (.cons (.str _) .nil)))
      -- an operation
      have hdp : 0 < dp := by
        have c0' : ¬ d = 0 := fun e => c0 (decide_eq_true e)
        have c1' : ¬ d = 1 := fun e => c1 (decide_eq_true e)
        by_cases h : 0 < dp
        · exact h
        · rw [if_neg h] at d1
          omega
      obtain ⟨m, rfl⟩ : ∃ m, dp = m + 1 := ⟨dp - 1, by omega⟩
      refine ⟨ten_ok, fun L nL => ?_⟩
      have sL := s1.new (o := .lst (ten.map V.str)) nL
      have nLp := s1.ne nL
      refine ⟨_, rfl, _, rfl, p, 10, rfl, sL.pool, by decide, by decide, fun H2 j j0 j1 o2 p2 => ?_⟩
      have hj : j.toNat < ten.length := by
        show j.toNat < 10
        omega
      have s2 : Stp p H H2 := sL.trans ⟨o2, p2⟩
      have hw := ten_kinds _ (List.getElem_mem hj)
      refine ⟨L, ten.map V.str, j, .str ten[j.toNat], rfl, rfl, .of (o2 _ _ nLp upd_same), at_of (j := j.toNat) (by omega) (by rw [List.getElem?_map, List.getElem?_eq_getElem hj]; rfl), ?_⟩
      generalize ten[j.toNat] = wd at hw
      refine fun pd npd => ?_
      have sd := s2.new (o := .dK []) npd
      have npdp := s2.ne npd
      refine ⟨_, rfl, p, 5, rfl, sd.pool, by decide, by decide, fun H3 k k0 k1 o3 p3 => ?_⟩
      have s3 : Stp p H H3 := sd.trans ⟨o3, p3⟩
      have epd : H3 pd = some (.dK []) := o3 _ _ npdp upd_same
      refine ⟨epd, [(kLst, .int k), (kSiz, .int 1)], rfl, by simp, ?_⟩
      have s4 : Stp p H (upd H3 pd (.dK (mergeK [] [(kLst, .int k), (kSiz, .int 1)]))) := ⟨off_set s3.off (s2.back npd), pool_upd p3 npdp⟩
      have e4 : (upd H3 pd (.dK (mergeK [] [(kLst, .int k), (kSiz, .int 1)]))) pd = some (.dK (mergeK [] [(kLst, .int k), (kSiz, .int 1)])) := upd_same
      generalize (upd H3 pd (.dK (mergeK [] [(kLst, .int k), (kSiz, .int 1)]))) = H4 at s4 e4 ⊢
      obtain ⟨o, mm, hdg, em, har⟩ : ∃ (o : Option V) (mm : Nat), DGet H4 pd (.str wd) o ∧ o.getD (.int 2) = .int mm ∧ Ar wd mm := by
        have g := DGet.k (k := (Sum.inr wd : Key)) e4
        rw [dsizes] at g
        rcases hw with h | h | ⟨h, h1, h2⟩
        · rw [if_pos h] at g
          refine ⟨_, k.toNat, g, ?_, .inr (.inl ⟨h, by omega⟩)⟩
          show V.int k = V.int (k.toNat : Int)
          rw [Int.toNat_of_nonneg k0]
        · rw [if_neg (by rw [h]; exact list_ne_pairs.2.2), if_pos h] at g
          exact ⟨_, 1, g, rfl, .inr (.inr ⟨h, rfl⟩)⟩
        · rw [if_neg h1, if_neg h2] at g
          exact ⟨_, 2, g, rfl, .inl ⟨h, rfl⟩⟩
      have mm4 := (ar_cl har).2
      refine ⟨pd, rfl, .inl ⟨_, .inl e4⟩, _, rfl, o, hdg, ?_⟩
      rw [em]
      refine ⟨_, rfl, one_ok, fun a1 na1 => ?_⟩
      have s5 := s4.new (o := .tup [.str wd]) na1
      have e5 : (upd H4 a1 (.tup [.str wd])) a1 = some (.tup [.str wd]) := upd_same
      have na1p := s4.ne na1
      generalize upd H4 a1 (.tup [.str wd]) = H5 at s5 e5 ⊢
      refine ⟨_, rfl, mm, rfl, by omega, by omega, fun D nD => ?_⟩
      have nDp := s5.ne nD
      refine lc_yes (walk_range (lo := 0) (n := (mm : Int).toNat)) (fun i H1 => Stp p H5 H1 ∧ ∃ (acc : List V) (ts : List T), H1 D = some (.lst acc) ∧ DpAll K H1 acc (ts.map toD) ∧ ts.length = i ∧ ∀ t ∈ ts, TOk (m + 1) t)
        ⟨(Stp.refl s5.pool).new nD, [], [], upd_same, .nil, rfl, fun t h => (nomatch h)⟩ (fun _ _ _ _ => True.intro) (fun i x H6 H' hi p y => ?_) fun H6 p => ?_
      · obtain ⟨s6, acc, ts, eD, hac, lts, hts⟩ := p
        obtain ⟨rfl, _⟩ := y
        have la := dps_len hac
        rw [List.length_map] at la
        refine ⟨rfl, _, rfl, _, rfl, _, _, rfl, rfl, _, m, ?_, by omega, s6.pool, fun H7 v t s7 ht hv => ?_⟩
        · show [V.ref _, V.int (((m + 1 : Nat) : Int) - 1)] = [V.ref _, V.int m]
          rw [show ((m + 1 : Nat) : Int) - 1 = m by omega]
        have e7 : H7 D = some (.lst acc) := s7.off _ _ nDp eD
        have kt : KT H7 (upd H7 D (.lst (acc ++ [v]))) := kt_upd (no_tup e7 (fun _ z => by cases z) (fun _ _ z => by cases z))
        have cts : clAll (ts.map toD) = true := by
          rw [clAll_iff]
          intro y hy
          obtain ⟨t', ht', rfl⟩ := List.mem_map.mp hy
          exact (tok_cl _ _ (hts t' ht')).1
        refine ⟨acc, e7, small1000 (by omega), ⟨off_set (s6.off.trans s7.off) nD, pool_upd s7.pool nDp⟩, acc ++ [v], ts ++ [t], upd_same, ?_, by simp [lts], ?_⟩
        · rw [List.map_append]
          exact dps_snoc (dps_kt ((s7.kt s6.pool).trans kt) _ _ cts hac) (dp_kt kt _ _ (tok_cl _ _ ht).1 hv)
        · intro t' ht'
          rcases List.mem_append.mp ht' with h | h
          · exact hts t' h
          · rw [List.mem_singleton.mp h]
            exact ht
      · obtain ⟨s6, acc, ts, eD, hac, lts, hts⟩ := p
        rw [Int.toNat_natCast] at lts
        have la := dps_len hac
        rw [List.length_map] at la
        refine ⟨D, acc, rfl, .inl ⟨.of eD, fun l nl => ?_⟩⟩
        have s7 : Stp p H (upd H6 l (.tup acc)) := (s5.trans s6).new nl
        have ha7 := dps_same (same_upd (o := .tup acc) nl) _ _ hac
        have e6 : (upd H6 l (.tup acc)) a1 = some (.tup [.str wd]) := (same_upd nl) _ _ (s6.off _ _ na1p e5)
        have tok : TOk (m + 1 + 1) (.op wd ts) := ⟨by rw [lts]; exact har, hts⟩
        refine ⟨a1, l, [.str wd], acc, rfl, rfl, .inl (.inl e6), .inl (.inl upd_same), (fun z => by cases z), Nat.le_of_lt (small1000 (by simp; omega)), fun e => ?_, fun ne c nc => ?_⟩
        · subst e
          have : ts = [] := List.length_eq_zero_iff.mp la.symm
          subst this
          exact q _ _ (.op wd []) s7 tok (.tup (.inl (.inl e6)) (.cons (.str _) .nil))
        · refine q _ _ (.op wd ts) (s7.new nc) tok (.tup (.inl (.inl upd_same)) (.cons (.str _) ?_))
          rw [toDs_map]
          exact dps_same (same_upd nc) _ _ ha7
end
end E3

/-! What the law compares: plain mathematics. -/
namespace E3
open PySem PySem.Spec PyProof.Rows L2
def reasons : List Str := ["kind", "zero", "range", "size", "name"]
def Why (r : R) : Prop := ∀ s, r = .no s → s ∈ reasons
theorem why_ok (d : PyData) : Why (.ok d) := fun s h => nomatch h
theorem why_no {r : Str} (h : r ∈ reasons) : Why (.no r) := fun s e => by
  cases e
  exact h
theorem w_kind : ("kind" : Str) ∈ reasons := by decide +kernel
theorem w_zero : ("zero" : Str) ∈ reasons := by decide +kernel
theorem w_range : ("range" : Str) ∈ reasons := by decide +kernel
theorem w_size : ("size" : Str) ∈ reasons := by decide +kernel
theorem w_name : ("name" : Str) ∈ reasons := by decide +kernel
theorem why_num (w : Str) (i j : Int) : Why (num w i j) := by
  unfold num
  split
  · split
    · exact why_no w_zero
    · exact why_ok _
  · split
    · exact why_ok _
    · split
      · exact why_ok _
      · split
        · exact why_ok _
        · exact why_ok _
theorem why_numOf (w : Str) (a b : PyData) : Why (numOf w a b) := by
  unfold numOf
  split
  · exact why_num _ _ _
  · exact why_no w_kind
theorem why_joinOf (a b : PyData) : Why (joinOf a b) := by
  unfold joinOf
  split
  · exact why_ok _
  · exact why_ok _
  · exact why_no w_kind
theorem why_itemOf (a b : PyData) : Why (itemOf a b) := by
  unfold itemOf
  split
  · split
    · exact why_ok _
    · exact why_no w_range
  · exact why_no w_kind
theorem why_pairOf (w : Str) (a b : PyData) : Why (pairOf w a b) := by
  unfold pairOf
  split
  · exact why_ok _
  · split
    · exact why_joinOf _ _
    · split
      · exact why_itemOf _ _
      · exact why_numOf _ _ _
theorem why_sizeOf (a : PyData) : Why (sizeOf a) := by
  unfold sizeOf
  split
  · exact why_ok _
  · exact why_ok _
  · exact why_no w_kind
theorem why_comb (w : Str) (ds : List PyData) : Why (comb w ds) := by
  unfold comb
  split
  · exact why_ok _
  · split
    · exact why_sizeOf _
    · exact why_pairOf _ _ _
theorem why_chk {r : R} (h : Why r) : Why (chk r) := by
  unfold chk
  split
  · split
    · exact why_ok _
    · exact why_no w_size
  · exact h
mutual
theorem why_res (g : Str → Option PyData) : ∀ t : T, Why (res g t)
  | .val d => why_ok d
  | .nam x => by
    unfold res
    split
    · exact why_ok _
    · exact why_no w_name
  | .op w ts => by
    have h := why_all g ts
    unfold res
    split
    · exact why_chk (why_comb _ _)
    · rename_i r e
      exact why_no (h r e)
theorem why_all (g : Str → Option PyData) : ∀ (ts : List T) (s : Str), resAll g ts = .no s → s ∈ reasons
  | [], s, h => nomatch (show RR.ok [] = .no s from h)
  | t :: ts, s, h => by
    have h1 := why_res g t
    have h2 := why_all g ts
    have h' : RR.cons (res g t) (resAll g ts) = .no s := h
    cases e1 : res g t with
    | no r =>
      rw [e1] at h'
      cases h'
      exact h1 _ e1
    | ok d =>
      cases e2 : resAll g ts with
      | no r =>
        rw [e1, e2] at h'
        cases h'
        exact h2 _ e2
      | ok ds =>
        rw [e1, e2] at h'
        cases h'
end
theorem word_shaped : ∀ s ∈ reasons, SeqAt.shaped (.list [.str "failed", .str s]) = true := by decide +kernel
theorem shaped_lst {xs : List PyData} (h : PyData.canLayAll0 xs = true) (h2 : ∀ x ∈ xs, x.depth ≤ 60) : SeqAt.shaped (.list xs) = true := by
  unfold SeqAt.shaped
  rw [show PyData.canLay0 (.list xs) = true from h, Bool.true_and]
  apply decide_eq_true
  have := depthAll_le xs 60 h2
  simp only [PyData.depth]
  omega
theorem canLay_value : PyData.canLay0 (.str "value") = true := by decide +kernel
/-- both sides of the first comparison -/
theorem shaped_resL {g : Str → Option PyData} {n : Nat} {t : T} (hg : ∀ x d, g x = some d → isv d = true) (h : TOk n t) : SeqAt.shaped (resL (res g t)) = true := by
  cases e : res g t with
  | no s => exact word_shaped s (why_res g t s e)
  | ok d =>
    have vd := res_isv hg h e
    refine shaped_lst ?_ ?_
    · show (PyData.canLay0 (.str "value") && (d.canLay0 && true)) = true
      rw [canLay_value, cl_canLay d (isv_cl vd)]
      rfl
    · intro x hx
      rcases List.mem_cons.mp hx with rfl | hx
      · exact Nat.zero_le _
      · rw [List.mem_singleton.mp hx]
        have := isv_depth vd
        omega
theorem eqv_shaped {d : PyData} (h : SeqAt.shaped d = true) : PyData.eqv d d = true := PySem.SeqAt.eqv_refl d (by
  unfold SeqAt.shaped at h
  exact (Bool.and_eq_true_iff.mp h).1)

/-! ### names -/
mutual
theorem nms_five : ∀ (n : Nat) (t : T), TOk n t → ∀ x ∈ nms t, x ∈ five
  | 0, _, h, _, _ => h.elim
  | n + 1, .val d, _, x, hx => nomatch (show x ∈ [] from hx)
  | n + 1, .nam y, h, x, hx => by
    have e : x = y := List.mem_singleton.mp hx
    rw [e]
    exact h
  | n + 1, .op w ts, h, x, hx => by
    have h' : Ar w ts.length ∧ ∀ t ∈ ts, TOk n t := h
    exact nmsAll_five n ts h'.2 x hx
theorem nmsAll_five : ∀ (n : Nat) (ts : List T), (∀ t ∈ ts, TOk n t) → ∀ x ∈ nmsAll ts, x ∈ five
  | n, [], _, x, hx => nomatch (show x ∈ [] from hx)
  | n, t :: ts, h, x, hx => by
    rcases List.mem_append.mp hx with q | q
    · exact nms_five n t (h t List.mem_cons_self) x q
    · exact nmsAll_five n ts (fun u hu => h u (List.mem_cons_of_mem _ hu)) x q
end
theorem uq_mem {ns : List Str} {x : Str} (h : x ∈ uq ns) : x ∈ ns := by
  have : ∀ (l acc : List Str), x ∈ l.foldl st1 acc → x ∈ acc ∨ x ∈ l := by
    intro l
    induction l with
    | nil => intro acc h; exact .inl h
    | cons y l ih =>
      intro acc h
      rcases ih (st1 acc y) h with q | q
      · unfold st1 at q
        split at q
        · exact .inl q
        · rcases List.mem_append.mp q with q | q
          · exact .inl q
          · rw [List.mem_singleton.mp q]
            exact .inr List.mem_cons_self
      · exact .inr (List.mem_cons_of_mem _ q)
  rcases this ns [] h with q | q
  · exact nomatch q
  · exact q
theorem shaped_names {l : List Str} (h : ∀ x ∈ l, x ∈ five) : SeqAt.shaped (.list (l.map PyData.str)) = true := by
  refine shaped_lst (cl_canLayAll _ ?_) fun x hx => ?_
  · rw [clAll_iff]
    intro x hx
    obtain ⟨y, hy, rfl⟩ := List.mem_map.mp hx
    exact (five_ok y (h y hy)).2.2
  · obtain ⟨y, hy, rfl⟩ := List.mem_map.mp hx
    exact Nat.zero_le _
theorem dps_strs {K : PySem.W.Frag} {H : Hp} : ∀ l : List Str, DpAll K H (l.map V.str) (l.map PyData.str)
  | [] => .nil
  | x :: l => .cons (.str x) (dps_strs l)

/-! ### the variables that are given -/
def kA : Key := Sum.inr ("a" : Str)
def kB : Key := Sum.inr ("b" : Str)
def kC : Key := Sum.inr ("c" : Str)
theorem abc_ne : ("a" : Str) ≠ "b" ∧ ("a" : Str) ≠ "c" ∧ ("b" : Str) ≠ "c" := by decide +kernel
theorem abc_in : ("a" : Str) ∈ five ∧ ("b" : Str) ∈ five ∧ ("c" : Str) ∈ five := by decide +kernel
theorem kAB : kA ≠ kB := fun e => abc_ne.1 (Sum.inr.inj e)
theorem kAC : kA ≠ kC := fun e => abc_ne.2.1 (Sum.inr.inj e)
theorem kBC : kB ≠ kC := fun e => abc_ne.2.2 (Sum.inr.inj e)
theorem abc_kvs (x y z : V) : putK (mergeK [] [(kA, x), (kB, y)]) kC z = [(kA, x), (kB, y), (kC, z)] := by
  simp [mergeK, putK, kAB, kAC, kBC]
def gOf (i : Int) (s : Str) (d : PyData) : Str → Option PyData := fun x => if x = "a" then some (.int i) else if x = "b" then some (.str s) else if x = "c" then some d else none
theorem valV_abc (x y z : V) (n : Str) : valV [(kA, x), (kB, y), (kC, z)] (Sum.inr n : Key) = if n = "a" then some x else if n = "b" then some y else if n = "c" then some z else none := by
  by_cases h1 : n = "a"
  · rw [if_pos h1, valV_pos (by rw [h1]; rfl)]
  · rw [if_neg h1, valV_neg fun e => h1 (Sum.inr.inj e).symm]
    by_cases h2 : n = "b"
    · rw [if_pos h2, valV_pos (by rw [h2]; rfl)]
    · rw [if_neg h2, valV_neg fun e => h2 (Sum.inr.inj e).symm]
      by_cases h3 : n = "c"
      · rw [if_pos h3, valV_pos (by rw [h3]; rfl)]
      · rw [if_neg h3, valV_neg fun e => h3 (Sum.inr.inj e).symm]
        rfl
theorem vars_abc {K : PySem.W.Frag} {H : Hp} {a : Addr} {i : Int} {s : Str} {v : V} {d : PyData} (e : H a = some (.dK [(kA, .int i), (kB, .str s), (kC, v)])) (hi : isv (.int i) = true) (hs : isv (.str s) = true) (hv : Dp K H v d) (hd : isv d = true) :
    Vars K H a [(kA, .int i), (kB, .str s), (kC, v)] (gOf i s d) := by
  refine ⟨e, (by show 3 ≤ 20; decide), fun kv h => ?_, fun x d' h => ?_, fun x h => ?_⟩
  · rcases List.mem_cons.mp h with rfl | h
    · exact ⟨_, _, rfl, abc_in.1, .int i, hi⟩
    · rcases List.mem_cons.mp h with rfl | h
      · exact ⟨_, _, rfl, abc_in.2.1, .str s, hs⟩
      · rw [List.mem_singleton.mp h]
        exact ⟨_, _, rfl, abc_in.2.2, hv, hd⟩
  · rw [valV_abc]
    unfold gOf at h
    by_cases h1 : x = "a"
    · rw [if_pos h1] at h ⊢
      cases h
      exact ⟨_, rfl, .int i, hi⟩
    · rw [if_neg h1] at h ⊢
      by_cases h2 : x = "b"
      · rw [if_pos h2] at h ⊢
        cases h
        exact ⟨_, rfl, .str s, hs⟩
      · rw [if_neg h2] at h ⊢
        by_cases h3 : x = "c"
        · rw [if_pos h3] at h ⊢
          cases h
          exact ⟨_, rfl, hv, hd⟩
        · rw [if_neg h3] at h
          cases h
  · rw [valV_abc]
    unfold gOf at h
    by_cases h1 : x = "a"
    · rw [if_pos h1] at h
      cases h
    · rw [if_neg h1] at h ⊢
      by_cases h2 : x = "b"
      · rw [if_pos h2] at h
        cases h
      · rw [if_neg h2] at h ⊢
        by_cases h3 : x = "c"
        · rw [if_pos h3] at h
          cases h
        · rw [if_neg h3]
theorem vars_none {K : PySem.W.Frag} {H : Hp} {a : Addr} (e : H a = some (.dK [])) : Vars K H a [] fun _ => none :=
  ⟨e, Nat.zero_le _, (fun _ h => nomatch h), (fun _ _ h => nomatch h), fun _ _ => rfl⟩
theorem isv_small {i : Int} (h1 : -5 < i) (h2 : i < 5) : isv (.int i) = true := by
  have b1 : (5 : Int) < big := by decide +kernel
  show ((decide (-big < i) && decide (i < big)) && decide (0 ≤ 50)) = true
  rw [decide_eq_true (show -big < i by omega), decide_eq_true (show i < big by omega)]
  rfl
def menB : List Str := ["ab", "", "q7"]
theorem menB_isv : ∀ s ∈ menB, isv (.str s) = true := by decide +kernel
def menC : List PyData := [.tuple [.int 1, .int 2], .tuple [], .tuple [.str "a", .tuple [.int 1]]]
theorem menC_isv : ∀ d ∈ menC, isv d = true := by decide +kernel
/-- the law's first two terms -/
def deepT (n : Nat) : T := .op "list" [.val (nest n)]
theorem deep_ok : isv (nest 4) = true ∧ isv (nest 3) = true := by decide +kernel
theorem deepT_tok {n : Nat} (h : isv (nest n) = true) : TOk 5 (deepT n) := ⟨.inr (.inl ⟨rfl, (by show 1 ≤ 4; decide)⟩), fun t ht => by
  rw [List.mem_singleton.mp ht]
  exact h⟩
theorem deep_res (n : Nat) : res (fun _ => none) (deepT n) = chk (.ok (.tuple [nest n])) := rfl
theorem deep4 : res (fun _ => none) (deepT 4) = .no "size" := by
  rw [deep_res, chk, if_neg (by decide +kernel)]
theorem deep3 : res (fun _ => none) (deepT 3) = .ok (.tuple [nest 3]) := by
  rw [deep_res, chk, if_pos (by decide +kernel)]
theorem rng8 (L : Nat) : ∃ N : Nat, (if (if (8 : Int) < (L : Int) then 8 else (L : Int)) > 1 then (if (8 : Int) < (L : Int) then 8 else (L : Int)) else 1) = (N : Int) ∧ N ≤ 8 := by
  by_cases h : (8 : Int) < (L : Int)
  · rw [if_pos h]
    exact ⟨8, rfl, by decide⟩
  · rw [if_neg h]
    by_cases h2 : (L : Int) > 1
    · rw [if_pos h2]
      exact ⟨L, rfl, by omega⟩
    · rw [if_neg h2]
      exact ⟨1, rfl, by decide⟩
theorem resT_resL (r : R) : ∃ ds, resT r = .tuple ds ∧ resL r = .list ds := by
  cases r
  · exact ⟨_, rfl, rfl⟩
  · exact ⟨_, rfl, rfl⟩
theorem lres_dp {K : PySem.W.Frag} {H : Hp} {x : V} {r : R} (h : LRes K H x r) : Dp K H x (resL r) := by
  cases r with
  | ok d =>
    obtain ⟨p, u, rfl, e, hu⟩ := h
    exact .lst (.of e) (.cons (.str _) (.cons hu .nil))
  | no s =>
    obtain ⟨p, rfl, e⟩ := h
    exact .lst (.of e) (.cons (.str _) (.cons (.str _) .nil))
theorem seq_off {K : PySem.W.Frag} {H H' : Hp} {p a : Addr} {xs : List V} (f : Off p H H') (n : H p = none) (h : SqL K H a xs) : SqL K H' a xs := by
  rcases h with (h | ⟨o, h⟩) | h
  · exact .inl (.inl (f _ _ (ne_of_none h n) h))
  · exact .inl (.inr ⟨o, f _ _ (ne_of_none h n) h⟩)
  · exact .inr h
end E3

/-! the law. -/
namespace E3
open PySem PySem.Spec PyProof.Rows L2
section
variable {P : Program} {w : World} {K : PySem.W.Frag} {mg : Str → Option Value} {base : Heap}
theorem Stp.same {p : Addr} {H H1 H2 : Hp} (t : Stp p H H1) (s : Same H1 H2) : Stp p H H2 := ⟨t.off.trans (off_same s), let ⟨z1, z2, z3, z4⟩ := t.pool; ⟨z1, z2, s _ _ z3, z4⟩⟩
theorem three_ok : 3 ≤ sizeLine := by decide
def spLaw (K : PySem.W.Frag) : Sp := fun vs H Q _ => ∃ (a : Addr) (ns : List Int), vs = [.ref a] ∧ SqL K H a (ns.map V.int) ∧ ∀ H', Q (.bl true) H'
abbrev sLaw : Stmt := topS 53
theorem scLaw : FnScope ["_law_script", "_law_deep", "_law_k", "_law_pool_here", "_law_turn", "_law_given", "_law_term"] ["_law_script"] (defScope sLaw) := ⟨rfl, rfl, rfl, by decide +kernel, rfl, by decide +kernel, by decide +kernel⟩
theorem ok_law {f : Addr} {fd : FuncData} (F : Fun K "law" "law" sLaw f fd) (G : Glo K mg) (cN : C8.Cal P w K mg base 1 "_law_nested" (spNest K) []) (ce : C8.Cal P w K mg base 18 "evaluate" (spEval K) []) (cp : C8.Cal P w K mg base 1 "_law_pool" (spPool K) []) (cd : C8.Cal P w K mg base 1 "_law_draw" (spDraw K) [])
    (cr : C8.Cal P w K mg base 7 "_law_random_term" (spRnd K 5) []) (cl_ : C8.Cal P w K mg base 16 "_law_result" (spLres K 5) []) (cn : C8.Cal P w K mg base 18 "names_in" (spNin K) []) (co : C8.Cal P w K mg base 1 "_law_once" (spUnl K) []) (cm : C8.Cal P w K mg base 6 "_law_names_in" (spNms K 5) []) :
    FnOk P w K mg base CX0 19 f fd ["_law_script"] (spLaw K) := by
  refine F.ok scLaw (fun vs H Q E h => ?_) fun cdv A outer s H vs Q E hr h => ?_
  · obtain ⟨a, ns, rfl, _⟩ := h
    rfl
  · obtain ⟨a, ns, rfl, hs, q⟩ := h
    refine ⟨_, pss_cons (ps_set (i := 1) scLaw.nd rfl (.inl rfl) (pe_tup (pa_cons pe_str (pa_cons (pe_tup (pa_cons pe_str (pa_cons (pe_k cN hr (pa_cons pe_int pa_nil)) pa_nil))) pa_nil))))
      (pss_cons (ps_if (pt_cmpR (op_neD hr.units) (pe_k ce hr (pa_cons (pv 1) (pa_cons pe_dnewK pa_nil))) (pe_tup (pa_cons pe_str (pa_cons pe_str pa_nil))) (nomark _)) (pss_one (ps_ret pe_bl)) pss_nil)
      (pss_cons (ps_if (pt_cmpR op_ne (pe_ix ix_tup (pe_k ce hr (pa_cons (pe_tup (pa_cons pe_str (pa_cons (pe_tup (pa_cons pe_str (pa_cons (pe_k cN hr (pa_cons pe_int pa_nil)) pa_nil))) pa_nil))) (pa_cons pe_dnewK pa_nil))) pe_int (fun _ _ => rfl)) pe_str (nomark _)) (pss_one (ps_ret pe_bl)) pss_nil)
      (pss_cons (ps_for PassesOwn.never rfl (pi_range1 (by rfl) G.range (pa_cons (pe_callB (call_max2 rfl) (by rfl) G.max b_max (pa_cons pe_int (pa_cons (pe_callB (call_min2 rfl) (by rfl) G.min b_min (pa_cons (pe_callB call_len_seq (by rfl) G.len b_len (pa_cons (pv 0) pa_nil)) (pa_cons pe_int pa_nil))) pa_nil))) pa_nil)) (pg_name (i := 2) scLaw.nd rfl (Or.inl rfl))
        (pss_cons (ps_set (i := 3) scLaw.nd rfl (.inl rfl) (pe_k cp hr (pa_cons (pv 0) (pa_cons (pv 2) pa_nil))))
        (pss_one (ps_for PassesOwn.never rfl (pi_range1 (by rfl) G.range (pa_cons pe_int pa_nil)) (pg_name (i := 4) scLaw.nd rfl (Or.inl rfl))
          (pss_cons (ps_set (i := 5) scLaw.nd rfl (.inl rfl) (pe_disp (pps_cons pe_str (pe_op op_sub (pe_k cd hr (pa_cons (pv 3) (pa_cons pe_int pa_nil))) pe_int)
              (pps_cons pe_str (pe_ix ix_list (pe_lst (pa_cons pe_str (pa_cons pe_str (pa_cons pe_str pa_nil)))) (pe_k cd hr (pa_cons (pv 3) (pa_cons pe_int pa_nil))) (fun _ _ => rfl)) pps_nil)) (by rfl) (by rfl) (fun z => by cases z) (by decide)))
          (pss_cons (ps_dput (hu_of hr) (pv 5) pe_str (pe_ix ix_list (pe_lst (pa_cons (pe_tup (pa_cons pe_int (pa_cons pe_int pa_nil))) (pa_cons (pe_tup pa_nil) (pa_cons (pe_tup (pa_cons pe_str (pa_cons (pe_tup (pa_cons pe_int pa_nil)) pa_nil))) pa_nil)))) (pe_k cd hr (pa_cons (pv 3) (pa_cons pe_int pa_nil))) (fun _ _ => rfl)) (by rfl))
          (pss_cons (ps_set (i := 6) scLaw.nd rfl (.inl rfl) (pe_k cr hr (pa_cons (pv 3) (pa_cons (pe_op op_add pe_int (pe_k cd hr (pa_cons (pv 3) (pa_cons pe_int pa_nil)))) pa_nil))))
          (pss_cons (ps_if (pt_cmpR (op_neD hr.units) (pe_callTy call_list_of (by rfl) G.list b_list (pa_cons (pe_k ce hr (pa_cons (pv 6) (pa_cons (pv 5) pa_nil))) pa_nil)) (pe_k cl_ hr (pa_cons (pv 6) (pa_cons (pv 5) pa_nil))) (nomark _)) (pss_one (ps_ret pe_bl)) pss_nil)
          (pss_one (ps_if (pt_cmpR (op_neD hr.units) (pe_k cn hr (pa_cons (pv 6) pa_nil)) (pe_k co hr (pa_cons (pe_k cm hr (pa_cons (pv 6) pa_nil)) pa_nil)) (nomark _)) (pss_one (ps_ret pe_bl)) pss_nil))))))))))
      (pss_one (ps_ret pe_bl))))), ?_⟩
    -- the first deep term
    refine ⟨4, rfl, by decide, fun H1 v1 s1 h1 => ⟨two_ok, fun p1 n1 => ⟨two_ok, fun p2 n2 => ?_⟩⟩⟩
    have s2 := s1.trans (same_upd (o := .tup [.str "value", v1]) n1)
    have s3 := s2.trans (same_upd (o := .tup [.str "list", .ref p1]) n2)
    have hd4 : Dp K _ (.ref p2) (toD (deepT 4)) := .tup (.inl (.inl upd_same)) (.cons (.str _) (.cons (dp_same (same_upd (o := .tup [.str "list", .ref p1]) n2) _ _ (.tup (.inl (.inl upd_same)) (.cons (.str _) (.cons (dp_same (same_upd (o := .tup [.str "value", v1]) n1) _ _ h1) .nil)))) .nil))
    generalize upd _ p2 _ = H2 at s3 hd4 ⊢
    refine ⟨_, rfl, fun e1 ne1 => ?_⟩
    have s4 := s3.trans (same_upd (o := .dK []) ne1)
    refine ⟨_, deepT 4, e1, [], fun _ => none, rfl, dp_same (same_upd ne1) _ _ hd4, deepT_tok deep_ok.1, vars_none upd_same, fun H3 x s5 hx => ?_⟩
    rw [deep4] at hx
    have s6 := s4.trans s5
    refine ⟨two_ok, fun p3 n3 => ?_⟩
    have s7 := s6.trans (same_upd (o := .tup [.str "failed", .str "size"]) n3)
    refine ⟨resT (.no "size"), resT (.no "size"), dp_same (same_upd n3) _ _ hx, .tup (.inl (.inl upd_same)) (.cons (.str _) (.cons (.str _) .nil)), by decide +kernel, by decide +kernel, _, rfl, ?_⟩
    rw [show PyData.eqv (resT (.no "size")) (resT (.no "size")) = true by decide +kernel]
    generalize upd H3 p3 _ = H4 at s7 ⊢
    -- the second
    refine iteF ⟨3, rfl, by decide, fun H5 v2 s8 h2 => ⟨two_ok, fun p4 n4 => ⟨two_ok, fun p5 n5 => ?_⟩⟩⟩
    have s9 := (s7.trans s8).trans (same_upd (o := .tup [.str "value", v2]) n4)
    have s10 := s9.trans (same_upd (o := .tup [.str "list", .ref p4]) n5)
    have hd3 : Dp K _ (.ref p5) (toD (deepT 3)) := .tup (.inl (.inl upd_same)) (.cons (.str _) (.cons (dp_same (same_upd (o := .tup [.str "list", .ref p4]) n5) _ _ (.tup (.inl (.inl upd_same)) (.cons (.str _) (.cons (dp_same (same_upd (o := .tup [.str "value", v2]) n4) _ _ h2) .nil)))) .nil))
    generalize upd _ p5 _ = H6 at s10 hd3 ⊢
    refine fun e2 ne2 => ?_
    have s11 := s10.trans (same_upd (o := .dK []) ne2)
    refine ⟨_, deepT 3, e2, [], fun _ => none, rfl, dp_same (same_upd ne2) _ _ hd3, deepT_tok deep_ok.2, vars_none upd_same, fun H7 x2 s12 hx2 => ?_⟩
    rw [deep3] at hx2
    obtain ⟨c, u, rfl, hc, _⟩ := res_ok hx2
    have s13 := s11.trans s12
    refine ⟨c, _, 0, _, rfl, rfl, hc, at_cons0 _ _, rfl, _, rfl, iteF ?_⟩
    -- the cells
    have hs7 := s13.seq hs
    obtain ⟨N, eN, hN⟩ := rng8 (ns.map V.int).length
    refine ⟨_, rfl, a, _, rfl, .inl hs7, _, _, rfl, _, _, rfl, ?_⟩
    rw [eN]
    refine ⟨N, rfl, by omega, by omega, ?_⟩
    refine for_range (lo := 0) (n := (N : Int).toNat) (fun i σ H8 => ∃ y2 y3 y4 y5 y6, σ = [some (.ref a), some (.ref p2), y2, y3, y4, y5, y6] ∧ SqL K H8 a (ns.map V.int)) ⟨_, _, _, _, _, rfl, hs7⟩ (fun k σ H8 hk p => ?_) fun σ H8 p => ?_
    · obtain ⟨y2, y3, y4, y5, y6, rfl, hs8⟩ := p
      refine ⟨_, rfl, _, rfl, a, ns, k, ?_, hs8, by omega, fun H9 p s9 np pl => ?_⟩
      · show [V.ref a, V.int (0 + (k : Int))] = [V.ref a, V.int k]
        rw [Int.zero_add]
      refine ⟨25, rfl, by decide, by decide, ?_⟩
      refine for_range (lo := 0) (n := (25 : Int).toNat) (fun i σ H10 => ∃ y4 y5 y6, σ = [some (.ref a), some (.ref p2), some (.int (0 + (k : Int))), some (.ref p), y4, y5, y6] ∧ Stp p H9 H10) ⟨_, _, _, rfl, Stp.refl pl⟩ (fun i σ H10 hi pp => ?_) fun σ H10 pp => ?_
      · obtain ⟨y4, y5, y6, rfl, t10⟩ := pp
        -- the variables: a and b
        refine fun pd npd => ?_
        have npdp := t10.ne npd
        have t11 := t10.new (o := .dK []) npd
        refine ⟨_, rfl, p, 9, rfl, t11.pool, by decide, by decide, fun H12 ia a0 a1 o12 p12 => ⟨_, _, rfl, rfl, three_ok, fun Lb nLb => ?_⟩⟩
        have t12 : Stp p H9 H12 := t11.trans ⟨o12, p12⟩
        have e12 : H12 pd = some (.dK []) := o12 _ _ npdp upd_same
        have t13 := t12.new (o := .lst (menB.map V.str)) nLb
        have nLbp := t12.ne nLb
        have e13 : (upd H12 Lb (.lst (menB.map V.str))) pd = some (.dK []) := (same_upd nLb) _ _ e12
        refine ⟨_, rfl, p, 3, rfl, t13.pool, by decide, by decide, fun H14 jb b0 b1 o14 p14 => ?_⟩
        have t14 : Stp p H9 H14 := t13.trans ⟨o14, p14⟩
        have e14 : H14 pd = some (.dK []) := o14 _ _ npdp e13
        have hjb : jb.toNat < menB.length := by
          show jb.toNat < 3
          omega
        have eLb : H14 Lb = some (.lst (menB.map V.str)) := o14 _ _ nLbp upd_same
        have hsb := menB_isv _ (List.getElem_mem hjb)
        refine ⟨Lb, menB.map V.str, jb, .str menB[jb.toNat], rfl, rfl, .of eLb, at_of (j := jb.toNat) (by omega) (by rw [List.getElem?_map, List.getElem?_eq_getElem hjb]; rfl), ?_⟩
        generalize menB[jb.toNat] = sb at hsb ⊢
        refine ⟨e14, [(kA, .int (ia - 4)), (kB, .str sb)], rfl, by simp, ?_⟩
        have hia : isv (.int (ia - 4)) = true := isv_small (by omega) (by omega)
        generalize ia - 4 = va at hia ⊢
        have t15 : Stp p H9 (upd H14 pd (.dK (mergeK [] [(kA, .int va), (kB, .str sb)]))) := ⟨off_set t14.off (t10.back npd), pool_upd p14 npdp⟩
        have e15 : (upd H14 pd (.dK (mergeK [] [(kA, .int va), (kB, .str sb)]))) pd = some (.dK (mergeK [] [(kA, .int va), (kB, .str sb)])) := upd_same
        generalize upd H14 pd (.dK (mergeK [] [(kA, .int va), (kB, .str sb)])) = H15 at t15 e15 ⊢
        -- and c
        refine ⟨two_ok, fun c1 m1 => ⟨Nat.zero_le _, fun c2 m2 => ⟨one_ok, fun c3 m3 => ⟨two_ok, fun c4 m4 => ⟨three_ok, fun Lc mL => ?_⟩⟩⟩⟩⟩
        have u1 := t15.new (o := .tup [.int 1, .int 2]) m1
        have u2 := u1.new (o := .tup []) m2
        have u3 := u2.new (o := .tup [.int 1]) m3
        have u4 := u3.new (o := .tup [.str "a", .ref c3]) m4
        have w1 := same_upd (o := .tup [.int 1, .int 2]) m1
        have w2 := same_upd (o := .tup []) m2
        have w3 := same_upd (o := .tup [.int 1]) m3
        have w4 := same_upd (o := .tup [.str "a", .ref c3]) m4
        have d1 := dp_same (w2.trans (w3.trans w4)) _ _ (dp_tupN (K := K) m1 (.cons (.int 1) (.cons (.int 2) .nil)))
        have d2 := dp_same (w3.trans w4) _ _ (dp_tupN (K := K) m2 .nil)
        have d3 := dp_same w4 _ _ (dp_tupN (K := K) m3 (.cons (.int 1) .nil))
        have d4 := dp_tupN (K := K) m4 (.cons (.str "a") (.cons d3 .nil))
        have e16 := w4 _ _ (w3 _ _ (w2 _ _ (w1 _ _ e15)))
        generalize upd _ c4 _ = H16 at mL u4 d1 d2 d4 e16 ⊢
        have hC : DpAll K H16 [.ref c1, .ref c2, .ref c4] menC := .cons d1 (.cons d2 (.cons d4 .nil))
        have u5 := u4.new (o := .lst [.ref c1, .ref c2, .ref c4]) mL
        have hC5 := dps_same (same_upd (o := .lst [.ref c1, .ref c2, .ref c4]) mL) _ _ hC
        have nLcp := u4.ne mL
        have e17 := (same_upd (o := .lst [.ref c1, .ref c2, .ref c4]) mL) _ _ e16
        refine ⟨_, rfl, p, 3, rfl, u5.pool, by decide, by decide, fun H18 jc c0 c1' o18 p18 => ?_⟩
        have x18 : Stp p _ H18 := ⟨o18, p18⟩
        have t18 := u5.trans x18
        have hjc : jc.toNat < menC.length := by
          show jc.toNat < 3
          omega
        obtain ⟨vc, evc, hvc⟩ := dps_mem hC5 (List.getElem?_eq_getElem hjc)
        have hdc := menC_isv _ (List.getElem_mem hjc)
        have hvc18 := dp_kt (x18.kt u5.pool) _ vc (isv_cl hdc) hvc
        have e18 := o18 _ _ npdp e17
        refine ⟨Lc, _, jc, vc, rfl, rfl, .of (o18 _ _ nLcp upd_same), at_of (j := jc.toNat) (by omega) evc, _, rfl, pd, _, rfl, DPut.k (k := kC) e18 (by show 2 < sizeLine; decide), ?_⟩
        rw [abc_kvs]
        generalize menC[jc.toNat] = dc at hdc hvc18 ⊢
        have kt19 : KT H18 (upd H18 pd (.dK [(kA, .int va), (kB, .str sb), (kC, vc)])) := kt_upd (no_tup e18 (fun _ z => by cases z) (fun _ _ z => by cases z))
        have t19 : Stp p H9 (upd H18 pd (.dK [(kA, .int va), (kB, .str sb), (kC, vc)])) := ⟨off_set t18.off (t10.back npd), pool_upd p18 npdp⟩
        have e19 : (upd H18 pd (.dK [(kA, .int va), (kB, .str sb), (kC, vc)])) pd = some (.dK [(kA, .int va), (kB, .str sb), (kC, vc)]) := upd_same
        have hvc19 := dp_kt kt19 _ vc (isv_cl hdc) hvc18
        generalize upd H18 pd (.dK [(kA, .int va), (kB, .str sb), (kC, vc)]) = H19 at t19 e19 hvc19 ⊢
        -- the term
        refine ⟨_, rfl, _, rfl, p, 4, rfl, t19.pool, by decide, by decide, fun H20 jd d0 d1' o20 p20 => ?_⟩
        have x20 : Stp p H19 H20 := ⟨o20, p20⟩
        refine ⟨_, _, rfl, rfl, p, (1 + jd).toNat, ?_, by omega, p20, fun H21 vt t x21 ht hvt => ?_⟩
        · show [V.ref p, V.int (1 + jd)] = [V.ref p, V.int (((1 + jd).toNat : Nat) : Int)]
          rw [Int.toNat_of_nonneg (by omega)]
        have x1 := x20.trans x21
        have t21 := t19.trans x1
        have ht5 : TOk 5 t := tok_mono ht (by omega)
        have ct := (tok_cl 5 t ht5).1
        have hV21 : Vars K H21 pd [(kA, .int va), (kB, .str sb), (kC, vc)] (gOf va sb dc) := vars_abc (x1.off _ _ npdp e19) hia hsb (dp_kt (x1.kt t19.pool) _ vc (isv_cl hdc) hvc19) hdc
        -- evaluate
        refine ⟨_, rfl, _, rfl, vt, t, pd, _, _, rfl, hvt, ht5, hV21, fun H22 x s22 hx => ?_⟩
        obtain ⟨ds, er, el⟩ := resT_resL (res (gOf va sb dc) t)
        rw [er] at hx
        obtain ⟨cc, us, rfl, hcc, hus⟩ := dp_tup hx
        refine ⟨cc, us, rfl, .inr hcc, fun l nl => ?_⟩
        have w22 := same_upd (o := .lst us) nl
        have hl : Dp K (upd H22 l (.lst us)) (.ref l) (resL (res (gOf va sb dc) t)) := by
          rw [el]
          exact .lst (.of upd_same) (dps_same w22 _ _ hus)
        have s23 := s22.trans w22
        have t23 := t21.same s23
        generalize upd H22 l (.lst us) = H23 at hl s23 t23 ⊢
        refine ⟨_, rfl, _, rfl, vt, t, pd, _, _, rfl, dp_kt (same_kt s23) _ vt ct hvt, ht5, by decide, hV21.same s23, fun H24 y s24 hy => ?_⟩
        have sh := shaped_resL (g := gOf va sb dc) (fun x d e => hV21.isv x d e) ht5
        refine ⟨_, _, dp_same s24 _ _ hl, lres_dp hy, sh, sh, _, rfl, ?_⟩
        rw [eqv_shaped sh]
        have s25 := s23.trans s24
        -- the names
        refine iteF ⟨_, rfl, vt, t, rfl, dp_kt (same_kt s25) _ vt ct hvt, ht5, fun H26 q1 s26 e26 => ?_⟩
        have s27 := s25.trans s26
        refine ⟨_, rfl, vt, t, rfl, dp_kt (same_kt s27) _ vt ct hvt, ht5, by decide, fun H28 q2 s28 nq2 e28 => ?_⟩
        have nl5 := nms_len 5 t ht5
        have p4 : (4 : Nat) ^ 5 = 1024 := by decide
        refine ⟨q2, nms t, rfl, .of e28, by omega, fun H29 q3 s29 e29 => ?_⟩
        have shn := shaped_names (l := uq (nms t)) fun x hx => nms_five 5 t ht5 x (uq_mem hx)
        have s30 := s28.trans s29
        refine ⟨_, _, .lst (.of (s30 _ _ e26)) (dps_strs _), .lst (.of e29) (dps_strs _), shn, shn, _, rfl, ?_⟩
        rw [eqv_shaped shn]
        have sE := s27.trans s30
        exact iteF ⟨_, _, _, rfl, t21.same sE⟩
      · obtain ⟨y4, y5, y6, rfl, t10⟩ := pp
        exact ⟨_, _, _, _, _, rfl, seq_off ((off_same s9).trans t10.off) np hs8⟩
    · obtain ⟨y2, y3, y4, y5, y6, rfl, hs8⟩ := p
      exact q H8
end
end E3

/-! The ends: what the top has, the tuple of words, the law's function. -/
namespace E3
open PySem PySem.Spec PyProof.Rows L2

/-! ### a part of the heap, and one object more -/
def More (K K' : PySem.W.Frag) : Prop := ∀ a o, K.lookup a = some o → K'.lookup a = some o
theorem code_more {K K' : PySem.W.Frag} (le : More K K') {cd : Value} {x : Str} (h : PySem.W.codeIn K cd x = true) : PySem.W.codeIn K' cd x = true := by
  cases cd with
  | ref c =>
    cases e : K.lookup c with
    | none =>
      simp only [PySem.W.codeIn] at h
      rw [e] at h
      cases h
    | some o =>
      simp only [PySem.W.codeIn] at h ⊢
      rw [e] at h
      rw [le c o e]
      exact h
  | _ => cases h
/-- a def of the top, as the written part has it -/
structure F0 (K : PySem.W.Frag) (mg : Str → Option Value) (x : Str) (st : Stmt) : Prop where
  ex : ∃ f fd, Fun K x x st f fd ∧ mg x = some (.ref f)
theorem f0_mk {K : PySem.W.Frag} {h : Heap} {mg : Str → Option Value} {x : Str} {st : Stmt} {f : Addr} {oc : Value} {od an : Option Addr} {osl : Array (Option Value)} {kV doc pm cdv ct : Value} (X : K.In h) (G : h.Ns mainGlobals mg)
    (a : PySem.W.nsIn K mainGlobals x = some (some (.ref f))) (l : K.lookup f = some ⟨oc, od, .func (PySem.W.fnOf x x (defArgs st) (defBody st) (defScope st) .none kV doc pm an cdv ct), osl⟩) (c : PySem.W.codeIn K cdv x = true) (k : PySem.W.keepIn K (.ref f) = true) : F0 K mg x st :=
  ⟨f, _, fun_mk l c k, PySem.W.mg_of X G a⟩
theorem fun_more {K K' : PySem.W.Frag} (le : More K K') {x : Str} {st : Stmt} {f : Addr} {fd : FuncData} (F : Fun K x x st f fd) : Fun K' x x st f fd := by
  obtain ⟨oc, od, kV, doc, pm, an, cdv, ct, osl, rfl, lk, hcd⟩ := F.ex
  refine fun_mk (le _ _ lk) (code_more le hcd) ?_
  show (match K'.lookup f with
      | some ⟨_, _, .func _, _⟩ => true
      | some ⟨_, _, .cls _, _⟩ => PySem.W.specialIn K' (.ref f) "__call__" == some (some (.builtin "type.__call__"))
      | _ => false) = true
  rw [le _ _ lk]
theorem F0.d0 {K K' : PySem.W.Frag} {mg : Str → Option Value} {x : Str} {st : Stmt} {ps : List Str} (d : F0 K mg x st) (le : More K K')
    (b : ∀ (kV doc pm : Value) (an : Option Addr) (cdv ct : Value) (us : List Value), us.length = ps.length → bindArgs (PySem.W.fnOf x x (defArgs st) (defBody st) (defScope st) .none kV doc pm an cdv ct) ⟨us, []⟩ = pure (ps.zip us)) : D0 K' mg x st ps := by
  obtain ⟨f, fd, F, m⟩ := d.ex
  exact ⟨f, fd, fun_more le F, m, (fun_more le F).binds b⟩

/-! ### the tuple of words -/
theorem vals_strs {R : PySem.W.WRecords} {cl : Str → Option Addr} {h : Heap} : ∀ (l : List Str) (vs : List Value) (as : List Addr), PySem.W.ReadsAllW R cl h vs (l.map PySem.W.WData.str) as → Vals (l.map V.str) vs
  | [], vs, as, r => by
    cases r
    exact .nil
  | x :: l, vs, as, r => by
    cases r with
    | cons a b =>
      obtain ⟨t, e, _⟩ := PySem.W.readsW_str_inv a
      exact .cons ⟨t, e⟩ (vals_strs l _ _ b)
theorem tup_more {K : PySem.W.Frag} {h : Heap} {v : Value} {l : List Str} {as : List Addr} (X : K.In h) (r : PySem.W.ReadsLit h v (.tuple (l.map PySem.W.WData.str)) as) (hl : l.length ≤ 1000) :
    ∃ (K' : PySem.W.Frag) (a : Addr), More K K' ∧ K'.In h ∧ v = .ref a ∧ ∀ H, SqT K' H a (l.map V.str) := by
  generalize ed : PySem.W.WData.tuple (l.map PySem.W.WData.str) = d at r
  cases r with
  | @tuple a o vs n xs as ho hc hd hall =>
    cases ed
    have rv := vals_strs l _ _ hall
    have lk : ∀ (b : Addr) (ob : Obj), (K ++ [(a, o)]).lookup b = some ob → K.lookup b = some ob ∨ (b = a ∧ ob = o) := fun b ob e => by
      rw [List.lookup_append] at e
      cases q : K.lookup b with
      | some o' =>
        rw [q] at e
        cases e
        exact .inl rfl
      | none =>
        rw [q, Option.none_or, List.lookup_cons] at e
        by_cases hb : b = a
        · subst hb
          rw [show (b == b) = true from beq_self_eq_true b] at e
          cases e
          exact .inr ⟨rfl, rfl⟩
        · rw [show (b == a) = false from beq_eq_false_iff_ne.mpr hb] at e
          cases e
    refine ⟨K ++ [(a, o)], a, fun b ob e => ?_, fun b ob e => ?_, rfl, fun H => .inr ⟨o, vs, n, ?_, hc, hd, ?_, rv⟩⟩
    · rw [List.lookup_append, e]
      rfl
    · rcases lk b ob e with q | ⟨rfl, rfl⟩
      · exact X _ _ q
      · exact ho
    · rw [List.lookup_append]
      cases q : K.lookup a with
      | some o' =>
        have := X _ _ q
        rw [ho] at this
        cases this
        rfl
      | none =>
        rw [Option.none_or, List.lookup_cons, show (a == a) = true from beq_self_eq_true a]
    · have := rv.length
      rw [List.length_map] at this
      rw [show vs.size = l.length by rw [this, Array.length_toList]]
      exact Nat.le_of_lt (small1000 hl)
  | _ => cases ed

/-! ### the law's function -/
section
variable {K K' : PySem.W.Frag} {mg : Str → Option Value}
theorem all_fn {f : Addr} {fd : FuncData} (le : More K K') (G : Glo K' mg) (F : Fun K "law" "law" sLaw f fd)
    (d0 : F0 K mg "is_integer" sIsI)
    (d1 : F0 K mg "is_word" sWord)
    (d2 : F0 K mg "is_text" sTxt)
    (d3 : F0 K mg "is_within_levels" sWl)
    (d4 : F0 K mg "size_within" sSz)
    (d5 : F0 K mg "is_value" sVal)
    (d6 : F0 K mg "is_key" sKey)
    (d7 : F0 K mg "is_name" sName)
    (d8 : F0 K mg "is_state" sSta)
    (d9 : F0 K mg "are_variables" sArv)
    (d10 : F0 K mg "are_equal" sEq)
    (d11 : F0 K mg "check_variables" sChv)
    (d12 : F0 K mg "is_deep_expression" sDeep)
    (d13 : F0 K mg "is_expression" sIex)
    (d14 : F0 K mg "names_within" sNms)
    (d15 : F0 K mg "unlike" sUnl)
    (d16 : F0 K mg "names_in" sNin)
    (d17 : F0 K mg "failed" sFail)
    (d18 : F0 K mg "numeric_result" sNum)
    (d19 : F0 K mg "joined" sJoin)
    (d20 : F0 K mg "item_of" sItem)
    (d21 : F0 K mg "combined" sComb)
    (d22 : F0 K mg "result_of" sRes)
    (d23 : F0 K mg "evaluate" sEval)
    (d24 : F0 K mg "_law_pool" sPool)
    (d25 : F0 K mg "_law_draw" sDraw)
    (d26 : F0 K mg "_law_whole" sWhole)
    (d27 : F0 K mg "_law_small" sLsm)
    (d28 : F0 K mg "_law_within" sLsz)
    (d29 : F0 K mg "_law_pair" sPair)
    (d30 : F0 K mg "_law_result" sLres)
    (d31 : F0 K mg "_law_names_in" sLnm)
    (d32 : F0 K mg "_law_once" sOnce)
    (d33 : F0 K mg "_law_random_term" sRnd)
    (d34 : F0 K mg "_law_nested" sNest) :
    ∀ (P : Program) (w : World) (base : Heap), FnOk P w K' mg base CX0 19 f fd ["_law_script"] (spLaw K') := by
  intro P w base
  have D0 := d0.d0 (ps := ["value"]) le fun _ _ _ _ _ _ us hl => match us, hl with | [_], _ => rfl
  have D1 := d1.d0 (ps := ["value", "signs", "least", "most"]) le fun _ _ _ _ _ _ us hl => match us, hl with | [_, _, _, _], _ => rfl
  have D2 := d2.d0 (ps := ["value"]) le fun _ _ _ _ _ _ us hl => match us, hl with | [_], _ => rfl
  have D3 := d3.d0 (ps := ["value", "levels"]) le fun _ _ _ _ _ _ us hl => match us, hl with | [_, _], _ => rfl
  have D4 := d4.d0 (ps := ["value"]) le fun _ _ _ _ _ _ us hl => match us, hl with | [_], _ => rfl
  have D5 := d5.d0 (ps := ["value"]) le fun _ _ _ _ _ _ us hl => match us, hl with | [_], _ => rfl
  have D6 := d6.d0 (ps := ["value"]) le fun _ _ _ _ _ _ us hl => match us, hl with | [_], _ => rfl
  have D7 := d7.d0 (ps := ["value"]) le fun _ _ _ _ _ _ us hl => match us, hl with | [_], _ => rfl
  have D8 := d8.d0 (ps := ["value"]) le fun _ _ _ _ _ _ us hl => match us, hl with | [_], _ => rfl
  have D9 := d9.d0 (ps := ["value"]) le fun _ _ _ _ _ _ us hl => match us, hl with | [_], _ => rfl
  have D10 := d10.d0 (ps := ["one", "other"]) le fun _ _ _ _ _ _ us hl => match us, hl with | [_, _], _ => rfl
  have D11 := d11.d0 (ps := ["value"]) le fun _ _ _ _ _ _ us hl => match us, hl with | [_], _ => rfl
  have D12 := d12.d0 (ps := ["value", "depth"]) le fun _ _ _ _ _ _ us hl => match us, hl with | [_, _], _ => rfl
  have D13 := d13.d0 (ps := ["value"]) le fun _ _ _ _ _ _ us hl => match us, hl with | [_], _ => rfl
  have D14 := d14.d0 (ps := ["expression"]) le fun _ _ _ _ _ _ us hl => match us, hl with | [_], _ => rfl
  have D15 := d15.d0 (ps := ["names"]) le fun _ _ _ _ _ _ us hl => match us, hl with | [_], _ => rfl
  have D16 := d16.d0 (ps := ["expression"]) le fun _ _ _ _ _ _ us hl => match us, hl with | [_], _ => rfl
  have D17 := d17.d0 (ps := ["reason"]) le fun _ _ _ _ _ _ us hl => match us, hl with | [_], _ => rfl
  have D18 := d18.d0 (ps := ["word", "one", "other"]) le fun _ _ _ _ _ _ us hl => match us, hl with | [_, _, _], _ => rfl
  have D19 := d19.d0 (ps := ["one", "other"]) le fun _ _ _ _ _ _ us hl => match us, hl with | [_, _], _ => rfl
  have D20 := d20.d0 (ps := ["items", "index"]) le fun _ _ _ _ _ _ us hl => match us, hl with | [_, _], _ => rfl
  have D21 := d21.d0 (ps := ["word", "values"]) le fun _ _ _ _ _ _ us hl => match us, hl with | [_, _], _ => rfl
  have D22 := d22.d0 (ps := ["expression", "variables"]) le fun _ _ _ _ _ _ us hl => match us, hl with | [_, _], _ => rfl
  have D23 := d23.d0 (ps := ["expression", "variables"]) le fun _ _ _ _ _ _ us hl => match us, hl with | [_, _], _ => rfl
  have D24 := d24.d0 (ps := ["_law_script", "_law_k"]) le fun _ _ _ _ _ _ us hl => match us, hl with | [_, _], _ => rfl
  have D25 := d25.d0 (ps := ["_law_pool_here", "_law_many"]) le fun _ _ _ _ _ _ us hl => match us, hl with | [_, _], _ => rfl
  have D26 := d26.d0 (ps := ["_law_thing"]) le fun _ _ _ _ _ _ us hl => match us, hl with | [_], _ => rfl
  have D27 := d27.d0 (ps := ["_law_thing", "_law_levels"]) le fun _ _ _ _ _ _ us hl => match us, hl with | [_, _], _ => rfl
  have D28 := d28.d0 (ps := ["_law_thing"]) le fun _ _ _ _ _ _ us hl => match us, hl with | [_], _ => rfl
  have D29 := d29.d0 (ps := ["_law_word", "_law_a", "_law_b"]) le fun _ _ _ _ _ _ us hl => match us, hl with | [_, _, _], _ => rfl
  have D30 := d30.d0 (ps := ["_law_term", "_law_names"]) le fun _ _ _ _ _ _ us hl => match us, hl with | [_, _], _ => rfl
  have D31 := d31.d0 (ps := ["_law_term"]) le fun _ _ _ _ _ _ us hl => match us, hl with | [_], _ => rfl
  have D32 := d32.d0 (ps := ["_law_names"]) le fun _ _ _ _ _ _ us hl => match us, hl with | [_], _ => rfl
  have D33 := d33.d0 (ps := ["_law_pool_here", "_law_depth"]) le fun _ _ _ _ _ _ us hl => match us, hl with | [_, _], _ => rfl
  have D34 := d34.d0 (ps := ["_law_levels"]) le fun _ _ _ _ _ _ us hl => match us, hl with | [_], _ => rfl
  have cII := ok_isI (P := P) (w := w) (base := base) D0 G
  have cWo := ok_word (P := P) (w := w) (base := base) D1 G
  have cTx := ok_text (P := P) (w := w) (base := base) D2 G cWo
  have cKe := ok_key (P := P) (w := w) (base := base) D6 G cWo
  have cNa := ok_name (P := P) (w := w) (base := base) D7 G cWo
  have cWl := ok_wl (P := P) (w := w) (base := base) D3 G cII cTx 6
  have cSz := ok_sz (P := P) (w := w) (base := base) D4 G 8
  have cVa := ok_val (P := P) (w := w) (base := base) D5 G cWl cSz
  have cSt := ok_sta (P := P) (w := w) (base := base) D8 G cKe cVa
  have cAr := ok_arv (P := P) (w := w) (base := base) D9 G cSt cNa
  have cCh := ok_chv (P := P) (w := w) (base := base) D11 G cAr
  have cEq := ok_eq (P := P) (w := w) (base := base) D10 G 6
  have cDe := ok_deep (P := P) (w := w) (base := base) D12 G cVa cNa 5
  have cIe := ok_iex (P := P) (w := w) (base := base) D13 G cDe
  have cNm := ok_nms (P := P) (w := w) (base := base) D14 G 5
  have cUn := ok_unl (P := P) (w := w) (base := base) D15 G
  have cNi := ok_nin (P := P) (w := w) (base := base) D16 G cIe cNm cUn
  have cFa := ok_fail (P := P) (w := w) (base := base) D17
  have cNu := ok_num (P := P) (w := w) (base := base) D18 G cII cFa
  have cJo := ok_join (P := P) (w := w) (base := base) D19 G cTx cFa
  have cIt := ok_item (P := P) (w := w) (base := base) D20 G cII cFa
  have cCo := ok_comb (P := P) (w := w) (base := base) D21 G cII cFa cEq cJo cIt cNu
  have cRe := ok_res (P := P) (w := w) (base := base) D22 G cFa cCo cVa 5
  have cEv := ok_eval (P := P) (w := w) (base := base) D23 cIe cCh cRe
  have cPo := ok_pool (P := P) (w := w) (base := base) D24 G
  have cDr := ok_draw (P := P) (w := w) (base := base) D25
  have cWh := ok_whole (P := P) (w := w) (base := base) D26 G
  have cLm := ok_lsm (P := P) (w := w) (base := base) D27 G 8
  have cLz := ok_lsz (P := P) (w := w) (base := base) D28 G 8
  have cPa := ok_pair (P := P) (w := w) (base := base) D29 G cWh
  have cLr := ok_lres (P := P) (w := w) (base := base) D30 G cWh cPa cLm cLz 5
  have cLn := ok_lnm (P := P) (w := w) (base := base) D31 G 5
  have cOn := ok_once (P := P) (w := w) (base := base) D32 G
  have cRn := ok_rnd (P := P) (w := w) (base := base) D33 G cDr 5
  have cNe := ok_nest (P := P) (w := w) (base := base) D34 G
  exact ok_law (fun_more le F) G cNe cEv cPo cDr cRn cLr cNi cOn cLn
end

/-- what is known of the constants -/
structure Consts (K : PySem.W.Frag) (mg : Str → Option Value) : Prop where
  free : ∀ x : Str, x ∈ (["isinstance", "int", "bool", "str", "tuple", "dict", "list", "len", "all", "sum", "zip", "abs", "min", "max", "range"] : List Str) → mg x = none
  LETTERS : ∃ u, mg "LETTERS" = some u ∧ RelV (.str lets) u
  MAX_TEXT : ∃ u, mg "MAX_TEXT" = some u ∧ RelV (.int 60) u
  MAX_ITEMS : ∃ u, mg "MAX_ITEMS" = some u ∧ RelV (.int 50) u
  MAX_LEVELS : ∃ u, mg "MAX_LEVELS" = some u ∧ RelV (.int 5) u
  MAX_NAME : ∃ u, mg "MAX_NAME" = some u ∧ RelV (.int 12) u
  MAX_DEPTH : ∃ u, mg "MAX_DEPTH" = some u ∧ RelV (.int 8) u
  MAX_PARTS : ∃ u, mg "MAX_PARTS" = some u ∧ RelV (.int 10) u
theorem const_mk {K : PySem.W.Frag} {h : Heap} {mg : Str → Option Value} {x : Str} {v : V} {u : Value} (X : K.In h) (G : h.Ns mainGlobals mg) (a : PySem.W.nsIn K mainGlobals x = some (some u)) (r : RelV v u) : ∃ u, mg x = some u ∧ RelV v u :=
  ⟨u, PySem.W.mg_of X G a, r⟩
/-- the constants that the top computes -/
theorem glo_mk {K : PySem.W.Frag} {h : Heap} {mg : Str → Option Value} {lv : List (Str × PySem.W.WData)} (C : Consts K mg) (X : K.In h) (L : PySem.W.LooseAre lv mg h) (h1 : (("SIGNS" : Str), PySem.W.WData.str signs) ∈ lv) (h2 : (("MAX_INTEGER" : Str), PySem.W.WData.int big) ∈ lv)
    (h3 : (("PAIRS" : Str), PySem.W.WData.tuple (pairs.map PySem.W.WData.str)) ∈ lv) : ∃ K' : PySem.W.Frag, More K K' ∧ K'.In h ∧ Glo K' mg := by
  obtain ⟨v1, m1, r1⟩ := L.val _ h1
  obtain ⟨v2, m2, r2⟩ := L.val _ h2
  obtain ⟨v3, m3, r3⟩ := L.val _ h3
  obtain ⟨t1, e1, _⟩ := PySem.W.readsW_str_inv r1
  obtain ⟨t2, e2, _⟩ := PySem.W.readsW_int_inv r2
  obtain ⟨K', a, le, X', e3, hs⟩ := tup_more X r3 (by decide)
  have fr := fun (x : Str) hx => C.free x hx
  refine ⟨K', le, X', ⟨fr _ (by simp), fr _ (by simp), fr _ (by simp), fr _ (by simp), fr _ (by simp), fr _ (by simp), fr _ (by simp), fr _ (by simp), fr _ (by simp), fr _ (by simp), fr _ (by simp), fr _ (by simp), fr _ (by simp), fr _ (by simp), fr _ (by simp),
    ⟨v1, m1, t1, e1⟩, C.LETTERS, C.MAX_TEXT, C.MAX_ITEMS, C.MAX_LEVELS, C.MAX_NAME, ⟨v2, m2, t2, e2⟩, C.MAX_DEPTH, C.MAX_PARTS, ⟨a, ⟨v3, m3, e3⟩, hs⟩⟩⟩

/-- the row's goal, where constants of the top that are computed there are told too -/
theorem walk_more {l : PySem.W.OpenLaw} {n k : Nat} {q q2 : Program} {loose : List Str} {lv : List (Str × PySem.W.WData)} {YP : World → Heap → Prop} {d : DefRec} {K : Params → PySem.W.Frag} {x : Str}
    (most : l.most = some n) (small : n ≤ sizeLine) (plain : d.params.defaults = []) (room : Room k callerA) (part : ∀ (w : World) (h : Heap), YP w h → (K w.params).In h)
    (fn : ∀ (w : World) (mg : Str → Option Value) (fa : Addr) (h : Heap), (K w.params).In h → h.Ns mainGlobals mg → mg d.name = some (.ref fa) → PySem.W.LooseAre lv mg h →
      ∃ K' : PySem.W.Frag, K'.In h ∧ ∃ fd : FuncData, (∀ (s : Shared) (u : Value), BindsTo s fd ⟨[u], []⟩ [(x, u)]) ∧ ∀ base : Heap, FnOk l.prog w K' mg base CX0 k fa fd [x] (spLaw K')) :
    PySem.W.WalkO q loose (PySem.W.XL q2 lv) YP l.row.toRowW d [] (fun f vs => PySem.call f vs) := by
  refine Att.attach_call most plain fun w t0 t1 mg mb fa ob pm cd doc a elems nums gr yp at_ data code named list_ are few none_ => ?_
  have KX := part w _ yp
  obtain ⟨K', KX', fd, binds, F⟩ := fn w mg fa _ KX gr.T.g named gr.X.2
  refine law_call KX' gr.T.g gr.T.b gr.T.builtins gr.T.nolimit none_ list_ are (Nat.le_trans few small) room (fun base _ _ => F base) binds (fun H _ hS => ?_) fun _ _ _ z => z
  exact ⟨a, nums, rfl, hS, fun _ => rfl⟩
end E3

open PySem PySem.W PyProof.Rows
set_option maxRecDepth 100000 in
set_option maxHeartbeats 0 in
theorem PySem.Challenge.cw_mendedruns_k03_whole_values_of_expressio_holds : PySem.Challenge.rw_mendedruns_k03_whole_values_of_expressio.Holds := by
  w_on; o_law; k_head; (case hw => w_witness2)
  k_fill
  refine E3.walk_more (l := PySem.Challenge.rw_mendedruns_k03_whole_values_of_expressio) (n := 63) (k := 19) (x := "_law_script") rfl (by decide) rfl ⟨rfl, by decide, by decide⟩ (fun w h Y => PySem.W.kIn_of Y) ?F
  case F =>
    intro w mg fa h KX G hmg LX
    have d0 := by
      refine' E3.f0_mk (x := "is_integer") (st := E3.sIsI) KX G ?a ?l ?c ?k
      (case a => k_is); (case l => k_is); (case c => k_is); (case k => k_is)
    have d1 := by
      refine' E3.f0_mk (x := "is_word") (st := E3.sWord) KX G ?a ?l ?c ?k
      (case a => k_is); (case l => k_is); (case c => k_is); (case k => k_is)
    have d2 := by
      refine' E3.f0_mk (x := "is_text") (st := E3.sTxt) KX G ?a ?l ?c ?k
      (case a => k_is); (case l => k_is); (case c => k_is); (case k => k_is)
    have d3 := by
      refine' E3.f0_mk (x := "is_within_levels") (st := E3.sWl) KX G ?a ?l ?c ?k
      (case a => k_is); (case l => k_is); (case c => k_is); (case k => k_is)
    have d4 := by
      refine' E3.f0_mk (x := "size_within") (st := E3.sSz) KX G ?a ?l ?c ?k
      (case a => k_is); (case l => k_is); (case c => k_is); (case k => k_is)
    have d5 := by
      refine' E3.f0_mk (x := "is_value") (st := E3.sVal) KX G ?a ?l ?c ?k
      (case a => k_is); (case l => k_is); (case c => k_is); (case k => k_is)
    have d6 := by
      refine' E3.f0_mk (x := "is_key") (st := E3.sKey) KX G ?a ?l ?c ?k
      (case a => k_is); (case l => k_is); (case c => k_is); (case k => k_is)
    have d7 := by
      refine' E3.f0_mk (x := "is_name") (st := E3.sName) KX G ?a ?l ?c ?k
      (case a => k_is); (case l => k_is); (case c => k_is); (case k => k_is)
    have d8 := by
      refine' E3.f0_mk (x := "is_state") (st := E3.sSta) KX G ?a ?l ?c ?k
      (case a => k_is); (case l => k_is); (case c => k_is); (case k => k_is)
    have d9 := by
      refine' E3.f0_mk (x := "are_variables") (st := E3.sArv) KX G ?a ?l ?c ?k
      (case a => k_is); (case l => k_is); (case c => k_is); (case k => k_is)
    have d10 := by
      refine' E3.f0_mk (x := "are_equal") (st := E3.sEq) KX G ?a ?l ?c ?k
      (case a => k_is); (case l => k_is); (case c => k_is); (case k => k_is)
    have d11 := by
      refine' E3.f0_mk (x := "check_variables") (st := E3.sChv) KX G ?a ?l ?c ?k
      (case a => k_is); (case l => k_is); (case c => k_is); (case k => k_is)
    have d12 := by
      refine' E3.f0_mk (x := "is_deep_expression") (st := E3.sDeep) KX G ?a ?l ?c ?k
      (case a => k_is); (case l => k_is); (case c => k_is); (case k => k_is)
    have d13 := by
      refine' E3.f0_mk (x := "is_expression") (st := E3.sIex) KX G ?a ?l ?c ?k
      (case a => k_is); (case l => k_is); (case c => k_is); (case k => k_is)
    have d14 := by
      refine' E3.f0_mk (x := "names_within") (st := E3.sNms) KX G ?a ?l ?c ?k
      (case a => k_is); (case l => k_is); (case c => k_is); (case k => k_is)
    have d15 := by
      refine' E3.f0_mk (x := "unlike") (st := E3.sUnl) KX G ?a ?l ?c ?k
      (case a => k_is); (case l => k_is); (case c => k_is); (case k => k_is)
    have d16 := by
      refine' E3.f0_mk (x := "names_in") (st := E3.sNin) KX G ?a ?l ?c ?k
      (case a => k_is); (case l => k_is); (case c => k_is); (case k => k_is)
    have d17 := by
      refine' E3.f0_mk (x := "failed") (st := E3.sFail) KX G ?a ?l ?c ?k
      (case a => k_is); (case l => k_is); (case c => k_is); (case k => k_is)
    have d18 := by
      refine' E3.f0_mk (x := "numeric_result") (st := E3.sNum) KX G ?a ?l ?c ?k
      (case a => k_is); (case l => k_is); (case c => k_is); (case k => k_is)
    have d19 := by
      refine' E3.f0_mk (x := "joined") (st := E3.sJoin) KX G ?a ?l ?c ?k
      (case a => k_is); (case l => k_is); (case c => k_is); (case k => k_is)
    have d20 := by
      refine' E3.f0_mk (x := "item_of") (st := E3.sItem) KX G ?a ?l ?c ?k
      (case a => k_is); (case l => k_is); (case c => k_is); (case k => k_is)
    have d21 := by
      refine' E3.f0_mk (x := "combined") (st := E3.sComb) KX G ?a ?l ?c ?k
      (case a => k_is); (case l => k_is); (case c => k_is); (case k => k_is)
    have d22 := by
      refine' E3.f0_mk (x := "result_of") (st := E3.sRes) KX G ?a ?l ?c ?k
      (case a => k_is); (case l => k_is); (case c => k_is); (case k => k_is)
    have d23 := by
      refine' E3.f0_mk (x := "evaluate") (st := E3.sEval) KX G ?a ?l ?c ?k
      (case a => k_is); (case l => k_is); (case c => k_is); (case k => k_is)
    have d24 := by
      refine' E3.f0_mk (x := "_law_pool") (st := E3.sPool) KX G ?a ?l ?c ?k
      (case a => k_is); (case l => k_is); (case c => k_is); (case k => k_is)
    have d25 := by
      refine' E3.f0_mk (x := "_law_draw") (st := E3.sDraw) KX G ?a ?l ?c ?k
      (case a => k_is); (case l => k_is); (case c => k_is); (case k => k_is)
    have d26 := by
      refine' E3.f0_mk (x := "_law_whole") (st := E3.sWhole) KX G ?a ?l ?c ?k
      (case a => k_is); (case l => k_is); (case c => k_is); (case k => k_is)
    have d27 := by
      refine' E3.f0_mk (x := "_law_small") (st := E3.sLsm) KX G ?a ?l ?c ?k
      (case a => k_is); (case l => k_is); (case c => k_is); (case k => k_is)
    have d28 := by
      refine' E3.f0_mk (x := "_law_within") (st := E3.sLsz) KX G ?a ?l ?c ?k
      (case a => k_is); (case l => k_is); (case c => k_is); (case k => k_is)
    have d29 := by
      refine' E3.f0_mk (x := "_law_pair") (st := E3.sPair) KX G ?a ?l ?c ?k
      (case a => k_is); (case l => k_is); (case c => k_is); (case k => k_is)
    have d30 := by
      refine' E3.f0_mk (x := "_law_result") (st := E3.sLres) KX G ?a ?l ?c ?k
      (case a => k_is); (case l => k_is); (case c => k_is); (case k => k_is)
    have d31 := by
      refine' E3.f0_mk (x := "_law_names_in") (st := E3.sLnm) KX G ?a ?l ?c ?k
      (case a => k_is); (case l => k_is); (case c => k_is); (case k => k_is)
    have d32 := by
      refine' E3.f0_mk (x := "_law_once") (st := E3.sOnce) KX G ?a ?l ?c ?k
      (case a => k_is); (case l => k_is); (case c => k_is); (case k => k_is)
    have d33 := by
      refine' E3.f0_mk (x := "_law_random_term") (st := E3.sRnd) KX G ?a ?l ?c ?k
      (case a => k_is); (case l => k_is); (case c => k_is); (case k => k_is)
    have d34 := by
      refine' E3.f0_mk (x := "_law_nested") (st := E3.sNest) KX G ?a ?l ?c ?k
      (case a => k_is); (case l => k_is); (case c => k_is); (case k => k_is)
    have dL := by
      refine' E3.f0_mk (x := "law") (st := E3.sLaw) KX G ?a ?l ?c ?k
      (case a => k_is); (case l => k_is); (case c => k_is); (case k => k_is)
    have f0 := by
      refine' PySem.W.mg_none_of (n := "isinstance") KX G ?a
      (case a => k_is)
    have f1 := by
      refine' PySem.W.mg_none_of (n := "int") KX G ?a
      (case a => k_is)
    have f2 := by
      refine' PySem.W.mg_none_of (n := "bool") KX G ?a
      (case a => k_is)
    have f3 := by
      refine' PySem.W.mg_none_of (n := "str") KX G ?a
      (case a => k_is)
    have f4 := by
      refine' PySem.W.mg_none_of (n := "tuple") KX G ?a
      (case a => k_is)
    have f5 := by
      refine' PySem.W.mg_none_of (n := "dict") KX G ?a
      (case a => k_is)
    have f6 := by
      refine' PySem.W.mg_none_of (n := "list") KX G ?a
      (case a => k_is)
    have f7 := by
      refine' PySem.W.mg_none_of (n := "len") KX G ?a
      (case a => k_is)
    have f8 := by
      refine' PySem.W.mg_none_of (n := "all") KX G ?a
      (case a => k_is)
    have f9 := by
      refine' PySem.W.mg_none_of (n := "sum") KX G ?a
      (case a => k_is)
    have f10 := by
      refine' PySem.W.mg_none_of (n := "zip") KX G ?a
      (case a => k_is)
    have f11 := by
      refine' PySem.W.mg_none_of (n := "abs") KX G ?a
      (case a => k_is)
    have f12 := by
      refine' PySem.W.mg_none_of (n := "min") KX G ?a
      (case a => k_is)
    have f13 := by
      refine' PySem.W.mg_none_of (n := "max") KX G ?a
      (case a => k_is)
    have f14 := by
      refine' PySem.W.mg_none_of (n := "range") KX G ?a
      (case a => k_is)
    have c0 := by
      refine' E3.const_mk (x := "LETTERS") (v := .str E3.lets) KX G ?a ?r
      (case a => k_is); (case r => exact ⟨_, rfl⟩)
    have c1 := by
      refine' E3.const_mk (x := "MAX_TEXT") (v := .int 60) KX G ?a ?r
      (case a => k_is); (case r => exact ⟨_, rfl⟩)
    have c2 := by
      refine' E3.const_mk (x := "MAX_ITEMS") (v := .int 50) KX G ?a ?r
      (case a => k_is); (case r => exact ⟨_, rfl⟩)
    have c3 := by
      refine' E3.const_mk (x := "MAX_LEVELS") (v := .int 5) KX G ?a ?r
      (case a => k_is); (case r => exact ⟨_, rfl⟩)
    have c4 := by
      refine' E3.const_mk (x := "MAX_NAME") (v := .int 12) KX G ?a ?r
      (case a => k_is); (case r => exact ⟨_, rfl⟩)
    have c5 := by
      refine' E3.const_mk (x := "MAX_DEPTH") (v := .int 8) KX G ?a ?r
      (case a => k_is); (case r => exact ⟨_, rfl⟩)
    have c6 := by
      refine' E3.const_mk (x := "MAX_PARTS") (v := .int 10) KX G ?a ?r
      (case a => k_is); (case r => exact ⟨_, rfl⟩)
    have C : E3.Consts (L2.KOf KX) mg := ⟨fun x hx => by
      rcases List.mem_cons.mp hx with rfl | hx
      · exact f0
      rcases List.mem_cons.mp hx with rfl | hx
      · exact f1
      rcases List.mem_cons.mp hx with rfl | hx
      · exact f2
      rcases List.mem_cons.mp hx with rfl | hx
      · exact f3
      rcases List.mem_cons.mp hx with rfl | hx
      · exact f4
      rcases List.mem_cons.mp hx with rfl | hx
      · exact f5
      rcases List.mem_cons.mp hx with rfl | hx
      · exact f6
      rcases List.mem_cons.mp hx with rfl | hx
      · exact f7
      rcases List.mem_cons.mp hx with rfl | hx
      · exact f8
      rcases List.mem_cons.mp hx with rfl | hx
      · exact f9
      rcases List.mem_cons.mp hx with rfl | hx
      · exact f10
      rcases List.mem_cons.mp hx with rfl | hx
      · exact f11
      rcases List.mem_cons.mp hx with rfl | hx
      · exact f12
      rcases List.mem_cons.mp hx with rfl | hx
      · exact f13
      rw [List.mem_singleton.mp hx]
      exact f14, c0, c1, c2, c3, c4, c5, c6⟩
    obtain ⟨K', le, X', GK⟩ := E3.glo_mk C KX LX (by simp; decide +kernel) (by simp; decide +kernel) (by simp; decide +kernel)
    obtain ⟨f, fd, FL, mL⟩ := dL.ex
    have ef := hmg.symm.trans mL
    cases ef
    have FK := E3.fun_more le FL
    have bind : ∀ (s : Shared) (u : Value), BindsTo s fd ⟨[u], []⟩ [("_law_script", u)] := by
      obtain ⟨oc, od, kV, doc, pm, an, cdv, ct, osl, rfl, lk, hcd⟩ := FL.ex
      exact fun s u => .of_eq rfl
    exact ⟨K', X', fd, bind, fun base => E3.all_fn le GK FL d0 d1 d2 d3 d4 d5 d6 d7 d8 d9 d10 d11 d12 d13 d14 d15 d16 d17 d18 d19 d20 d21 d22 d23 d24 d25 d26 d27 d28 d29 d30 d31 d32 d33 d34 _ _ base⟩
