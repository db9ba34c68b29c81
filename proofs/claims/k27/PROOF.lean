import PyProof.Rows.All
import Wide.All
import OpenK.AllK
import Wide.FinOn
import HandS.ForMost
import HandS.IsInst
import HandS.Wide
import HandS.Deep
import HandS.NoneIn
import HandS.TupSets
import PySem.Challenge.RW_squareloops_k27_cells_counted
set_option Elab.async false
set_option linter.all false
set_option maxRecDepth 100000
set_option maxHeartbeats 4000000
local macro_rules | `(tactic| walk_at "ob") => `(tactic| first | omega | decide | exact ⟨by omega, by omega⟩ | exact ⟨by decide, by decide⟩ | exact Or.inl ⟨by omega, by omega⟩ | exact Or.inr ⟨by omega, by omega⟩ | exact ⟨by decide, by decide, by decide⟩ | (show (0 : Int) < _; decide))
namespace Sq
open PySem PySem.Spec PyProof.Rows L2
/-! ### common words -/
theorem bt_len : bootBuiltins "len" = some (.builtin "len") := by decide +kernel
theorem bt_isinstance : bootBuiltins "isinstance" = some (.builtin "isinstance") := by decide +kernel
theorem bt_abs : bootBuiltins "abs" = some (.builtin "abs") := by decide +kernel
theorem bt_min : bootBuiltins "min" = some (.builtin "min") := by decide +kernel
theorem bt_max : bootBuiltins "max" = some (.builtin "max") := by decide +kernel
theorem bt_all : bootBuiltins "all" = some (.builtin "all") := by decide +kernel
theorem bt_any : bootBuiltins "any" = some (.builtin "any") := by decide +kernel
theorem bt_sum : bootBuiltins "sum" = some (.builtin "sum") := by decide +kernel
theorem bt_sorted : bootBuiltins "sorted" = some (.builtin "sorted") := by decide +kernel
theorem bt_divmod : bootBuiltins "divmod" = some (.builtin "divmod") := by decide +kernel
theorem bt_repr : bootBuiltins "repr" = some (.builtin "repr") := by decide +kernel
theorem bt_int : bootBuiltins "int" = some (.type "int") := by decide +kernel
theorem bt_bool : bootBuiltins "bool" = some (.type "bool") := by decide +kernel
theorem bt_tuple : bootBuiltins "tuple" = some (.type "tuple") := by decide +kernel
theorem bt_list : bootBuiltins "list" = some (.type "list") := by decide +kernel
theorem bt_set : bootBuiltins "set" = some (.type "set") := by decide +kernel
theorem bt_dict : bootBuiltins "dict" = some (.type "dict") := by decide +kernel
theorem bt_str : bootBuiltins "str" = some (.type "str") := by decide +kernel

theorem same_upd {H : Hp} {p : Addr} {o : HO} (h : H p = none) : Same H (upd H p o) := fun b x e => by
  rw [upd_ne (ne_of_none e h)]
  exact e
theorem seqT {K : PySem.W.Frag} {H H' : Hp} {a : Addr} {xs : List V} (e : Same H H') (h : SqT K H a xs) : SqT K H' a xs := by
  rcases h with (h | ⟨o, h⟩) | h
  · exact .inl (.inl (e _ _ h))
  · exact .inl (.inr ⟨o, e _ _ h⟩)
  · exact .inr h
theorem seqL {K : PySem.W.Frag} {H H' : Hp} {a : Addr} {xs : List V} (e : Same H H') (h : SqL K H a xs) : SqL K H' a xs := e.seq h
theorem SqT.new {K : PySem.W.Frag} {H : Hp} {p : Addr} {xs : List V} : SqT K (upd H p (.tup xs)) p xs := .inl (.inl upd_same)
theorem SqL.new {K : PySem.W.Frag} {H : Hp} {p : Addr} {xs : List V} : SqL K (upd H p (.lst xs)) p xs := .inl (.inl upd_same)
/-- all stands but the list at p -/
def SameX (p : Addr) (H H' : Hp) : Prop := ∀ b o, b ≠ p → H b = some o → H' b = some o
theorem SameX.of {p : Addr} {H H' : Hp} (e : Same H H') : SameX p H H' := fun b o _ h => e b o h
theorem SameX.refl (p : Addr) (H : Hp) : SameX p H H := fun _ _ _ h => h
theorem SameX.trans {p : Addr} {H H1 H2 : Hp} (a : SameX p H H1) (b : SameX p H1 H2) : SameX p H H2 := fun c o n h => b c o n (a c o n h)
theorem SameX.upd {p : Addr} {H : Hp} {o : HO} : SameX p H (upd H p o) := fun b x n e => by
  rw [upd_ne n]
  exact e
theorem SameX.same {p : Addr} {H H1 H' : Hp} (n : H p = none) (a : Same H H1) (e : SameX p H1 H') : Same H H' := fun b o h =>
  e b o (ne_of_none h n) (a b o h)
theorem SameX.newL {p : Addr} {H H' : Hp} {o : HO} (n : H p = none) (e : SameX p (L2.upd H p o) H') : Same H H' := e.same n (same_upd n)
theorem xseqT {K : PySem.W.Frag} {p : Addr} {H H' : Hp} {a : Addr} {xs ys : List V} (e : SameX p H H') (hp : H p = some (.lst ys)) (h : SqT K H a xs) : SqT K H' a xs := by
  rcases h with (h | ⟨o, h⟩) | h
  · exact .inl (.inl (e _ _ (ne_of h hp (by intro z; cases z)) h))
  · exact .inl (.inr ⟨o, e _ _ (ne_of h hp (by intro z; cases z)) h⟩)
  · exact .inr h
theorem xseqL {K : PySem.W.Frag} {p : Addr} {H H' : Hp} {a : Addr} {xs ys : List V} (e : SameX p H H') (n : a ≠ p) (hp : H p = some (.lst ys)) (h : SqL K H a xs) : SqL K H' a xs := by
  rcases h with (h | ⟨o, h⟩) | h
  · exact .inl (.inl (e _ _ n h))
  · exact .inl (.inr ⟨o, e _ _ n h⟩)
  · exact .inr h
theorem iteT' {c : Bool} {A B : Prop} (e : c = true) (h : A) : if c = true then A else B := by
  rw [if_pos e]
  exact h
theorem iteF' {c : Bool} {A B : Prop} (e : c = false) (h : B) : if c = true then A else B := by
  rw [if_neg (by rw [e]; decide)]
  exact h

theorem qi {Q : VK} {H : Hp} {x y : Int} (q : Q (.int x) H) (e : y = x) : Q (.int y) H := e ▸ q
theorem qb {Q : VK} {H : Hp} {x y : Bool} (q : Q (.bl x) H) (e : y = x) : Q (.bl y) H := e ▸ q
/-- a def of the top that keeps a promise -/
def DefOk (P : Program) (w : World) (K : PySem.W.Frag) (mg : Str → Option Value) (base : Heap) (k : Nat) (x : Str) (ps : List Str) (sp : Sp) : Prop :=
  ∃ (f : Addr) (fd : FuncData), PySem.W.keepIn K (.ref f) = true ∧ Binds K fd ps [] ∧ mg x = some (.ref f) ∧ FnOk P w K mg base CX0 k f fd ps sp
/-- a def of the top, where it stands -/
def DefAt (K : PySem.W.Frag) (mg : Str → Option Value) (x : Str) (st : Stmt) (ps : List Str) : Prop :=
  ∃ (f : Addr) (fd : FuncData), Fun K x x st f fd ∧ Binds K fd ps [] ∧ mg x = some (.ref f)
section
variable {X : Cx} {k : Nat} {x : Str} {ps : List Str} {sp : Sp}
theorem pe_callD {e : Expr} {es : List Expr} {t : TA} {p pos : Pos} (D : DefOk X.prog X.w X.K X.mg X.base k x ps sp) (hr : Room k X.A) (hg : Gl X x)
    (ha : PA X (e :: es) t) (hdb : (x == ("__debug__" : Str)) = false := by decide) (he : starEach (e :: es) X.env = (false, eval e X.env) :: starEach es X.env := by rfl) (hpl : (backTo pos (starEach es X.env)).any (·.1) = false := by rfl) :
    PE X (.Call (.Name x p) (e :: es) [] pos) (tCall sp [] E0 t) := by
  obtain ⟨f, fd, hk, hb, hm, F⟩ := D
  exact pe_call F hr hg hm hk hb .nil pass0 ha hdb he hpl
theorem pe_callD0 {p pos : Pos} (D : DefOk X.prog X.w X.K X.mg X.base k x ps sp) (hr : Room k X.A) (hg : Gl X x) (hdb : (x == ("__debug__" : Str)) = false := by decide) :
    PE X (.Call (.Name x p) [] [] pos) (tCall sp [] E0 tNil) := by
  obtain ⟨f, fd, hk, hb, hm, F⟩ := D
  exact pe_call0 F hr hg hm hk hb .nil pass0 hdb
end
section
variable {P : Program} {w : World} {K : PySem.W.Frag} {mg : Str → Option Value} {base : Heap}
/-- the rule for a def of the top -/
theorem def_ok {x : Str} {st : Stmt} {N ps : List Str} {k : Nat} {sp : Sp} (D : DefAt K mg x st ps) (S : FnScope N ps (defScope st)) (len : ∀ vs H Q E, sp vs H Q E → vs.length = ps.length)
    (hbody : ∀ (f : Addr) (cdv : Value) (A : Around) (outer : List Env) (s : Shared) (H : Hp) (vs : List V) (Q : VK) (E : XK), Room k (A.deeper (envOfC x (defScope st) s.heap.objs.size f cdv)) → sp vs H Q E →
      ∃ t, PSs (cxOf CX0 P w K mg base N x (defScope st) f cdv A outer s H E).nox (defBody st) t ∧ t { nx := fun _ H' => Q .non H', rt := Q } (start N vs) H) : DefOk P w K mg base (k + 1) x ps sp := by
  obtain ⟨f, fd, F, b, g⟩ := D
  exact ⟨f, fd, F.kp, b, g, F.ok S len (hbody f)⟩
end
/-! ### kinds of values -/
def tyNames : List String := ["NoneType", "bool", "int", "str", "list", "tuple", "dict", "set"]
theorem kI {K : PySem.W.Frag} {t : String} (h : t ∈ tyNames) : PySem.W.kitOne K (.type t) (.type "int") = some (decide (t = "int" ∨ t = "bool")) := by
  simp only [tyNames, List.mem_cons, List.not_mem_nil, or_false] at h
  rcases h with rfl | rfl | rfl | rfl | rfl | rfl | rfl | rfl <;> exact kit_ty (by decide +kernel)
theorem kB {K : PySem.W.Frag} {t : String} (h : t ∈ tyNames) : PySem.W.kitOne K (.type t) (.type "bool") = some (decide (t = "bool")) := by
  simp only [tyNames, List.mem_cons, List.not_mem_nil, or_false] at h
  rcases h with rfl | rfl | rfl | rfl | rfl | rfl | rfl | rfl <;> exact kit_ty (by decide +kernel)
theorem kT {K : PySem.W.Frag} {t : String} (h : t ∈ tyNames) : PySem.W.kitOne K (.type t) (.type "tuple") = some (decide (t = "tuple")) := by
  simp only [tyNames, List.mem_cons, List.not_mem_nil, or_false] at h
  rcases h with rfl | rfl | rfl | rfl | rfl | rfl | rfl | rfl <;> exact kit_ty (by decide +kernel)
theorem kS {K : PySem.W.Frag} {t : String} (h : t ∈ tyNames) : PySem.W.kitOne K (.type t) (.type "str") = some (decide (t = "str")) := by
  simp only [tyNames, List.mem_cons, List.not_mem_nil, or_false] at h
  rcases h with rfl | rfl | rfl | rfl | rfl | rfl | rfl | rfl <;> exact kit_ty (by decide +kernel)
theorem ty_int {K : PySem.W.Frag} {H : Hp} (i : Int) : TyX K H (.int i) (.type "int") := .base (.int i)
theorem ty_bl {K : PySem.W.Frag} {H : Hp} (i : Bool) : TyX K H (.bl i) (.type "bool") := .base (.bl i)
theorem ty_tup {K : PySem.W.Frag} {H : Hp} {a : Addr} {xs : List V} (h : SqT K H a xs) : TyX K H (.ref a) (.type "tuple") := by
  rcases h with (h | ⟨o, h⟩) | ⟨o, its, n, h, c, _⟩
  · exact .base (.tup h)
  · exact .fTuple h
  · exact .kTuple h c
/-! ### data that the top has written -/
def kRead (K : PySem.W.Frag) : Nat → Value → Option PyData
  | 0, _ => none
  | _ + 1, .none => some .none
  | _ + 1, .bool b => some (.bool b)
  | _ + 1, .int i _ => some (.int i)
  | _ + 1, .str x _ => some (.str x)
  | n + 1, .ref a => match K.lookup a with
    | some o => match o.cls, o.data with
      | .type c, .seq its _ => if c = "tuple" ∧ its.size ≤ sizeLine then (its.toList.mapM (kRead K n)).map .tuple else none
      | _, _ => none
    | none => none
  | _ + 1, _ => none
theorem kRead_list {K : PySem.W.Frag} {n : Nat} (ih : ∀ v d, kRead K n v = some d → ∃ x, RelV x v ∧ ∀ H, Dp K H x d) :
    ∀ (us : List Value) (ds : List PyData), us.mapM (kRead K n) = some ds → ∃ xs, Vals xs us ∧ ∀ H, DpAll K H xs ds
  | [], ds, h => by
    simp only [List.mapM_nil] at h
    cases h
    exact ⟨[], .nil, fun H => .nil⟩
  | u :: us, ds, h => by
    simp only [List.mapM_cons] at h
    cases e : kRead K n u with
    | none => rw [e] at h; cases h
    | some d =>
      rw [e] at h
      cases e2 : us.mapM (kRead K n) with
      | none => rw [e2] at h; cases h
      | some ds2 =>
        rw [e2] at h
        cases h
        obtain ⟨x, r, p⟩ := ih u d e
        obtain ⟨xs, rs, ps⟩ := kRead_list ih us ds2 e2
        exact ⟨x :: xs, .cons r rs, fun H => .cons (p H) (ps H)⟩
theorem kRead_ok {K : PySem.W.Frag} : ∀ (n : Nat) (v : Value) (d : PyData), kRead K n v = some d → ∃ x, RelV x v ∧ ∀ H, Dp K H x d
  | 0, _, _, h => by cases h
  | n + 1, v, d, h => by
    cases v with
    | none => cases h; exact ⟨.non, rfl, fun H => .non⟩
    | bool b => cases h; exact ⟨.bl b, rfl, fun H => .bl b⟩
    | int i t => cases h; exact ⟨.int i, ⟨t, rfl⟩, fun H => .int i⟩
    | str x t => cases h; exact ⟨.str x, ⟨t, rfl⟩, fun H => .str x⟩
    | ref a =>
      unfold kRead at h
      split at h
      · rename_i o ho
        split at h
        · rename_i c its m hc hd
          split at h
          · rename_i hz
            obtain ⟨hz1, hz2⟩ := hz
            subst hz1
            cases e : its.toList.mapM (kRead K n) with
            | none => rw [e] at h; cases h
            | some ds =>
              rw [e] at h
              cases h
              obtain ⟨xs, rs, ps⟩ := kRead_list (kRead_ok n) _ _ e
              exact ⟨.ref a, rfl, fun H => .tup (.inr ⟨o, its, m, ho, hc, hd, hz2, rs⟩) (ps H)⟩
          · cases h
        · cases h
      · cases h
    | _ => cases h
theorem kRead_ref {K : PySem.W.Frag} {n : Nat} {a : Addr} {d : PyData} (h : kRead K n (.ref a) = some d) (H : Hp) : Dp K H (.ref a) d := by
  obtain ⟨x, r, p⟩ := kRead_ok n _ _ h
  cases x <;> simp only [L2.RelV, reduceCtorEq, exists_false, Value.ref.injEq] at r
  subst r
  exact p H
/-! ### the law's purl -/
def Prl (H : Hp) (p : Addr) (m o : Int) : Prop := H p = some (.lst [.int m, .int o]) ∧ 0 ≤ m ∧ m < 2147483629 ∧ 0 ≤ o
theorem Prl.same {H H' : Hp} {p : Addr} {m o : Int} (e : Same H H') (h : Prl H p m o) : Prl H' p m o := ⟨e _ _ h.1, h.2⟩
theorem neF {x y : V} (e : x = y) : (!decide (x = y)) = false := by rw [decide_eq_true e]; rfl
theorem eqF {x y : V} (e : x ≠ y) : decide (x = y) = false := decide_eq_false e
theorem all_rep (n : Nat) : (List.replicate n true).all id = true := by
  rw [List.all_eq_true]
  intro x hx
  rw [List.eq_of_mem_replicate hx]
  rfl
section
variable {X : Cx}
theorem call_min2N (hc : X.calm = true) : CallR X (.builtin "min") (fun xs H Q => ∃ i j, xs = [.int i, .int j] ∧ ∀ r, r ≤ i → r ≤ j → (r = i ∨ r = j) → Q (.int r) H) := by
  intro pins s σ H vs us Q I r ⟨i, j, e, h⟩
  refine call_min2 hc pins s σ H vs us Q I r ⟨i, j, e, h _ ?_ ?_ ?_⟩ <;> split <;> omega
theorem call_max2N (hc : X.calm = true) : CallR X (.builtin "max") (fun xs H Q => ∃ i j, xs = [.int i, .int j] ∧ ∀ r, i ≤ r → j ≤ r → (r = i ∨ r = j) → Q (.int r) H) := by
  intro pins s σ H vs us Q I r ⟨i, j, e, h⟩
  refine call_max2 hc pins s σ H vs us Q I r ⟨i, j, e, h _ ?_ ?_ ?_⟩ <;> split <;> omega
theorem op_powN : OpR X (binaryOp .Pow) (fun x y H Q => ∃ i j, x = .int i ∧ y = .int j ∧ CPow i j ∧ ∀ r, r = i ^ j.toNat → Q (.int r) H) := by
  intro pins s σ H x y v u Q I rx ry ⟨i, j, e1, e2, hc, h⟩
  exact op_pow pins s σ H x y v u Q I rx ry ⟨i, j, e1, e2, hc, h _ rfl⟩
def rInDT (K : PySem.W.Frag) : R2 := fun x y H Q => ∃ d ds, Dp K H x d ∧ Dp K H y (.tuple ds) ∧ SeqAt.shaped d = true ∧ SeqAt.shaped (.tuple ds) = true ∧ Q (.bl (ds.any fun z => PyData.eqv z d)) H
theorem op_inDT (hu : X.A.units + 65 < cLine) : OpR X (compareOp .In) (rInDT X.K) := by
  intro pins s σ H x y v u Q I rx ry h
  obtain ⟨d, ds, hd, he, sd, se, q⟩ := h
  obtain ⟨as, r1⟩ := Dp.reads I d x v hd rx
  obtain ⟨bs, r2⟩ := Dp.reads I (.tuple ds) y u he ry
  exact SeqAt.in_tuple_reads r2 r1 (SeqAt.canLay_of_shaped se) (SeqAt.canLay_of_shaped sd) (room_in_shaped sd hu) ⟨.bl _, H, I, rfl, q⟩
end
theorem hu65 {A : Around} {k : Nat} (hr : Room k A) : A.units + 65 < cLine := by
  have := hr.un
  omega
/-! ### sorting, plain -/
def ins (x : Int) : List Int → List Int
  | [] => [x]
  | y :: r => if x ≤ y then x :: y :: r else y :: ins x r
def isort : List Int → List Int
  | [] => []
  | x :: r => ins x (isort r)
theorem ins_perm (x : Int) : ∀ l : List Int, (ins x l).Perm (x :: l)
  | [] => .refl _
  | y :: r => by
    unfold ins
    split
    · exact .refl _
    · exact ((ins_perm x r).cons y).trans (.swap x y r)
theorem isort_perm : ∀ l : List Int, (isort l).Perm l
  | [] => .refl _
  | x :: r => (ins_perm x (isort r)).trans ((isort_perm r).cons x)
theorem ins_sorted (x : Int) : ∀ l : List Int, l.Pairwise (· ≤ ·) → (ins x l).Pairwise (· ≤ ·)
  | [], _ => by
    unfold ins
    exact List.pairwise_singleton _ _
  | y :: r, h => by
    have h' := List.pairwise_cons.mp h
    unfold ins
    split
    · rename_i hx
      refine List.pairwise_cons.mpr ⟨fun z hz => ?_, h⟩
      rcases List.mem_cons.mp hz with rfl | hz
      · exact hx
      · exact Int.le_trans hx (h'.1 z hz)
    · rename_i hx
      refine List.pairwise_cons.mpr ⟨fun z hz => ?_, ins_sorted x r h'.2⟩
      rcases List.mem_cons.mp ((ins_perm x r).mem_iff.mp hz) with rfl | hz
      · omega
      · exact h'.1 z hz
theorem isort_sorted : ∀ l : List Int, (isort l).Pairwise (· ≤ ·)
  | [] => .nil
  | x :: r => ins_sorted x _ (isort_sorted r)
theorem sort_eq {a l : List Int} (hp : a.Perm l) (ha : a.Pairwise (· ≤ ·)) : isort l = a :=
  List.Perm.eq_of_pairwise (fun x y _ _ h1 h2 => Int.le_antisymm h1 h2) (isort_sorted l) ha ((isort_perm l).trans hp.symm)
theorem isort_same {a b : List Int} (hp : a.Perm b) : isort a = isort b :=
  sort_eq ((isort_perm b).trans hp.symm) (isort_sorted b)
theorem len4 {l : List Int} (h : l.length = 4) : ∃ a b c d, l = [a, b, c, d] := by
  match l, h with
  | [a, b, c, d], _ => exact ⟨a, b, c, d, rfl⟩
theorem ins_succ (x : Int) : ∀ l : List Int, ins (x + 1) (l.map (· + 1)) = (ins x l).map (· + 1)
  | [] => rfl
  | y :: r => by
    have e1 : ∀ (a b : Int) (s : List Int), ins a (b :: s) = if a ≤ b then a :: b :: s else b :: ins a s := fun _ _ _ => rfl
    rw [List.map_cons, e1, e1]
    by_cases h : x ≤ y
    · rw [if_pos h, if_pos (by omega)]; rfl
    · rw [if_neg h, if_neg (by omega), ins_succ x r]; rfl
theorem isort_succ : ∀ l : List Int, isort (l.map (· + 1)) = (isort l).map (· + 1)
  | [] => rfl
  | x :: r => by
    show ins (x + 1) (isort (r.map (· + 1))) = _
    rw [isort_succ r, ins_succ]
    rfl
/-! ### the kind of a cell -/
def cutL (l : List Int) : Int × Int × Int := match l with
  | [a, b, c, _] => (if 1 < a then 1 else a, if 2 < b - a then 2 else b - a, if 3 < c - b then 3 else c - b)
  | _ => (0, 0, 0)
def kd (n r c : Int) : Int × Int × Int := cutL (isort [r, c, n - 1 - r, n - 1 - c])
theorem kd_of {n r c x1 x2 x3 x4 : Int} (h : isort [r, c, n - 1 - r, n - 1 - c] = [x1, x2, x3, x4]) :
    kd n r c = (if 1 < x1 then 1 else x1, if 2 < x2 - x1 then 2 else x2 - x1, if 3 < x3 - x2 then 3 else x3 - x2) := by
  unfold kd
  rw [h]
  rfl
def cells8 (n r c : Int) : List (Int × Int) := [(r, c), (c, r), (r, n - 1 - c), (n - 1 - c, r), (n - 1 - r, c), (c, n - 1 - r), (n - 1 - r, n - 1 - c), (n - 1 - c, n - 1 - r)]
theorem p4a (a b c d : Int) : [b, a, d, c].Perm [a, b, c, d] := (List.Perm.swap a b [d, c]).trans ((List.Perm.swap c d []).cons b |>.cons a)
theorem p4b (a b c d : Int) : [a, d, c, b].Perm [a, b, c, d] := by
  refine .cons a ?_
  exact ((List.Perm.swap c d [b])).trans (((List.Perm.swap b d []).cons c).trans (.swap b c [d]))
theorem p4c (a b c d : Int) : [c, b, a, d].Perm [a, b, c, d] :=
  (List.Perm.swap b c [a, d]).trans (((List.Perm.swap a c [d]).cons b).trans (.swap a b [c, d]))
theorem kd_image {n r c : Int} {z : Int × Int} (h : z ∈ cells8 n r c) : kd n z.1 z.2 = kd n r c := by
  have e1 : n - 1 - (n - 1 - r) = r := by omega
  have e2 : n - 1 - (n - 1 - c) = c := by omega
  unfold kd
  refine congrArg cutL (isort_same ?_)
  generalize er : n - 1 - r = r' at *
  generalize ec : n - 1 - c = c' at *
  simp only [cells8, er, ec, List.mem_cons, List.not_mem_nil, or_false] at h
  rcases h with rfl | rfl | rfl | rfl | rfl | rfl | rfl | rfl <;> simp only [er, ec, e1, e2]
  · exact .refl _
  · exact p4a r c r' c'
  · exact p4b r c r' c'
  · exact (p4a r c' r' c).trans (p4b r c r' c')
  · exact p4c r c r' c'
  · exact (p4a r' c r c').trans (p4c r c r' c')
  · exact (p4c r c' r' c).trans (p4b r c r' c')
  · exact (p4a r' c' r c).trans ((p4c r c' r' c).trans (p4b r c r' c'))
theorem cells8_in {n r c : Int} {z : Int × Int} (h : z ∈ cells8 n r c) (r0 : 0 ≤ r) (rn : r < n) (c0 : 0 ≤ c) (cn : c < n) : 0 ≤ z.1 ∧ z.1 < n ∧ 0 ≤ z.2 ∧ z.2 < n := by
  simp only [cells8, List.mem_cons, List.not_mem_nil, or_false] at h
  rcases h with rfl | rfl | rfl | rfl | rfl | rfl | rfl | rfl <;> exact ⟨by show _ ≤ _; omega, by show _ < _; omega, by show _ ≤ _; omega, by show _ < _; omega⟩
theorem isort4 (l : List Int) (h : l.length = 4) : ∃ a b c d, isort l = [a, b, c, d] := len4 (((isort_perm l).length_eq).trans h)
theorem kd_next {n r c : Int} (r0 : 0 ≤ r) (rn : r < n) (c0 : 0 ≤ c) (cn : c < n) : kd (n + 2) (r + 1) (c + 1) = (1, (kd n r c).2.1, (kd n r c).2.2) := by
  obtain ⟨a, b, x, d, e⟩ := isort4 [r, c, n - 1 - r, n - 1 - c] rfl
  have e2 : isort [r + 1, c + 1, n + 2 - 1 - (r + 1), n + 2 - 1 - (c + 1)] = [a + 1, b + 1, x + 1, d + 1] := by
    have := isort_succ [r, c, n - 1 - r, n - 1 - c]
    rw [e] at this
    rw [show n + 2 - 1 - (r + 1) = n - 1 - r + 1 by omega, show n + 2 - 1 - (c + 1) = n - 1 - c + 1 by omega]
    exact this
  have ha : 0 ≤ a := by
    have := (isort_perm [r, c, n - 1 - r, n - 1 - c]).mem_iff (a := a)
    rw [e] at this
    have := this.mp (List.mem_cons_self ..)
    simp only [List.mem_cons, List.not_mem_nil, or_false] at this
    omega
  rw [kd_of e, kd_of e2]
  simp only [Prod.mk.injEq]
  refine ⟨?_, ?_, ?_⟩
  · split <;> omega
  · rw [show b + 1 - (a + 1) = b - a by omega]
  · rw [show x + 1 - (b + 1) = x - b by omega]
/-! ### cells in order -/
def leC (z w : Int × Int) : Prop := z.1 < w.1 ∨ (z.1 = w.1 ∧ z.2 ≤ w.2)
def ltC (z w : Int × Int) : Prop := z.1 < w.1 ∨ (z.1 = w.1 ∧ z.2 < w.2)
theorem leC_anti {z w : Int × Int} (a : leC z w) (b : leC w z) : z = w := by
  obtain ⟨z1, z2⟩ := z
  obtain ⟨w1, w2⟩ := w
  unfold leC at a b
  simp only [Prod.mk.injEq] at *
  omega
theorem asc_unique {a b : List (Int × Int)} (ha : a.Pairwise ltC) (hb : b.Pairwise ltC) (h : ∀ z, z ∈ a ↔ z ∈ b) : a = b := by
  have na : a.Nodup := ha.imp (fun {x y} h e => by subst e; unfold ltC at h; omega)
  have nb : b.Nodup := hb.imp (fun {x y} h e => by subst e; unfold ltC at h; omega)
  refine List.Perm.eq_of_pairwise (le := leC) (fun x y _ _ h1 h2 => leC_anti h1 h2) (ha.imp fun {x y} h => ?_) (hb.imp fun {x y} h => ?_) ?_
  · unfold ltC at h; unfold leC; omega
  · unfold ltC at h; unfold leC; omega
  · exact (List.perm_ext_iff_of_nodup na nb).mpr h
/-- each new one put at the end -/
def dd (acc : List (Int × Int)) : List (Int × Int) → List (Int × Int)
  | [] => acc
  | z :: r => dd (if z ∈ acc then acc else acc ++ [z]) r
theorem dd_mem : ∀ (l acc : List (Int × Int)) (z : Int × Int), z ∈ dd acc l ↔ z ∈ acc ∨ z ∈ l
  | [], acc, z => by simp [dd]
  | y :: r, acc, z => by
    unfold dd
    rw [dd_mem r]
    split
    · rename_i h
      rw [List.mem_cons]
      constructor
      · rintro (h1 | h1)
        · exact .inl h1
        · exact .inr (.inr h1)
      · rintro (h1 | rfl | h1)
        · exact .inl h1
        · exact .inl h
        · exact .inr h1
    · rw [List.mem_append, List.mem_singleton, List.mem_cons, or_assoc]
theorem dd_asc : ∀ (l acc : List (Int × Int)), acc.Pairwise ltC → l.Pairwise leC → (∀ z ∈ acc, ∀ w ∈ l, leC z w) → (dd acc l).Pairwise ltC
  | [], acc, h, _, _ => h
  | y :: r, acc, h, hl, hal => by
    have hl' := List.pairwise_cons.mp hl
    unfold dd
    split
    · exact dd_asc r acc h hl'.2 fun z hz w hw => hal z hz w (List.mem_cons_of_mem _ hw)
    · rename_i hy
      refine dd_asc r _ (List.pairwise_append.mpr ⟨h, List.pairwise_singleton _ _, fun z hz w hw => ?_⟩) hl'.2 fun z hz w hw => ?_
      · rw [List.mem_singleton] at hw
        subst hw
        have h1 := hal z hz w (List.mem_cons_self ..)
        have h2 : z ≠ w := fun e => hy (e ▸ hz)
        obtain ⟨z1, z2⟩ := z
        obtain ⟨w1, w2⟩ := w
        unfold leC at h1
        unfold ltC
        simp only [ne_eq, Prod.mk.injEq, not_and] at *
        omega
      · rw [List.mem_append, List.mem_singleton] at hz
        rcases hz with hz | rfl
        · exact hal z hz w (List.mem_cons_of_mem _ hw)
        · exact hl'.1 w hw
theorem dd_snoc : ∀ (l acc : List (Int × Int)) (z : Int × Int), dd acc (l ++ [z]) = (if z ∈ dd acc l then dd acc l else dd acc l ++ [z])
  | [], acc, z => rfl
  | y :: r, acc, z => by
    show dd _ (r ++ [z]) = _
    rw [dd_snoc r]
    rfl
theorem dd_len : ∀ (l acc : List (Int × Int)), (dd acc l).length ≤ acc.length + l.length
  | [], acc => Nat.le_refl _
  | y :: r, acc => by
    unfold dd
    refine Nat.le_trans (dd_len r _) ?_
    split
    · rw [List.length_cons]; omega
    · rw [List.length_append, List.length_singleton, List.length_cons]; omega
/-! ### cells as data -/
mutual
theorem dpS {K : PySem.W.Frag} {H H' : Hp} (e : Same H H') : ∀ {v : V} {d : PyData}, Dp K H v d → Dp K H' v d
  | _, _, .non => .non
  | _, _, .bl b => .bl b
  | _, _, .int i => .int i
  | _, _, .str x => .str x
  | _, _, .lst h a => .lst (seqL e h) (dpAllS e a)
  | _, _, .tup h a => .tup (seqT e h) (dpAllS e a)
theorem dpAllS {K : PySem.W.Frag} {H H' : Hp} (e : Same H H') : ∀ {vs : List V} {ds : List PyData}, DpAll K H vs ds → DpAll K H' vs ds
  | _, _, .nil => .nil
  | _, _, .cons h t => .cons (dpS e h) (dpAllS e t)
end
def cD (z : Int × Int) : PyData := .tuple [.int z.1, .int z.2]
theorem cD_of {K : PySem.W.Frag} {H : Hp} {a : Addr} {r c : Int} (h : SqT K H a [.int r, .int c]) : Dp K H (.ref a) (cD (r, c)) := .tup h (.cons (.int r) (.cons (.int c) .nil))
theorem cD_inv {K : PySem.W.Frag} {H : Hp} {v : V} {z : Int × Int} (h : Dp K H v (cD z)) : ∃ a, v = .ref a ∧ SqT K H a [.int z.1, .int z.2] := by
  cases h with
  | tup h a =>
    cases a with
    | cons h1 t =>
      cases t with
      | cons h2 t2 =>
        cases t2
        cases h1
        cases h2
        exact ⟨_, rfl, h⟩
theorem cD_shaped (z : Int × Int) : SeqAt.shaped (cD z) = true := by
  show (PyData.canLay0 _ && decide (PyData.depth _ ≤ 64)) = true
  simp [cD, PyData.canLay0, PyData.canLayAll0, PyData.depth, PyData.depthAll]
theorem cDs_lay : ∀ l : List (Int × Int), PyData.canLayAll0 (l.map cD) = true
  | [] => by simp [PyData.canLayAll0]
  | z :: l => by simp [PyData.canLayAll0, cDs_lay l, cD, PyData.canLay0]
theorem cDs_depth : ∀ l : List (Int × Int), PyData.depthAll (l.map cD) ≤ 2
  | [] => by simp [PyData.depthAll]
  | z :: l => by
    have := cDs_depth l
    simp only [List.map_cons, PyData.depthAll, cD, PyData.depth]
    omega
theorem cDs_shapedL (l : List (Int × Int)) : SeqAt.shaped (.list (l.map cD)) = true := by
  have := cDs_depth l
  show (PyData.canLay0 (.list (l.map cD)) && decide (PyData.depth (.list (l.map cD)) ≤ 64)) = true
  rw [Bool.and_eq_true]
  exact ⟨by simp only [PyData.canLay0]; exact cDs_lay l, decide_eq_true (by simp only [PyData.depth]; omega)⟩
theorem cDs_shapedT (l : List (Int × Int)) : SeqAt.shaped (.tuple (l.map cD)) = true := by
  have := cDs_depth l
  show (PyData.canLay0 (.tuple (l.map cD)) && decide (PyData.depth (.tuple (l.map cD)) ≤ 64)) = true
  rw [Bool.and_eq_true]
  exact ⟨by simp only [PyData.canLay0]; exact cDs_lay l, decide_eq_true (by simp only [PyData.depth]; omega)⟩
theorem cD_eqv (z w : Int × Int) : PyData.eqv (cD z) (cD w) = decide (z = w) := by
  obtain ⟨a, b⟩ := z
  obtain ⟨a', b'⟩ := w
  have e : PyData.eqv (cD (a, b)) (cD (a', b')) = ((a == a') && ((b == b') && true)) := by simp only [cD, PyData.eqv, PyData.eqvAll]
  rw [e, Bool.and_true, Bool.eq_iff_iff]
  simp
theorem cD_any (l : List (Int × Int)) (z : Int × Int) : ((l.map cD).any fun y => PyData.eqv y (cD z)) = decide (z ∈ l) := by
  rw [Bool.eq_iff_iff, List.any_map, List.any_eq_true, decide_eq_true_eq]
  constructor
  · rintro ⟨x, hx, h⟩
    rw [Function.comp, cD_eqv, decide_eq_true_eq] at h
    exact h ▸ hx
  · intro h
    exact ⟨z, h, by rw [Function.comp, cD_eqv, decide_eq_true_eq]⟩
theorem dpAll_get {K : PySem.W.Frag} {H : Hp} : ∀ {vs : List V} {l : List (Int × Int)} {i : Nat} {x : V}, DpAll K H vs (l.map cD) → vs[i]? = some x → ∃ z, l[i]? = some z ∧ Dp K H x (cD z)
  | _, [], _, _, .nil, h => by simp at h
  | _, z :: l, 0, _, .cons h t, e => by
    simp only [List.getElem?_cons_zero, Option.some.injEq] at e
    subst e
    exact ⟨z, rfl, h⟩
  | _, z :: l, i + 1, _, .cons h t, e => by
    simp only [List.getElem?_cons_succ] at e
    obtain ⟨w, e2, h2⟩ := dpAll_get t e
    exact ⟨w, by rw [List.getElem?_cons_succ]; exact e2, h2⟩
theorem dpAll_len {K : PySem.W.Frag} {H : Hp} : ∀ {vs : List V} {l : List PyData}, DpAll K H vs l → vs.length = l.length
  | _, _, .nil => rfl
  | _, _, .cons _ t => by rw [List.length_cons, List.length_cons, dpAll_len t]
theorem dpAll_snoc {K : PySem.W.Frag} {H : Hp} {v : V} {d : PyData} : ∀ {vs : List V} {l : List PyData}, DpAll K H vs l → Dp K H v d → DpAll K H (vs ++ [v]) (l ++ [d])
  | _, _, .nil, h => .cons h .nil
  | _, _, .cons a t, h => .cons a (dpAll_snoc t h)
theorem dpAll_perm {K : PySem.W.Frag} {H : Hp} {ys xs : List V} (p : ys.Perm xs) : ∀ {l : List (Int × Int)}, DpAll K H xs (l.map cD) → ∃ l' : List (Int × Int), l'.Perm l ∧ DpAll K H ys (l'.map cD) := by
  induction p with
  | nil => intro l h; exact ⟨l, .refl _, h⟩
  | cons x p ih =>
    intro l h
    match l, h with
    | z :: l, .cons h t =>
      obtain ⟨l', q, h'⟩ := ih t
      exact ⟨z :: l', q.cons z, .cons h h'⟩
  | swap x y p =>
    intro l h
    match l, h with
    | z :: w :: l, .cons h1 (.cons h2 t) => exact ⟨w :: z :: l, .swap z w l, .cons h2 (.cons h1 t)⟩
  | trans p1 p2 ih1 ih2 =>
    intro l h
    obtain ⟨l1, q1, h1⟩ := ih2 h
    obtain ⟨l2, q2, h2⟩ := ih1 h1
    exact ⟨l2, q2.trans q1, h2⟩
theorem dpAll_pw {K : PySem.W.Frag} {H : Hp} {R : V → V → Prop} {S : Int × Int → Int × Int → Prop} (hRS : ∀ {x y : V} {z w : Int × Int}, Dp K H x (cD z) → Dp K H y (cD w) → R x y → S z w) :
    ∀ {ys : List V} {l : List (Int × Int)}, DpAll K H ys (l.map cD) → ys.Pairwise R → l.Pairwise S
  | _, [], .nil, _ => .nil
  | _, z :: l, .cons h t, p => by
    have p' := List.pairwise_cons.mp p
    refine List.pairwise_cons.mpr ⟨fun w hw => ?_, dpAll_pw hRS t p'.2⟩
    obtain ⟨i, hi, e⟩ := List.getElem_of_mem hw
    have hl := dpAll_len t
    rw [List.length_map] at hl
    have hi' : i < _ := hl ▸ hi
    obtain ⟨w', e', h'⟩ := dpAll_get t (List.getElem?_eq_getElem hi')
    rw [List.getElem?_eq_getElem hi, e] at e'
    cases e'
    exact hRS h h' (p'.1 _ (List.getElem_mem _))
def big : Int := 10 ^ 31
theorem code2 (x y : Int) : TS.code big [x, y] = x * big + y := by
  simp [TS.code, Int.pow_succ]
section
variable {X : Cx}
def rSortC (K : PySem.W.Frag) : List V → Hp → VK → Prop := fun vs H Q => ∃ (a : Addr) (ts : List V) (L : List (Int × Int)), vs = [.ref a] ∧ SqL K H a ts ∧ DpAll K H ts (L.map cD) ∧ L.length < 64 ∧ (∀ z ∈ L, (0 ≤ z.1 ∧ z.1 < big) ∧ (0 ≤ z.2 ∧ z.2 < big)) ∧
  ∀ (p : Addr) (ts' : List V) (L' : List (Int × Int)), L'.Perm L → L'.Pairwise leC → H p = none → DpAll K (upd H p (.lst ts')) ts' (L'.map cD) → Q (.ref p) (upd H p (.lst ts'))
theorem cr_sortC : CallR X (.builtin "sorted") (rSortC X.K) := by
  intro pins s σ H vs us Q I r ⟨a, ts, L, e, hs, hd, hl, hb, h⟩
  have hlen := dpAll_len hd
  rw [List.length_map] at hlen
  refine cr_sortT (d := 2) (B := big) (by decide) pins s σ H vs us Q I r ⟨a, ts, e, hs, by omega, fun x hx => ?_, fun ys p hp hw np => ?_⟩
  · obtain ⟨i, hi, ex⟩ := List.getElem_of_mem hx
    obtain ⟨z, ez, hz⟩ := dpAll_get hd (List.getElem?_eq_getElem hi)
    rw [ex] at hz
    obtain ⟨t, rfl, ht⟩ := cD_inv hz
    refine ⟨[z.1, z.2], ⟨t, rfl, ht⟩, rfl, fun m hm => ?_⟩
    have := hb z (List.mem_of_getElem? ez)
    simp only [List.mem_cons, List.not_mem_nil, or_false] at hm
    rcases hm with rfl | rfl
    · exact this.1
    · exact this.2
  · obtain ⟨L', q, h'⟩ := dpAll_perm hp hd
    refine h p ys L' q ?_ np (dpAllS (same_upd np) h')
    have hw2 : ys.Pairwise (fun x y => (∀ n m, TupI X.K H x n → TupI X.K H y m → TS.code big n ≤ TS.code big m) ∧ x ∈ ys ∧ y ∈ ys) := by
      rw [List.pairwise_iff_forall_sublist] at *
      intro x y hxy
      exact ⟨hw hxy, hxy.subset (by simp), hxy.subset (by simp)⟩
    have key : ∀ {x : V} {z : Int × Int}, x ∈ ys → Dp X.K H x (cD z) → (0 ≤ z.1 ∧ z.1 < big) ∧ (0 ≤ z.2 ∧ z.2 < big) := by
      intro x z hx hz
      obtain ⟨i, hi, ex⟩ := List.getElem_of_mem ((hp.mem_iff).mp hx)
      obtain ⟨z', ez, hz'⟩ := dpAll_get hd (List.getElem?_eq_getElem hi)
      rw [ex] at hz'
      have : z' = z := by
        obtain ⟨t, e1, h1⟩ := cD_inv hz
        obtain ⟨t', e2, h2⟩ := cD_inv hz'
        rw [e1] at e2
        cases e2
        have := I.tuple_inj h1 h2
        simp only [List.cons.injEq, V.int.injEq, and_true] at this
        exact Prod.ext this.1.symm this.2.symm
      exact this ▸ hb z' (List.mem_of_getElem? ez)
    refine dpAll_pw (fun {x y z w} hx hy hR => ?_) h' hw2
    obtain ⟨hR, mx, my⟩ := hR
    have bz := key mx hx
    have bw := key my hy
    obtain ⟨t, rfl, ht⟩ := cD_inv hx
    obtain ⟨t', rfl, ht'⟩ := cD_inv hy
    have := hR [z.1, z.2] [w.1, w.2] ⟨t, rfl, ht⟩ ⟨t', rfl, ht'⟩
    rw [code2, code2] at this
    unfold leC
    unfold big at *
    omega
end

theorem dpAllX {K : PySem.W.Frag} {p : Addr} {H H' : Hp} {ys : List V} (e : SameX p H H') (hp : H p = some (.lst ys)) : ∀ {ts : List V} {L : List (Int × Int)}, DpAll K H ts (L.map cD) → DpAll K H' ts (L.map cD)
  | _, [], .nil => .nil
  | _, z :: L, .cons h t => by
    obtain ⟨a, rfl, ha⟩ := cD_inv h
    exact .cons (cD_of (xseqT e hp ha)) (dpAllX e hp t)
def kD (z : Int × Int × Int) : PyData := .tuple [.int z.1, .int z.2.1, .int z.2.2]
theorem kD_of {K : PySem.W.Frag} {H : Hp} {a : Addr} {x y z : Int} (h : SqT K H a [.int x, .int y, .int z]) : Dp K H (.ref a) (kD (x, y, z)) := .tup h (.cons (.int x) (.cons (.int y) (.cons (.int z) .nil)))
theorem kD_shaped (z : Int × Int × Int) : SeqAt.shaped (kD z) = true := by
  show (PyData.canLay0 _ && decide (PyData.depth _ ≤ 64)) = true
  simp [kD, PyData.canLay0, PyData.canLayAll0, PyData.depth, PyData.depthAll]
theorem kD_eqv (z w : Int × Int × Int) : PyData.eqv (kD z) (kD w) = decide (z = w) := by
  obtain ⟨a, b, c⟩ := z
  obtain ⟨a', b', c'⟩ := w
  have e : PyData.eqv (kD (a, b, c)) (kD (a', b', c')) = ((a == a') && ((b == b') && ((c == c') && true))) := by simp only [kD, PyData.eqv, PyData.eqvAll]
  rw [e, Bool.and_true, Bool.eq_iff_iff]
  simp
theorem kD_ne (z : Int × Int × Int) : (!PyData.eqv (kD z) (kD z)) = false := by rw [kD_eqv, decide_eq_true rfl]; rfl
theorem hu64 {A : Around} {k : Nat} (hr : Room k A) : A.units + 64 < cLine := by
  have := hr.un
  omega
section
variable {X : Cx}
theorem op_modB : OpR X (binaryOp .Mod) (fun x y H Q => ∃ i j, x = .int i ∧ y = .int j ∧ 0 < j ∧ ∀ r, 0 ≤ r → r < j → Q (.int r) H) := by
  intro pins s σ H x y v u Q I rx ry ⟨i, j, e1, e2, hc, h⟩
  exact op_mod pins s σ H x y v u Q I rx ry ⟨i, j, e1, e2, hc, h _ (Int.emod_nonneg _ (by omega)) (Int.emod_lt_of_pos _ hc)⟩
end

theorem int3 {a b c : Int} {i : Nat} {x : V} (h : [V.int a, V.int b, V.int c][i]? = some x) : ∃ z, x = .int z := by
  have := List.mem_of_getElem? h
  simp only [List.mem_cons, List.not_mem_nil, or_false] at this
  rcases this with rfl | rfl | rfl <;> exact ⟨_, rfl⟩

theorem kD_inv {K : PySem.W.Frag} {H : Hp} {v : V} {z : Int × Int × Int} (h : Dp K H v (kD z)) : ∃ a, v = .ref a ∧ SqT K H a [.int z.1, .int z.2.1, .int z.2.2] := by
  cases h with
  | tup h a =>
    cases a with
    | cons h1 t =>
      cases t with
      | cons h2 t2 =>
        cases t2 with
        | cons h3 t3 =>
          cases t3
          cases h1
          cases h2
          cases h3
          exact ⟨_, rfl, h⟩
theorem kDs_lay : ∀ l : List (Int × Int × Int), PyData.canLayAll0 (l.map kD) = true
  | [] => by simp [PyData.canLayAll0]
  | z :: l => by simp [PyData.canLayAll0, kDs_lay l, kD, PyData.canLay0]
theorem kDs_depth : ∀ l : List (Int × Int × Int), PyData.depthAll (l.map kD) ≤ 2
  | [] => by simp [PyData.depthAll]
  | z :: l => by
    have := kDs_depth l
    simp only [List.map_cons, PyData.depthAll, kD, PyData.depth]
    omega
theorem kDs_shapedL (l : List (Int × Int × Int)) : SeqAt.shaped (.list (l.map kD)) = true := by
  have := kDs_depth l
  show (PyData.canLay0 (.list (l.map kD)) && decide (PyData.depth (.list (l.map kD)) ≤ 64)) = true
  rw [Bool.and_eq_true]
  exact ⟨by simp only [PyData.canLay0]; exact kDs_lay l, decide_eq_true (by simp only [PyData.depth]; omega)⟩
theorem kDs_shapedT (l : List (Int × Int × Int)) : SeqAt.shaped (.tuple (l.map kD)) = true := by
  have := kDs_depth l
  show (PyData.canLay0 (.tuple (l.map kD)) && decide (PyData.depth (.tuple (l.map kD)) ≤ 64)) = true
  rw [Bool.and_eq_true]
  exact ⟨by simp only [PyData.canLay0]; exact kDs_lay l, decide_eq_true (by simp only [PyData.depth]; omega)⟩
theorem kD_any (l : List (Int × Int × Int)) (z : Int × Int × Int) : ((l.map kD).any fun y => PyData.eqv y (kD z)) = decide (z ∈ l) := by
  rw [Bool.eq_iff_iff, List.any_map, List.any_eq_true, decide_eq_true_eq]
  constructor
  · rintro ⟨x, hx, h⟩
    rw [Function.comp, kD_eqv, decide_eq_true_eq] at h
    exact h ▸ hx
  · intro h
    exact ⟨z, h, by rw [Function.comp, kD_eqv, decide_eq_true_eq]⟩
theorem kDs_eqvAll : ∀ l : List (Int × Int × Int), PyData.eqvAll (l.map kD) (l.map kD) = true
  | [] => by simp [PyData.eqvAll]
  | z :: l => by
    simp [PyData.eqvAll, kDs_eqvAll l, kD_eqv]
theorem kDs_eqv (l : List (Int × Int × Int)) : PyData.eqv (.tuple (l.map kD)) (.tuple (l.map kD)) = true := by
  simp only [PyData.eqv, kDs_eqvAll]
theorem dpK_get {K : PySem.W.Frag} {H : Hp} : ∀ {vs : List V} {l : List (Int × Int × Int)} {i : Nat} {x : V}, DpAll K H vs (l.map kD) → vs[i]? = some x → ∃ z, l[i]? = some z ∧ Dp K H x (kD z)
  | _, [], _, _, .nil, h => by simp at h
  | _, z :: l, 0, _, .cons h t, e => by
    simp only [List.getElem?_cons_zero, Option.some.injEq] at e
    subst e
    exact ⟨z, rfl, h⟩
  | _, z :: l, i + 1, _, .cons h t, e => by
    simp only [List.getElem?_cons_succ] at e
    obtain ⟨w, e2, h2⟩ := dpK_get t e
    exact ⟨w, by rw [List.getElem?_cons_succ]; exact e2, h2⟩
theorem dpK_perm {K : PySem.W.Frag} {H : Hp} {ys xs : List V} (p : ys.Perm xs) : ∀ {l : List (Int × Int × Int)}, DpAll K H xs (l.map kD) → ∃ l' : List (Int × Int × Int), l'.Perm l ∧ DpAll K H ys (l'.map kD) := by
  induction p with
  | nil => intro l h; exact ⟨l, .refl _, h⟩
  | cons x p ih =>
    intro l h
    match l, h with
    | z :: l, .cons h t =>
      obtain ⟨l', q, h'⟩ := ih t
      exact ⟨z :: l', q.cons z, .cons h h'⟩
  | swap x y p =>
    intro l h
    match l, h with
    | z :: w :: l, .cons h1 (.cons h2 t) => exact ⟨w :: z :: l, .swap z w l, .cons h2 (.cons h1 t)⟩
  | trans p1 p2 ih1 ih2 =>
    intro l h
    obtain ⟨l1, q1, h1⟩ := ih2 h
    obtain ⟨l2, q2, h2⟩ := ih1 h1
    exact ⟨l2, q2.trans q1, h2⟩
theorem dpK_pw {K : PySem.W.Frag} {H : Hp} {R : V → V → Prop} {S : Int × Int × Int → Int × Int × Int → Prop} :
    ∀ {ys : List V} {l : List (Int × Int × Int)}, (∀ {x y : V} {z w : Int × Int × Int}, z ∈ l → w ∈ l → Dp K H x (kD z) → Dp K H y (kD w) → R x y → S z w) → DpAll K H ys (l.map kD) → ys.Pairwise R → l.Pairwise S
  | _, [], _, .nil, _ => .nil
  | _, z :: l, hRS, .cons h t, p => by
    have p' := List.pairwise_cons.mp p
    refine List.pairwise_cons.mpr ⟨fun w hw => ?_, dpK_pw (fun hz hw => hRS (List.mem_cons_of_mem _ hz) (List.mem_cons_of_mem _ hw)) t p'.2⟩
    obtain ⟨i, hi, e⟩ := List.getElem_of_mem hw
    have hl := dpAll_len t
    rw [List.length_map] at hl
    have hi' : i < _ := hl ▸ hi
    obtain ⟨w', e', h'⟩ := dpK_get t (List.getElem?_eq_getElem hi')
    rw [List.getElem?_eq_getElem hi, e] at e'
    cases e'
    exact hRS (List.mem_cons_self ..) (List.mem_cons_of_mem _ hw) h h' (p'.1 _ (List.getElem_mem _))
theorem kRead_tup {K : PySem.W.Frag} {n : Nat} {a : Addr} {ds : List PyData} (h : kRead K n (.ref a) = some (.tuple ds)) : ∃ xs, (∀ H, SqT K H a xs) ∧ ∀ H, DpAll K H xs ds := by
  cases n with
  | zero => cases h
  | succ n =>
    unfold kRead at h
    split at h
    · rename_i o ho
      split at h
      · rename_i c its m hc hd
        split at h
        · rename_i hz
          obtain ⟨hz1, hz2⟩ := hz
          subst hz1
          cases e : its.toList.mapM (kRead K n) with
          | none => rw [e] at h; cases h
          | some ds2 =>
            rw [e] at h
            cases h
            obtain ⟨xs, rs, ps⟩ := kRead_list (kRead_ok n) _ _ e
            exact ⟨xs, fun H => .inr ⟨o, its, m, ho, hc, hd, hz2, rs⟩, ps⟩
        · cases h
      · cases h
    · cases h
def kindsD : List PyData := [(0, 0, 0), (0, 0, 1), (0, 0, 2), (0, 0, 3), (0, 1, 0), (0, 1, 1), (0, 1, 2), (0, 1, 3), (0, 2, 0), (0, 2, 1), (0, 2, 2), (0, 2, 3), (1, 0, 0), (1, 0, 1), (1, 0, 2), (1, 0, 3), (1, 1, 0), (1, 1, 1), (1, 1, 2), (1, 1, 3), (1, 2, 0), (1, 2, 1), (1, 2, 2), (1, 2, 3)].map fun (z : Int × Int × Int) => .tuple [.int z.1, .int z.2.1, .int z.2.2]
theorem kinds_in {a b c : Int} (h : 0 ≤ a ∧ a ≤ 1 ∧ 0 ≤ b ∧ b ≤ 2 ∧ 0 ≤ c ∧ c ≤ 3) : (kindsD.any fun z => PyData.eqv z (.tuple [.int a, .int b, .int c])) = true := by
  obtain ⟨a0, a1, b0, b2, c0, c3⟩ := h
  have ha : a = 0 ∨ a = 1 := by omega
  have hb : b = 0 ∨ b = 1 ∨ b = 2 := by omega
  have hc : c = 0 ∨ c = 1 ∨ c = 2 ∨ c = 3 := by omega
  rcases ha with rfl | rfl <;> rcases hb with rfl | rfl | rfl <;> rcases hc with rfl | rfl | rfl | rfl <;> decide +kernel
theorem kinds_shaped : SeqAt.shaped (.tuple kindsD) = true := by decide +kernel
theorem tri_shaped (a b c : Int) : SeqAt.shaped (.tuple [.int a, .int b, .int c]) = true := by
  show (PyData.canLay0 _ && decide (PyData.depth _ ≤ 64)) = true
  simp [PyData.canLay0, PyData.canLayAll0, PyData.depth, PyData.depthAll]
structure Blt (mg : Str → Option Value) : Prop where
  len : mg "len" = none
  isinstance : mg "isinstance" = none
  abs : mg "abs" = none
  min : mg "min" = none
  max : mg "max" = none
  all : mg "all" = none
  sum : mg "sum" = none
  sorted : mg "sorted" = none
  divmod : mg "divmod" = none
  int : mg "int" = none
  bool : mg "bool" = none
  tuple : mg "tuple" = none
  range : mg "range" = none
structure Glb (K : PySem.W.Frag) (mg : Str → Option Value) : Prop where
  MOST_SIZE : ∃ t, mg "MOST_SIZE" = some (.int (10 ^ 30) t)
  KINDS : ∃ a, mg "KINDS" = some (.ref a) ∧ ∀ H, Dp K H (.ref a) (.tuple kindsD)
def topS (i : Nat) : Stmt := PySem.Challenge.pw_squareloops_k27_cells_counted.main.body.getD i (.Pass ⟨0, 0, 0, 0⟩)
abbrev s_is_integer : Stmt := topS 6
abbrev s_within : Stmt := topS 7
abbrev s_check_size : Stmt := topS 8
abbrev s_is_kind : Stmt := topS 11
abbrev s_pair_count : Stmt := topS 12
abbrev s_pair_sum : Stmt := topS 13
abbrev s_orbit_size : Stmt := topS 14
abbrev s_kind_count : Stmt := topS 15
abbrev s_cell_count : Stmt := topS 16
abbrev s_law_purl : Stmt := topS 18
abbrev s_law_dig : Stmt := topS 19
abbrev s_law_far : Stmt := topS 20
abbrev s_law_whole : Stmt := topS 21
abbrev s_law_sort : Stmt := topS 22
abbrev s_law_all : Stmt := topS 23
abbrev s_law_right : Stmt := topS 24
abbrev s_law : Stmt := topS 25
section
variable {P : Program} {w : World} {K : PySem.W.Frag} {mg : Str → Option Value} {base : Heap}
theorem sc_is_integer : FnScope ["value"] ["value"] (defScope s_is_integer) := ⟨rfl, rfl, rfl, by decide +kernel, rfl, by decide +kernel, by decide +kernel⟩
abbrev sc_is_integerN : List Str := ["value"]
def sp_is_integer (K : PySem.W.Frag) : Sp := fun vs H Q _ => ∃ v t, vs = [v] ∧ TyX K H v (.type t) ∧ t ∈ tyNames ∧ Q (.bl (decide (t = "int"))) H
theorem ok_is_integer (B : Blt mg) (G : Glb K mg) (D : DefAt K mg "is_integer" s_is_integer ["value"]) : DefOk P w K mg base 1 "is_integer" ["value"] (sp_is_integer K) := by
  refine def_ok D sc_is_integer (fun vs H Q E h => ?_) (fun f cdv A outer s H vs Q E hr h => ?_)
  · obtain ⟨_, _, rfl, _⟩ := h
    rfl
  · obtain ⟨v, t, rfl, ht, hm, q⟩ := h
    refine ⟨_, (pss_one (ps_ret (pe_and (pe_callB call_isi (by rfl) B.isinstance bt_isinstance (pa_cons (pv 0) (pa_cons (pe_bltn (v := .ty "int") (by rfl) B.int bt_int rfl) pa_nil))) (pe_one (pe_not (pe_callB call_isi (by rfl) B.isinstance bt_isinstance (pa_cons (pv 0) (pa_cons (pe_bltn (v := .ty "bool") (by rfl) B.bool bt_bool rfl) pa_nil)))))))), ?_⟩
    refine ⟨_, rfl, _, _, _, _, _, rfl, .ty _, ht, kI hm, _, rfl, ?_⟩
    refine ite2 (fun e1 => ?_) (fun e1 => ?_)
    · try simp only [decide_eq_true_eq, Bool.not_eq_true', decide_eq_false_iff_not, Bool.not_eq_false', Bool.not_eq_true, Decidable.not_not, V.int.injEq, V.bl.injEq, V.str.injEq] at e1
      refine ⟨_, rfl, _, _, _, _, _, rfl, .ty _, ht, kB hm, _, rfl, ?_⟩
      have e : (!decide (t = "bool")) = decide (t = "int") := by
        rcases e1 with rfl | rfl <;> rfl
      rw [e]
      exact q
    · try simp only [decide_eq_true_eq, Bool.not_eq_true', decide_eq_false_iff_not, Bool.not_eq_false', Bool.not_eq_true, Decidable.not_not, V.int.injEq, V.bl.injEq, V.str.injEq] at e1
      have e : decide (t = "int") = false := decide_eq_false (fun z => e1 (.inl z))
      rw [e] at q
      exact q

theorem sc_within : FnScope ["value", "least", "most"] ["value", "least", "most"] (defScope s_within) := ⟨rfl, rfl, rfl, by decide +kernel, rfl, by decide +kernel, by decide +kernel⟩
abbrev sc_withinN : List Str := ["value", "least", "most"]
def wthn : V → Int → Int → Bool
  | .int i, lo, hi => decide (lo ≤ i ∧ i ≤ hi)
  | _, _, _ => false
theorem wthn_not {K : PySem.W.Frag} {H : Hp} {v : V} {t : String} {lo hi : Int} (h : TyX K H v (.type t)) (n : t ≠ "int") : wthn v lo hi = false := by
  cases v <;> first | rfl | skip
  cases h with
  | base h => cases h; exact absurd rfl n
theorem int_of {K : PySem.W.Frag} {H : Hp} {v : V} (h : TyX K H v (.type "int")) : ∃ i, v = .int i := by
  generalize e : Value.type "int" = z at h
  cases h with
  | base h => cases h <;> first | (exact ⟨_, rfl⟩) | (simp at e)
  | _ => simp at e
def sp_within (K : PySem.W.Frag) : Sp := fun vs H Q _ => ∃ v t lo hi, vs = [v, .int lo, .int hi] ∧ TyX K H v (.type t) ∧ t ∈ tyNames ∧ Q (.bl (wthn v lo hi)) H
theorem ok_within (B : Blt mg) (G : Glb K mg) (D : DefAt K mg "within" s_within ["value", "least", "most"]) (d_is_integer : DefOk P w K mg base 1 "is_integer" ["value"] (sp_is_integer K)) : DefOk P w K mg base 2 "within" ["value", "least", "most"] (sp_within K) := by
  refine def_ok D sc_within (fun vs H Q E h => ?_) (fun f cdv A outer s H vs Q E hr h => ?_)
  · obtain ⟨_, _, _, _, rfl, _⟩ := h
    rfl
  · obtain ⟨v, t, lo, hi, rfl, ht, hm, q⟩ := h
    refine ⟨_, (pss_one (ps_ret (pe_and (pe_callD d_is_integer (hr.mono (by decide)) (by rfl) (pa_cons (pv 0) pa_nil)) (pe_one (pe_chain op_le op_le (pv 1) (pv 0) (pv 2)))))), ?_⟩
    refine ⟨_, rfl, _, _, rfl, ht, hm, _, rfl, ?_⟩
    refine ite2 (fun e => ?_) (fun e => ?_)
    · have e := of_decide_eq_true e
      subst e
      obtain ⟨i, rfl⟩ := int_of ht
      refine ⟨_, rfl, _, rfl, _, _, rfl, rfl, _, rfl, ?_⟩
      refine ite2 (fun e1 => ?_) (fun e1 => ?_)
      · have e1 := of_decide_eq_true e1
        refine ⟨_, rfl, _, _, rfl, rfl, ?_⟩
        refine qb q ?_
        show _ = decide (lo ≤ i ∧ i ≤ hi)
        by_cases h2 : i ≤ hi
        · rw [decide_eq_true h2, decide_eq_true ⟨e1, h2⟩]
        · rw [decide_eq_false h2, decide_eq_false (fun z => h2 z.2)]
      · have e1 : ¬ lo ≤ i := fun z => e1 (decide_eq_true z)
        have z : wthn (.int i) lo hi = false := decide_eq_false (fun z => e1 z.1)
        rw [z] at q
        exact q
    · rw [wthn_not ht (fun z => e (decide_eq_true z))] at q
      exact q

theorem sc_check_size : FnScope ["value"] ["value"] (defScope s_check_size) := ⟨rfl, rfl, rfl, by decide +kernel, rfl, by decide +kernel, by decide +kernel⟩
abbrev sc_check_sizeN : List Str := ["value"]
def sp_check_size : Sp := fun vs H Q _ => ∃ n, vs = [.int n] ∧ 1 ≤ n ∧ n ≤ 10 ^ 30 ∧ Q .non H
theorem ok_check_size (B : Blt mg) (G : Glb K mg) (D : DefAt K mg "check_size" s_check_size ["value"]) (d_within : DefOk P w K mg base 2 "within" ["value", "least", "most"] (sp_within K)) : DefOk P w K mg base 3 "check_size" ["value"] sp_check_size := by
  refine def_ok D sc_check_size (fun vs H Q E h => ?_) (fun f cdv A outer s H vs Q E hr h => ?_)
  · obtain ⟨_, rfl, _⟩ := h
    rfl
  · obtain ⟨n, rfl, h1, h2, q⟩ := h
    obtain ⟨tM, gM⟩ := G.MOST_SIZE
    refine ⟨_, (pss_one (ps_if (pt_not (pt_val (pe_callD d_within (hr.mono (by decide)) (by rfl) (pa_cons (pv 0) (pa_cons pe_int (pa_cons (pe_glob (v := .int (10 ^ 30)) (by rfl) gM ⟨_, rfl⟩) pa_nil)))))) (pss_one ps_never) pss_nil)), ?_⟩
    refine ⟨_, rfl, _, _, _, _, rfl, ty_int _, by decide, ?_⟩
    refine ⟨_, rfl, ?_⟩
    refine iteF' ((by show (!decide _) = false; rw [decide_eq_true ⟨h1, h2⟩]; rfl)) ?_
    exact q

theorem sc_is_kind : FnScope ["value", "part"] ["value"] (defScope s_is_kind) := ⟨rfl, rfl, rfl, by decide +kernel, rfl, by decide +kernel, by decide +kernel⟩
abbrev sc_is_kindN : List Str := ["value", "part"]
def sp_is_kind (K : PySem.W.Frag) : Sp := fun vs H Q _ => ∃ p a b c, vs = [.ref p] ∧ SqT K H p [.int a, .int b, .int c] ∧ (0 ≤ a ∧ a ≤ 1 ∧ 0 ≤ b ∧ b ≤ 2 ∧ 0 ≤ c ∧ c ≤ 3) ∧ ∀ H', Same H H' → Q (.bl true) H'
theorem ok_is_kind (B : Blt mg) (G : Glb K mg) (D : DefAt K mg "is_kind" s_is_kind ["value"]) (d_is_integer : DefOk P w K mg base 1 "is_integer" ["value"] (sp_is_integer K)) : DefOk P w K mg base 2 "is_kind" ["value"] (sp_is_kind K) := by
  refine def_ok D sc_is_kind (fun vs H Q E h => ?_) (fun f cdv A outer s H vs Q E hr h => ?_)
  · obtain ⟨_, _, _, _, rfl, _⟩ := h
    rfl
  · obtain ⟨p, a, b, c, rfl, hk, hb, q⟩ := h
    obtain ⟨aK, gK, hK⟩ := G.KINDS
    refine ⟨_, (pss_cons (ps_if (PW.pt (pw_or (pt_not (pt_val (pe_callB call_isi (by rfl) B.isinstance bt_isinstance (pa_cons (pv 0) (pa_cons (pe_bltn (v := .ty "tuple") (by rfl) B.tuple bt_tuple rfl) pa_nil))))) (pw_or1 (pt_cmpR op_ne (pe_callB call_len_seq (by rfl) B.len bt_len (pa_cons (pv 0) pa_nil)) pe_int (nomark _))))) (pss_one (ps_ret pe_bl)) pss_nil)
      (pss_one (ps_ret (pe_and (pe_callB (cr_all rfl) (by rfl) B.all bt_all (pa_cons (pe_lc (own := [("part", 1)]) (g := gName 1) (tt := tYes) rfl sc_is_kind.nd (pi_tup (pv 0)) (blkOk_by (N := sc_is_kindN) (sc := defScope s_is_kind) (by decide +kernel)) (fun _ _ _ _ _ => (pg_name (i := 1) sc_is_kind.nd rfl (.inl rfl))) (fun _ _ _ _ _ => pts_nil) (fun _ _ _ _ _ => (pe_callD d_is_integer (hr.mono (by decide)) (by rfl) (pa_cons (pv 1) pa_nil)))) pa_nil)) (pe_one (pe_cmpR (op_inDT (hu65 hr)) (pv 0) (pe_glob (v := .ref aK) (by rfl) gK rfl) (by rfl))))))), ?_⟩
    refine ⟨_, rfl, _, _, _, _, _, rfl, .ty _, ty_tup hk, kit_ty (r := true) (by decide +kernel), _, rfl, ?_⟩
    refine iteF' rfl ?_
    refine ⟨_, rfl, _, _, rfl, .inr hk, rfl, _, rfl, ?_⟩
    refine iteF' rfl ?_
    refine ⟨_, rfl, p, rfl, ⟨_, hk⟩, fun D nD => ?_⟩
    refine lc_tup (xs := [.int a, .int b, .int c]) (fun i H' => Same H H' ∧ H' D = some (.lst (List.replicate i (V.bl true)))) ⟨same_upd nD, upd_same⟩ (fun i H' _ h => seqT h.1 hk) (fun i x H' hx h => ?_) (fun H' h => ?_)
    · have hx : ∃ i, x = .int i := by
        have := List.mem_of_getElem? hx
        simp only [List.mem_cons, List.not_mem_nil, or_false] at this
        rcases this with rfl | rfl | rfl <;> exact ⟨_, rfl⟩
      obtain ⟨z, rfl⟩ := hx
      have hi : i < 3 := (List.getElem?_eq_some_iff.mp hx).1
      refine ⟨rfl, _, rfl, _, _, rfl, ty_int _, by decide, _, h.2, by rw [List.length_replicate]; exact small1000 (by omega), ?_, ?_⟩
      · intro b o e
        rw [upd_ne (ne_of_none e nD)]
        exact h.1 _ _ e
      · rw [upd_same, List.replicate_succ']
        rfl
    · refine ⟨D, [true, true, true], rfl, .inl (.inl h.2), true, rfl, ?_⟩
      refine iteT' rfl ?_
      refine ⟨_, rfl, _, _, .tup (seqT h.1 hk) (.cons (.int a) (.cons (.int b) (.cons (.int c) .nil))), hK H', tri_shaped a b c, kinds_shaped, ?_⟩
      rw [kinds_in hb]
      exact q _ h.1

theorem sc_pair_count : FnScope ["total", "kind"] ["total", "kind"] (defScope s_pair_count) := ⟨rfl, rfl, rfl, by decide +kernel, rfl, by decide +kernel, by decide +kernel⟩
abbrev sc_pair_countN : List Str := ["total", "kind"]

def pairCount (t a b : Int) : Int :=
  if a = 0 then (if (if 2 < t then 2 else t) = b then 1 else 0) else if b < 2 then (if b < t then 1 else 0) else (if 0 < t - 2 then t - 2 else 0)
def pairSum (m a b : Int) : Int :=
  if m < 0 then 0 else if a = 0 then (if b < 2 then (if b ≤ m then 1 else 0) else (if 0 < m - 1 then m - 1 else 0))
  else if b < 2 then (if 0 < m - b then m - b else 0) else if 2 < m then (m - 2) * (m - 1) / 2 else 0
def orbitSize (b c : Int) : Int := if b = 0 ∧ c = 0 then 1 else if b = 0 ∨ c = 0 then 4 else 8
def kindCount (n a b c : Int) : Int :=
  if c = 3 then orbitSize b c * pairSum ((n - 1 - c) / 2) a b else if n - 1 - c < 0 ∨ (n - 1 - c) % 2 = 1 then 0 else orbitSize b c * pairCount ((n - 1 - c) / 2) a b
theorem orbitSize_le (b c : Int) : 1 ≤ orbitSize b c ∧ orbitSize b c ≤ 8 := by
  unfold orbitSize
  split
  · omega
  · split <;> omega
def sp_pair_count (K : PySem.W.Frag) : Sp := fun vs H Q _ => ∃ t p a b c, vs = [.int t, .ref p] ∧ SqT K H p [.int a, .int b, .int c] ∧ Q (.int (pairCount t a b)) H
theorem ok_pair_count (B : Blt mg) (G : Glb K mg) (D : DefAt K mg "pair_count" s_pair_count ["total", "kind"]) : DefOk P w K mg base 1 "pair_count" ["total", "kind"] (sp_pair_count K) := by
  refine def_ok D sc_pair_count (fun vs H Q E h => ?_) (fun f cdv A outer s H vs Q E hr h => ?_)
  · obtain ⟨_, _, _, _, _, rfl, _⟩ := h
    rfl
  · obtain ⟨t, p, a, b, c, rfl, hk, q⟩ := h
    refine ⟨_, (pss_cons (ps_if (pt_cmpR op_eq (pe_ix ix_tup (pv 1) pe_int (fun _ _ => rfl)) pe_int (nomark _)) (pss_one (ps_ret (pe_ifExp (pt_cmpR op_eq (pe_callB (call_min2 rfl) (by rfl) B.min bt_min (pa_cons (pv 0) (pa_cons pe_int pa_nil))) (pe_ix ix_tup (pv 1) pe_int (fun _ _ => rfl)) (nomark _)) pe_int pe_int))) pss_nil)
      (pss_cons (ps_if (pt_cmpR op_lt (pe_ix ix_tup (pv 1) pe_int (fun _ _ => rfl)) pe_int (nomark _)) (pss_one (ps_ret (pe_ifExp (pt_cmpR op_gt (pv 0) (pe_ix ix_tup (pv 1) pe_int (fun _ _ => rfl)) (nomark _)) pe_int pe_int))) pss_nil)
      (pss_one (ps_ret (pe_callB (call_max2 rfl) (by rfl) B.max bt_max (pa_cons pe_int (pa_cons (pe_op op_sub (pv 0) pe_int) pa_nil))))))), ?_⟩
    refine ⟨_, rfl, _, _, _, _, rfl, rfl, hk, rfl, rfl, _, rfl, ?_⟩
    refine ite2 (fun e1 => ?_) (fun e1 => ?_)
    · try simp only [decide_eq_true_eq, Bool.not_eq_true', decide_eq_false_iff_not, Bool.not_eq_false', Bool.not_eq_true, Decidable.not_not, V.int.injEq, V.bl.injEq, V.str.injEq] at e1
      refine ⟨_, rfl, _, _, rfl, _, rfl, _, _, _, _, rfl, rfl, hk, rfl, rfl, _, rfl, ?_⟩
      refine ite2 (fun e2 => ?_) (fun e2 => ?_)
      · try simp only [decide_eq_true_eq, Bool.not_eq_true', decide_eq_false_iff_not, Bool.not_eq_false', Bool.not_eq_true, Decidable.not_not, V.int.injEq, V.bl.injEq, V.str.injEq] at e2
        refine qi q ?_
        unfold pairCount
        (repeat' split) <;> first | rfl | omega | (exfalso; omega)
      · try simp only [decide_eq_true_eq, Bool.not_eq_true', decide_eq_false_iff_not, Bool.not_eq_false', Bool.not_eq_true, Decidable.not_not, V.int.injEq, V.bl.injEq, V.str.injEq] at e2
        refine qi q ?_
        unfold pairCount
        (repeat' split) <;> first | rfl | omega | (exfalso; omega)
    · try simp only [decide_eq_true_eq, Bool.not_eq_true', decide_eq_false_iff_not, Bool.not_eq_false', Bool.not_eq_true, Decidable.not_not, V.int.injEq, V.bl.injEq, V.str.injEq] at e1
      refine ⟨_, rfl, _, _, _, _, rfl, rfl, hk, rfl, _, _, rfl, rfl, _, rfl, ?_⟩
      refine ite2 (fun e3 => ?_) (fun e3 => ?_)
      · try simp only [decide_eq_true_eq, Bool.not_eq_true', decide_eq_false_iff_not, Bool.not_eq_false', Bool.not_eq_true, Decidable.not_not, V.int.injEq, V.bl.injEq, V.str.injEq] at e3
        refine ⟨_, rfl, _, rfl, _, _, _, _, rfl, rfl, hk, rfl, _, _, rfl, rfl, _, rfl, ?_⟩
        refine ite2 (fun e4 => ?_) (fun e4 => ?_)
        · try simp only [decide_eq_true_eq, Bool.not_eq_true', decide_eq_false_iff_not, Bool.not_eq_false', Bool.not_eq_true, Decidable.not_not, V.int.injEq, V.bl.injEq, V.str.injEq] at e4
          refine qi q ?_
          unfold pairCount
          (repeat' split) <;> first | rfl | omega | (exfalso; omega)
        · try simp only [decide_eq_true_eq, Bool.not_eq_true', decide_eq_false_iff_not, Bool.not_eq_false', Bool.not_eq_true, Decidable.not_not, V.int.injEq, V.bl.injEq, V.str.injEq] at e4
          refine qi q ?_
          unfold pairCount
          (repeat' split) <;> first | rfl | omega | (exfalso; omega)
      · try simp only [decide_eq_true_eq, Bool.not_eq_true', decide_eq_false_iff_not, Bool.not_eq_false', Bool.not_eq_true, Decidable.not_not, V.int.injEq, V.bl.injEq, V.str.injEq] at e3
        refine ⟨_, rfl, _, _, rfl, rfl, _, _, rfl, ?_⟩
        refine qi q ?_
        unfold pairCount
        (repeat' split) <;> first | rfl | omega | (exfalso; omega)

theorem sc_pair_sum : FnScope ["most", "kind"] ["most", "kind"] (defScope s_pair_sum) := ⟨rfl, rfl, rfl, by decide +kernel, rfl, by decide +kernel, by decide +kernel⟩
abbrev sc_pair_sumN : List Str := ["most", "kind"]
def sp_pair_sum (K : PySem.W.Frag) : Sp := fun vs H Q _ => ∃ t p a b c, vs = [.int t, .ref p] ∧ SqT K H p [.int a, .int b, .int c] ∧ t < 10 ^ 30 ∧ Q (.int (pairSum t a b)) H
theorem ok_pair_sum (B : Blt mg) (G : Glb K mg) (D : DefAt K mg "pair_sum" s_pair_sum ["most", "kind"]) : DefOk P w K mg base 1 "pair_sum" ["most", "kind"] (sp_pair_sum K) := by
  refine def_ok D sc_pair_sum (fun vs H Q E h => ?_) (fun f cdv A outer s H vs Q E hr h => ?_)
  · obtain ⟨_, _, _, _, _, rfl, _⟩ := h
    rfl
  · obtain ⟨t, p, a, b, c, rfl, hk, ht, q⟩ := h
    refine ⟨_, (pss_cons (ps_if (pt_cmpR op_lt (pv 0) pe_int (nomark _)) (pss_one (ps_ret pe_int)) pss_nil)
      (pss_cons (ps_if (pt_cmpR op_eq (pe_ix ix_tup (pv 1) pe_int (fun _ _ => rfl)) pe_int (nomark _)) (pss_cons (ps_if (pt_cmpR op_lt (pe_ix ix_tup (pv 1) pe_int (fun _ _ => rfl)) pe_int (nomark _)) (pss_one (ps_ret (pe_ifExp (pt_cmpR op_ge (pv 0) (pe_ix ix_tup (pv 1) pe_int (fun _ _ => rfl)) (nomark _)) pe_int pe_int))) pss_nil)
      (pss_one (ps_ret (pe_callB (call_max2 rfl) (by rfl) B.max bt_max (pa_cons pe_int (pa_cons (pe_op op_sub (pv 0) pe_int) pa_nil)))))) pss_nil)
      (pss_cons (ps_if (pt_cmpR op_lt (pe_ix ix_tup (pv 1) pe_int (fun _ _ => rfl)) pe_int (nomark _)) (pss_one (ps_ret (pe_callB (call_max2 rfl) (by rfl) B.max bt_max (pa_cons pe_int (pa_cons (pe_op op_sub (pv 0) (pe_ix ix_tup (pv 1) pe_int (fun _ _ => rfl))) pa_nil))))) pss_nil)
      (pss_one (ps_ret (pe_ifExp (pt_cmpR op_gt (pv 0) pe_int (nomark _)) (pe_op op_fdiv (pe_op op_mulW (pe_op op_sub (pv 0) pe_int) (pe_op op_sub (pv 0) pe_int)) pe_int) pe_int)))))), ?_⟩
    refine ⟨_, rfl, _, _, rfl, rfl, _, rfl, ?_⟩
    refine ite2 (fun e1 => ?_) (fun e1 => ?_)
    · try simp only [decide_eq_true_eq, Bool.not_eq_true', decide_eq_false_iff_not, Bool.not_eq_false', Bool.not_eq_true, Decidable.not_not, V.int.injEq, V.bl.injEq, V.str.injEq] at e1
      refine qi q ?_
      unfold pairSum
      (repeat' split) <;> first | rfl | omega | (exfalso; omega)
    · try simp only [decide_eq_true_eq, Bool.not_eq_true', decide_eq_false_iff_not, Bool.not_eq_false', Bool.not_eq_true, Decidable.not_not, V.int.injEq, V.bl.injEq, V.str.injEq] at e1
      refine ⟨_, rfl, _, _, _, _, rfl, rfl, hk, rfl, rfl, _, rfl, ?_⟩
      refine ite2 (fun e2 => ?_) (fun e2 => ?_)
      · try simp only [decide_eq_true_eq, Bool.not_eq_true', decide_eq_false_iff_not, Bool.not_eq_false', Bool.not_eq_true, Decidable.not_not, V.int.injEq, V.bl.injEq, V.str.injEq] at e2
        refine ⟨_, rfl, _, _, _, _, rfl, rfl, hk, rfl, _, _, rfl, rfl, _, rfl, ?_⟩
        refine ite2 (fun e3 => ?_) (fun e3 => ?_)
        · try simp only [decide_eq_true_eq, Bool.not_eq_true', decide_eq_false_iff_not, Bool.not_eq_false', Bool.not_eq_true, Decidable.not_not, V.int.injEq, V.bl.injEq, V.str.injEq] at e3
          refine ⟨_, rfl, _, rfl, _, _, _, _, rfl, rfl, hk, rfl, _, _, rfl, rfl, _, rfl, ?_⟩
          refine ite2 (fun e4 => ?_) (fun e4 => ?_)
          · try simp only [decide_eq_true_eq, Bool.not_eq_true', decide_eq_false_iff_not, Bool.not_eq_false', Bool.not_eq_true, Decidable.not_not, V.int.injEq, V.bl.injEq, V.str.injEq] at e4
            refine qi q ?_
            unfold pairSum
            (repeat' split) <;> first | rfl | omega | (exfalso; omega)
          · try simp only [decide_eq_true_eq, Bool.not_eq_true', decide_eq_false_iff_not, Bool.not_eq_false', Bool.not_eq_true, Decidable.not_not, V.int.injEq, V.bl.injEq, V.str.injEq] at e4
            refine qi q ?_
            unfold pairSum
            (repeat' split) <;> first | rfl | omega | (exfalso; omega)
        · try simp only [decide_eq_true_eq, Bool.not_eq_true', decide_eq_false_iff_not, Bool.not_eq_false', Bool.not_eq_true, Decidable.not_not, V.int.injEq, V.bl.injEq, V.str.injEq] at e3
          refine ⟨_, rfl, _, _, rfl, rfl, _, _, rfl, ?_⟩
          refine qi q ?_
          unfold pairSum
          (repeat' split) <;> first | rfl | omega | (exfalso; omega)
      · try simp only [decide_eq_true_eq, Bool.not_eq_true', decide_eq_false_iff_not, Bool.not_eq_false', Bool.not_eq_true, Decidable.not_not, V.int.injEq, V.bl.injEq, V.str.injEq] at e2
        refine ⟨_, rfl, _, _, _, _, rfl, rfl, hk, rfl, _, _, rfl, rfl, _, rfl, ?_⟩
        refine ite2 (fun e5 => ?_) (fun e5 => ?_)
        · try simp only [decide_eq_true_eq, Bool.not_eq_true', decide_eq_false_iff_not, Bool.not_eq_false', Bool.not_eq_true, Decidable.not_not, V.int.injEq, V.bl.injEq, V.str.injEq] at e5
          refine ⟨_, rfl, _, rfl, _, _, _, _, rfl, rfl, hk, rfl, _, _, rfl, rfl, _, _, rfl, ?_⟩
          refine qi q ?_
          unfold pairSum
          (repeat' split) <;> first | rfl | omega | (exfalso; omega)
        · try simp only [decide_eq_true_eq, Bool.not_eq_true', decide_eq_false_iff_not, Bool.not_eq_false', Bool.not_eq_true, Decidable.not_not, V.int.injEq, V.bl.injEq, V.str.injEq] at e5
          refine ⟨_, rfl, _, _, rfl, rfl, _, rfl, ?_⟩
          refine ite2 (fun e6 => ?_) (fun e6 => ?_)
          · try simp only [decide_eq_true_eq, Bool.not_eq_true', decide_eq_false_iff_not, Bool.not_eq_false', Bool.not_eq_true, Decidable.not_not, V.int.injEq, V.bl.injEq, V.str.injEq] at e6
            refine ⟨_, rfl, _, _, rfl, rfl, _, rfl, _, _, rfl, rfl, _, _, rfl, rfl, (wide_mul (a := 100) (b := 100) (by walk_at "ob") (by walk_at "ob") (by decide) (by decide) (by decide)), _, _, rfl, rfl, (by walk_at "ob"), ?_⟩
            refine qi q ?_
            unfold pairSum
            (repeat' split) <;> first | rfl | omega | (exfalso; omega)
          · try simp only [decide_eq_true_eq, Bool.not_eq_true', decide_eq_false_iff_not, Bool.not_eq_false', Bool.not_eq_true, Decidable.not_not, V.int.injEq, V.bl.injEq, V.str.injEq] at e6
            refine qi q ?_
            unfold pairSum
            (repeat' split) <;> first | rfl | omega | (exfalso; omega)

theorem sc_orbit_size : FnScope ["kind"] ["kind"] (defScope s_orbit_size) := ⟨rfl, rfl, rfl, by decide +kernel, rfl, by decide +kernel, by decide +kernel⟩
abbrev sc_orbit_sizeN : List Str := ["kind"]
def sp_orbit_size (K : PySem.W.Frag) : Sp := fun vs H Q _ => ∃ p a b c, vs = [.ref p] ∧ SqT K H p [.int a, .int b, .int c] ∧ Q (.int (orbitSize b c)) H
theorem ok_orbit_size (B : Blt mg) (G : Glb K mg) (D : DefAt K mg "orbit_size" s_orbit_size ["kind"]) : DefOk P w K mg base 1 "orbit_size" ["kind"] (sp_orbit_size K) := by
  refine def_ok D sc_orbit_size (fun vs H Q E h => ?_) (fun f cdv A outer s H vs Q E hr h => ?_)
  · obtain ⟨_, _, _, _, rfl, _⟩ := h
    rfl
  · obtain ⟨p, a, b, c, rfl, hk, q⟩ := h
    refine ⟨_, (pss_cons (ps_if (PW.pt (pw_and (pt_cmpR op_eq (pe_ix ix_tup (pv 0) pe_int (fun _ _ => rfl)) pe_int (nomark _)) (pw_and1 (pt_cmpR op_eq (pe_ix ix_tup (pv 0) pe_int (fun _ _ => rfl)) pe_int (nomark _))))) (pss_one (ps_ret pe_int)) pss_nil)
      (pss_one (ps_ret (pe_ifExp (PW.pt (pw_or (pt_cmpR op_eq (pe_ix ix_tup (pv 0) pe_int (fun _ _ => rfl)) pe_int (nomark _)) (pw_or1 (pt_cmpR op_eq (pe_ix ix_tup (pv 0) pe_int (fun _ _ => rfl)) pe_int (nomark _))))) pe_int pe_int)))), ?_⟩
    refine ⟨_, rfl, _, _, _, _, rfl, rfl, hk, rfl, rfl, _, rfl, ?_⟩
    refine ite2 (fun e1 => ?_) (fun e1 => ?_)
    · try simp only [decide_eq_true_eq, Bool.not_eq_true', decide_eq_false_iff_not, Bool.not_eq_false', Bool.not_eq_true, Decidable.not_not, V.int.injEq, V.bl.injEq, V.str.injEq] at e1
      refine ⟨_, rfl, _, _, _, _, rfl, rfl, hk, rfl, rfl, _, rfl, ?_⟩
      refine ite2 (fun e2 => ?_) (fun e2 => ?_)
      · try simp only [decide_eq_true_eq, Bool.not_eq_true', decide_eq_false_iff_not, Bool.not_eq_false', Bool.not_eq_true, Decidable.not_not, V.int.injEq, V.bl.injEq, V.str.injEq] at e2
        refine qi q ?_
        unfold orbitSize
        (repeat' split) <;> first | rfl | omega | (exfalso; omega)
      · try simp only [decide_eq_true_eq, Bool.not_eq_true', decide_eq_false_iff_not, Bool.not_eq_false', Bool.not_eq_true, Decidable.not_not, V.int.injEq, V.bl.injEq, V.str.injEq] at e2
        refine ⟨_, rfl, _, _, _, _, rfl, rfl, hk, rfl, rfl, _, rfl, ?_⟩
        refine ite2 (fun e3 => ?_) (fun e3 => ?_)
        · try simp only [decide_eq_true_eq, Bool.not_eq_true', decide_eq_false_iff_not, Bool.not_eq_false', Bool.not_eq_true, Decidable.not_not, V.int.injEq, V.bl.injEq, V.str.injEq] at e3
          refine iteT' rfl ?_
          refine qi q ?_
          unfold orbitSize
          (repeat' split) <;> first | rfl | omega | (exfalso; omega)
        · try simp only [decide_eq_true_eq, Bool.not_eq_true', decide_eq_false_iff_not, Bool.not_eq_false', Bool.not_eq_true, Decidable.not_not, V.int.injEq, V.bl.injEq, V.str.injEq] at e3
          refine ⟨_, rfl, _, _, _, _, rfl, rfl, hk, rfl, rfl, _, rfl, ?_⟩
          refine ite2 (fun e4 => ?_) (fun e4 => ?_)
          · try simp only [decide_eq_true_eq, Bool.not_eq_true', decide_eq_false_iff_not, Bool.not_eq_false', Bool.not_eq_true, Decidable.not_not, V.int.injEq, V.bl.injEq, V.str.injEq] at e4
            refine qi q ?_
            unfold orbitSize
            (repeat' split) <;> first | rfl | omega | (exfalso; omega)
          · try simp only [decide_eq_true_eq, Bool.not_eq_true', decide_eq_false_iff_not, Bool.not_eq_false', Bool.not_eq_true, Decidable.not_not, V.int.injEq, V.bl.injEq, V.str.injEq] at e4
            refine qi q ?_
            unfold orbitSize
            (repeat' split) <;> first | rfl | omega | (exfalso; omega)
    · try simp only [decide_eq_true_eq, Bool.not_eq_true', decide_eq_false_iff_not, Bool.not_eq_false', Bool.not_eq_true, Decidable.not_not, V.int.injEq, V.bl.injEq, V.str.injEq] at e1
      refine iteF' rfl ?_
      refine ⟨_, rfl, _, _, _, _, rfl, rfl, hk, rfl, rfl, _, rfl, ?_⟩
      refine ite2 (fun e5 => ?_) (fun e5 => ?_)
      · try simp only [decide_eq_true_eq, Bool.not_eq_true', decide_eq_false_iff_not, Bool.not_eq_false', Bool.not_eq_true, Decidable.not_not, V.int.injEq, V.bl.injEq, V.str.injEq] at e5
        refine iteT' rfl ?_
        refine qi q ?_
        unfold orbitSize
        (repeat' split) <;> first | rfl | omega | (exfalso; omega)
      · try simp only [decide_eq_true_eq, Bool.not_eq_true', decide_eq_false_iff_not, Bool.not_eq_false', Bool.not_eq_true, Decidable.not_not, V.int.injEq, V.bl.injEq, V.str.injEq] at e5
        refine ⟨_, rfl, _, _, _, _, rfl, rfl, hk, rfl, rfl, _, rfl, ?_⟩
        refine ite2 (fun e6 => ?_) (fun e6 => ?_)
        · try simp only [decide_eq_true_eq, Bool.not_eq_true', decide_eq_false_iff_not, Bool.not_eq_false', Bool.not_eq_true, Decidable.not_not, V.int.injEq, V.bl.injEq, V.str.injEq] at e6
          refine qi q ?_
          unfold orbitSize
          (repeat' split) <;> first | rfl | omega | (exfalso; omega)
        · try simp only [decide_eq_true_eq, Bool.not_eq_true', decide_eq_false_iff_not, Bool.not_eq_false', Bool.not_eq_true, Decidable.not_not, V.int.injEq, V.bl.injEq, V.str.injEq] at e6
          refine qi q ?_
          unfold orbitSize
          (repeat' split) <;> first | rfl | omega | (exfalso; omega)

theorem sc_kind_count : FnScope ["size", "kind", "rest"] ["size", "kind"] (defScope s_kind_count) := ⟨rfl, rfl, rfl, by decide +kernel, rfl, by decide +kernel, by decide +kernel⟩
abbrev sc_kind_countN : List Str := ["size", "kind", "rest"]
def sp_kind_count (K : PySem.W.Frag) : Sp := fun vs H Q _ => ∃ n p a b c, vs = [.int n, .ref p] ∧ SqT K H p [.int a, .int b, .int c] ∧ 0 ≤ c ∧ n ≤ 10 ^ 30 ∧ Q (.int (kindCount n a b c)) H
theorem ok_kind_count (B : Blt mg) (G : Glb K mg) (D : DefAt K mg "kind_count" s_kind_count ["size", "kind"]) (d_orbit_size : DefOk P w K mg base 1 "orbit_size" ["kind"] (sp_orbit_size K)) (d_pair_sum : DefOk P w K mg base 1 "pair_sum" ["most", "kind"] (sp_pair_sum K)) (d_pair_count : DefOk P w K mg base 1 "pair_count" ["total", "kind"] (sp_pair_count K)) : DefOk P w K mg base 2 "kind_count" ["size", "kind"] (sp_kind_count K) := by
  refine def_ok D sc_kind_count (fun vs H Q E h => ?_) (fun f cdv A outer s H vs Q E hr h => ?_)
  · obtain ⟨_, _, _, _, _, rfl, _⟩ := h
    rfl
  · obtain ⟨n, p, a, b, c, rfl, hk, hc, hn, q⟩ := h
    have ho := orbitSize_le b c
    refine ⟨_, (pss_cons (ps_set (i := 2) sc_kind_count.nd rfl (.inl rfl) (pe_op op_sub (pe_op op_sub (pv 0) pe_int) (pe_ix ix_tup (pv 1) pe_int (fun _ _ => rfl))))
      (pss_cons (ps_if (pt_cmpR op_eq (pe_ix ix_tup (pv 1) pe_int (fun _ _ => rfl)) pe_int (nomark _)) (pss_one (ps_ret (pe_op op_mul (pe_callD d_orbit_size (hr.mono (by decide)) (by rfl) (pa_cons (pv 1) pa_nil)) (pe_callD d_pair_sum (hr.mono (by decide)) (by rfl) (pa_cons (pe_op op_fdiv (pv 2) pe_int) (pa_cons (pv 1) pa_nil)))))) pss_nil)
      (pss_cons (ps_if (PW.pt (pw_or (pt_cmpR op_lt (pv 2) pe_int (nomark _)) (pw_or1 (pt_cmpR op_eq (pe_op op_mod (pe_callTy call_int1 (by rfl) B.int bt_int (pa_cons (pv 2) pa_nil)) pe_int) pe_int (nomark _))))) (pss_one (ps_ret pe_int)) pss_nil)
      (pss_one (ps_ret (pe_op op_mul (pe_callD d_orbit_size (hr.mono (by decide)) (by rfl) (pa_cons (pv 1) pa_nil)) (pe_callD d_pair_count (hr.mono (by decide)) (by rfl) (pa_cons (pe_op op_fdiv (pv 2) pe_int) (pa_cons (pv 1) pa_nil))))))))), ?_⟩
    refine ⟨_, rfl, _, _, rfl, rfl, _, rfl, _, _, _, _, rfl, rfl, hk, rfl, _, _, rfl, rfl, _, rfl, _, _, _, _, rfl, rfl, hk, rfl, rfl, _, rfl, ?_⟩
    refine ite2 (fun e1 => ?_) (fun e1 => ?_)
    · try simp only [decide_eq_true_eq, Bool.not_eq_true', decide_eq_false_iff_not, Bool.not_eq_false', Bool.not_eq_true, Decidable.not_not, V.int.injEq, V.bl.injEq, V.str.injEq] at e1
      refine ⟨_, rfl, _, _, _, _, rfl, hk, ?_⟩
      refine ⟨_, rfl, _, _, rfl, rfl, (by walk_at "ob"), _, rfl, _, _, _, _, _, rfl, hk, (by walk_at "ob"), ?_⟩
      refine ⟨_, _, rfl, rfl, (by walk_at "ob"), ?_⟩
      refine qi q ?_
      unfold kindCount
      (repeat' split) <;> first | rfl | omega | (exfalso; omega)
    · try simp only [decide_eq_true_eq, Bool.not_eq_true', decide_eq_false_iff_not, Bool.not_eq_false', Bool.not_eq_true, Decidable.not_not, V.int.injEq, V.bl.injEq, V.str.injEq] at e1
      refine ⟨_, rfl, _, _, rfl, rfl, _, rfl, ?_⟩
      refine ite2 (fun e4 => ?_) (fun e4 => ?_)
      · try simp only [decide_eq_true_eq, Bool.not_eq_true', decide_eq_false_iff_not, Bool.not_eq_false', Bool.not_eq_true, Decidable.not_not, V.int.injEq, V.bl.injEq, V.str.injEq] at e4
        refine iteT' rfl ?_
        refine qi q ?_
        unfold kindCount
        (repeat' split) <;> first | rfl | omega | (exfalso; omega)
      · try simp only [decide_eq_true_eq, Bool.not_eq_true', decide_eq_false_iff_not, Bool.not_eq_false', Bool.not_eq_true, Decidable.not_not, V.int.injEq, V.bl.injEq, V.str.injEq] at e4
        refine ⟨_, rfl, .inl ⟨_, rfl, _, _, rfl, rfl, (by walk_at "ob"), rfl, _, rfl, ?_⟩⟩
        refine ite2 (fun e5 => ?_) (fun e5 => ?_)
        · try simp only [decide_eq_true_eq, Bool.not_eq_true', decide_eq_false_iff_not, Bool.not_eq_false', Bool.not_eq_true, Decidable.not_not, V.int.injEq, V.bl.injEq, V.str.injEq] at e5
          refine qi q ?_
          unfold kindCount
          (repeat' split) <;> first | rfl | omega | (exfalso; omega)
        · try simp only [decide_eq_true_eq, Bool.not_eq_true', decide_eq_false_iff_not, Bool.not_eq_false', Bool.not_eq_true, Decidable.not_not, V.int.injEq, V.bl.injEq, V.str.injEq] at e5
          refine ⟨_, rfl, _, _, _, _, rfl, hk, ?_⟩
          refine ⟨_, rfl, _, _, rfl, rfl, (by walk_at "ob"), _, rfl, _, _, _, _, _, rfl, hk, ?_⟩
          refine ⟨_, _, rfl, rfl, (by walk_at "ob"), ?_⟩
          refine qi q ?_
          unfold kindCount
          (repeat' split) <;> first | rfl | omega | (exfalso; omega)

theorem sc_cell_count : FnScope ["size", "kind"] ["size", "kind"] (defScope s_cell_count) := ⟨rfl, rfl, rfl, by decide +kernel, rfl, by decide +kernel, by decide +kernel⟩
abbrev sc_cell_countN : List Str := ["size", "kind"]
def sp_cell_count (K : PySem.W.Frag) : Sp := fun vs H Q _ => ∃ n p a b c, vs = [.int n, .ref p] ∧ SqT K H p [.int a, .int b, .int c] ∧ (0 ≤ a ∧ a ≤ 1 ∧ 0 ≤ b ∧ b ≤ 2 ∧ 0 ≤ c ∧ c ≤ 3) ∧ (1 ≤ n ∧ n ≤ 10 ^ 30) ∧ ∀ r H', r = kindCount n a b c → Same H H' → Q (.int r) H'
theorem ok_cell_count (B : Blt mg) (G : Glb K mg) (D : DefAt K mg "cell_count" s_cell_count ["size", "kind"]) (d_check_size : DefOk P w K mg base 3 "check_size" ["value"] sp_check_size) (d_is_kind : DefOk P w K mg base 2 "is_kind" ["value"] (sp_is_kind K)) (d_kind_count : DefOk P w K mg base 2 "kind_count" ["size", "kind"] (sp_kind_count K)) : DefOk P w K mg base 4 "cell_count" ["size", "kind"] (sp_cell_count K) := by
  refine def_ok D sc_cell_count (fun vs H Q E h => ?_) (fun f cdv A outer s H vs Q E hr h => ?_)
  · obtain ⟨_, _, _, _, _, rfl, _⟩ := h
    rfl
  · obtain ⟨n, p, a, b, c, rfl, hk, hb, hn, q⟩ := h
    refine ⟨_, (pss_cons (ps_expr (pe_callD d_check_size (hr.mono (by decide)) (by rfl) (pa_cons (pv 0) pa_nil)))
      (pss_cons (ps_if (pt_not (pt_val (pe_callD d_is_kind (hr.mono (by decide)) (by rfl) (pa_cons (pv 1) pa_nil)))) (pss_one ps_never) pss_nil)
      (pss_one (ps_ret (pe_callD d_kind_count (hr.mono (by decide)) (by rfl) (pa_cons (pv 0) (pa_cons (pv 1) pa_nil))))))), ?_⟩
    refine ⟨_, rfl, _, rfl, (by walk_at "ob"), (by walk_at "ob"), ?_⟩
    refine ⟨_, rfl, _, _, _, _, rfl, hk, ⟨by walk_at "ob", by walk_at "ob", by walk_at "ob", by walk_at "ob", by walk_at "ob", by walk_at "ob"⟩, fun H2 S2 => ?_⟩
    refine ⟨_, rfl, ?_⟩
    refine iteF' (rfl) ?_
    refine ⟨_, rfl, _, rfl, _, _, _, _, _, rfl, (seqT S2 hk), (by walk_at "ob"), (by walk_at "ob"), ?_⟩
    exact q _ _ rfl ((Same.refl H).trans S2)

theorem sc_law_purl : FnScope ["_law_script", "_law_spot", "_law_mixed", "_law_cell", "_law_own"] ["_law_script", "_law_spot"] (defScope s_law_purl) := ⟨rfl, rfl, rfl, by decide +kernel, rfl, by decide +kernel, by decide +kernel⟩
abbrev sc_law_purlN : List Str := ["_law_script", "_law_spot", "_law_mixed", "_law_cell", "_law_own"]
def sp_law_purl (K : PySem.W.Frag) : Sp := fun vs H Q _ => ∃ (a : Addr) (ns : List Int) (k : Int), vs = [.ref a, .int k] ∧ SqL K H a (ns.map V.int) ∧ ns.length ≤ 63 ∧ 0 ≤ k ∧ k < 64 ∧ ∀ p m o H', Same H H' → H p = none → Prl H' p m o → Q (.ref p) H'
theorem at_nat {ns : List Int} {k : Int} (h0 : 0 ≤ k) (h : k < ns.length) : atI (ns.map V.int) k = some (.int (ns.getD k.toNat 0)) := by
  have hk : k.toNat < ns.length := by omega
  have := atI_nat (xs := ns.map V.int) (j := k.toNat) (v := .int (ns.getD k.toNat 0)) (by rw [List.getElem?_map, List.getD_eq_getElem?_getD, List.getElem?_eq_getElem hk]; rfl)
  rwa [Int.toNat_of_nonneg h0] at this
theorem cutV_map (ns : List Int) (lo hi : Option Int) : ∃ ms : List Int, cutV (ns.map V.int) lo hi = ms.map V.int ∧ ms.length ≤ ns.length := by
  unfold cutV
  refine ⟨(ns.drop (HT.sIx (ns.map V.int).length 0 lo)).take (HT.sIx (ns.map V.int).length (ns.map V.int).length hi - HT.sIx (ns.map V.int).length 0 lo), ?_, ?_⟩
  · rw [List.map_take, List.map_drop]
  · rw [List.length_take, List.length_drop]
    omega
theorem ok_law_purl (B : Blt mg) (G : Glb K mg) (D : DefAt K mg "_law_purl" s_law_purl ["_law_script", "_law_spot"]) : DefOk P w K mg base 1 "_law_purl" ["_law_script", "_law_spot"] (sp_law_purl K) := by
  refine def_ok D sc_law_purl (fun vs H Q E h => ?_) (fun f cdv A outer s H vs Q E hr h => ?_)
  · obtain ⟨_, _, _, rfl, _⟩ := h
    rfl
  · obtain ⟨a, ns, k, rfl, hS, hl, k0, k9, q⟩ := h
    obtain ⟨ms1, ec1, z1⟩ := cutV_map ns none (some 2)
    obtain ⟨ms2, ec2, z2⟩ := cutV_map ns (some k) (some (k + 1))
    refine ⟨_, (pss_cons (ps_set (i := 2) sc_law_purl.nd rfl (.inl rfl) (pe_op op_add pe_int (pe_op op_mul pe_int (pv 1))))
      (pss_cons (ps_for PassesOwn.never rfl (pi_list (pe_op op_cat (pe_slice sl_list (pv 0) po_none (po_some pe_int)) (pe_slice sl_list (pv 0) (po_some (pv 1)) (po_some (pe_op op_add (pv 1) pe_int))))) (pg_name (i := 3) sc_law_purl.nd rfl (.inl rfl)) (pss_one (ps_set (i := 2) sc_law_purl.nd rfl (.inl rfl) (pe_op op_mod (pe_callTy call_int1 (by rfl) B.int bt_int (pa_cons (pe_op op_add (pe_op op_add (pe_op op_mul (pv 2) pe_int) (pv 3)) pe_int) pa_nil)) pe_int))))
      (pss_cons (ps_set (i := 4) sc_law_purl.nd rfl (.inl rfl) (pe_ifExp (pt_cmpR op_lt (pv 1) (pe_callB call_len_seq (by rfl) B.len bt_len (pa_cons (pv 0) pa_nil)) (nomark _)) (pe_ix ix_list (pv 0) (pv 1) (fun _ _ => rfl)) pe_int))
      (pss_one (ps_ret (pe_lst (pa_cons (pv 2) (pa_cons (pe_ifExp (pt_cmpR op_ge (pe_callB call_abs (by rfl) B.abs bt_abs (pa_cons (pv 4) pa_nil)) (pe_op op_powN pe_int pe_int) (nomark _)) (pe_callB call_abs (by rfl) B.abs bt_abs (pa_cons (pv 4) pa_nil)) pe_int) pa_nil)))))))), ?_⟩
    refine ⟨_, rfl, _, _, rfl, rfl, (Or.inl ⟨by decide, by decide⟩), _, _, rfl, rfl, _, rfl, _, rfl, _, _, rfl, hS, fun l1 nl1 => ?_⟩
    refine ⟨_, rfl, _, rfl, _, rfl, _, rfl, _, _, rfl, rfl, _, rfl, _, _, rfl, (seqL (same_upd nl1) hS), fun l2 nl2 => ?_⟩
    refine ⟨_, _, _, _, rfl, rfl, ((same_upd nl2) _ _ upd_same), upd_same, (by rw [ec1, ec2, List.length_map, List.length_map]; exact Nat.le_of_lt (small1000 (by omega))), fun l3 nl3 => ?_⟩
    refine ⟨_, rfl, ⟨_, SqL.new⟩, for_list (K := K) (xs := ms1.map V.int ++ ms2.map V.int) (fun i σ H' => ∃ z y, Same H H' ∧ SqL K H' l3 (ms1.map V.int ++ ms2.map V.int) ∧ σ = [some (.ref a), some (.int k), some (.int z), y, none] ∧ 0 ≤ z ∧ z < 2147483629) ⟨104729 + 61 * k, none, ((((Same.refl H).trans (same_upd nl1)).trans (same_upd nl2)).trans (same_upd nl3)), by rw [← ec1, ← ec2]; exact SqL.new, rfl, by omega, by omega⟩ (fun i σ H' _ ⟨_, _, _, h, _⟩ => h) ?_ ?_⟩
    · rintro i x σ H' hx ⟨z, y, S', hL', rfl, z0, z9⟩
      obtain ⟨c, rfl⟩ : ∃ c, x = .int c := by
        have := List.mem_of_getElem? hx
        rw [← List.map_append, List.mem_map] at this
        obtain ⟨c, _, e⟩ := this
        exact ⟨c, e.symm⟩
      refine ⟨_, rfl, _, _, rfl, rfl, (Or.inr ⟨by decide, by decide⟩), _, rfl, _, _, rfl, rfl, _, _, rfl, rfl, .inl ⟨_, rfl, _, _, rfl, rfl, (by walk_at "ob"), ?_⟩⟩
      exact ⟨_, _, S', hL', rfl, Int.emod_nonneg _ (by decide), Int.emod_lt_of_pos _ (by decide)⟩
    · rintro σ H' ⟨z, y, S', hL', rfl, z0, z9⟩
      refine ⟨_, rfl, _, rfl, _, _, rfl, .inl (seqL S' hS), _, _, rfl, rfl, _, rfl, ?_⟩
      refine ite2 (fun e4 => ?_) (fun e4 => ?_)
      · try simp only [decide_eq_true_eq, Bool.not_eq_true', decide_eq_false_iff_not, Bool.not_eq_false', Bool.not_eq_true, Decidable.not_not, V.int.injEq, V.bl.injEq, V.str.injEq] at e4
        refine ⟨_, rfl, _, rfl, _, _, _, _, rfl, rfl, (seqL S' hS), (at_nat k0 (by rw [List.length_map] at e4; omega)), _, rfl, _, rfl, _, rfl, _, _, rfl, rfl, (by walk_at "ob"), fun w5 ew5 => ?_⟩
        have ew5 : w5 = 1000000000000000000 := ew5
        refine ⟨_, _, rfl, rfl, _, rfl, ?_⟩
        refine ite2 (fun e6 => ?_) (fun e6 => ?_)
        · try simp only [decide_eq_true_eq, Bool.not_eq_true', decide_eq_false_iff_not, Bool.not_eq_false', Bool.not_eq_true, Decidable.not_not, V.int.injEq, V.bl.injEq, V.str.injEq] at e6
          refine ⟨_, rfl, _, rfl, (by show 2 ≤ sizeLine; decide), fun l7 nl7 => ?_⟩
          exact q _ _ _ _ (S'.trans (same_upd nl7)) (S'.free nl7) ⟨upd_same, z0, z9, by omega⟩
        · try simp only [decide_eq_true_eq, Bool.not_eq_true', decide_eq_false_iff_not, Bool.not_eq_false', Bool.not_eq_true, Decidable.not_not, V.int.injEq, V.bl.injEq, V.str.injEq] at e6
          refine ⟨(by show 2 ≤ sizeLine; decide), fun l8 nl8 => ?_⟩
          exact q _ _ _ _ (S'.trans (same_upd nl8)) (S'.free nl8) ⟨upd_same, z0, z9, by omega⟩
      · try simp only [decide_eq_true_eq, Bool.not_eq_true', decide_eq_false_iff_not, Bool.not_eq_false', Bool.not_eq_true, Decidable.not_not, V.int.injEq, V.bl.injEq, V.str.injEq] at e4
        refine ⟨_, rfl, _, rfl, _, rfl, _, _, rfl, rfl, (by walk_at "ob"), fun w9 ew9 => ?_⟩
        have ew9 : w9 = 1000000000000000000 := ew9
        refine ⟨_, _, rfl, rfl, _, rfl, ?_⟩
        refine ite2 (fun e10 => ?_) (fun e10 => ?_)
        · try simp only [decide_eq_true_eq, Bool.not_eq_true', decide_eq_false_iff_not, Bool.not_eq_false', Bool.not_eq_true, Decidable.not_not, V.int.injEq, V.bl.injEq, V.str.injEq] at e10
          refine ⟨_, rfl, _, rfl, (by show 2 ≤ sizeLine; decide), fun l11 nl11 => ?_⟩
          exact q _ _ _ _ (S'.trans (same_upd nl11)) (S'.free nl11) ⟨upd_same, z0, z9, by omega⟩
        · try simp only [decide_eq_true_eq, Bool.not_eq_true', decide_eq_false_iff_not, Bool.not_eq_false', Bool.not_eq_true, Decidable.not_not, V.int.injEq, V.bl.injEq, V.str.injEq] at e10
          refine ⟨(by show 2 ≤ sizeLine; decide), fun l12 nl12 => ?_⟩
          exact q _ _ _ _ (S'.trans (same_upd nl12)) (S'.free nl12) ⟨upd_same, z0, z9, by omega⟩

theorem sc_law_dig : FnScope ["_law_purl_here", "_law_many", "_law_digit"] ["_law_purl_here", "_law_many"] (defScope s_law_dig) := ⟨rfl, rfl, rfl, by decide +kernel, rfl, by decide +kernel, by decide +kernel⟩
abbrev sc_law_digN : List Str := ["_law_purl_here", "_law_many", "_law_digit"]
def sp_law_dig : Sp := fun vs H Q _ => ∃ p many m o, vs = [.ref p, .int many] ∧ Prl H p m o ∧ 0 < many ∧ many < 1073741824 ∧ ∀ d m' o' H', 0 ≤ d → d < many → SameX p H H' → Prl H' p m' o' → Q (.int d) H'
theorem ok_law_dig (B : Blt mg) (G : Glb K mg) (D : DefAt K mg "_law_dig" s_law_dig ["_law_purl_here", "_law_many"]) : DefOk P w K mg base 1 "_law_dig" ["_law_purl_here", "_law_many"] sp_law_dig := by
  refine def_ok D sc_law_dig (fun vs H Q E h => ?_) (fun f cdv A outer s H vs Q E hr h => ?_)
  · obtain ⟨_, _, _, _, rfl, _⟩ := h
    rfl
  · obtain ⟨p, many, m, o, rfl, ⟨hp, m0, m9, o0⟩, h1, h2, q⟩ := h
    refine ⟨_, (pss_cons (ps_if (pt_cmpR op_gt (pe_ix ix_list (pv 0) pe_int (fun _ _ => rfl)) pe_int (nomark _)) (pss_cons (ps_asg (pe_callB call_divmod (by rfl) B.divmod bt_divmod (pa_cons (pe_ix ix_list (pv 0) pe_int (fun _ _ => rfl)) (pa_cons (pv 1) pa_nil))) (pg_tup rfl (pgs_cons (pg_sub (pv 0) pe_int set_list) (pgs_cons (pg_name (i := 2) sc_law_dig.nd rfl (.inl rfl)) pgs_nil))))
      (pss_one (ps_ret (pv 2)))) pss_nil)
      (pss_cons (ps_asg (pe_op op_mod (pe_callTy call_int1 (by rfl) B.int bt_int (pa_cons (pe_op op_add (pe_op op_mul (pe_ix ix_list (pv 0) pe_int (fun _ _ => rfl)) pe_int) pe_int) pa_nil)) pe_int) (pg_sub (pv 0) pe_int set_list))
      (pss_one (ps_ret (pe_op op_mod (pe_callTy call_int1 (by rfl) B.int bt_int (pa_cons (pe_op op_fdiv (pe_ix ix_list (pv 0) pe_int (fun _ _ => rfl)) pe_int) pa_nil)) (pv 1)))))), ?_⟩
    refine ⟨_, rfl, _, _, _, _, rfl, rfl, (.inl (.inl hp)), rfl, _, _, rfl, rfl, _, rfl, ?_⟩
    refine ite2 (fun e1 => ?_) (fun e1 => ?_)
    · try simp only [decide_eq_true_eq, Bool.not_eq_true', decide_eq_false_iff_not, Bool.not_eq_false', Bool.not_eq_true, Decidable.not_not, V.int.injEq, V.bl.injEq, V.str.injEq] at e1
      refine ⟨_, rfl, _, _, _, _, rfl, rfl, (.inl (.inl hp)), rfl, _, rfl, _, _, rfl, (by walk_at "ob"), fun t2 nt2 => ?_⟩
      refine ⟨_, _, rfl, SqT.new, rfl, _, _, rfl, _, rfl, _, _, _, _, rfl, rfl, ((same_upd nt2) _ _ hp), rfl, _, _, rfl, rfl, _, rfl, ?_⟩
      exact q _ _ _ _ (Int.emod_nonneg _ (by omega)) (Int.emod_lt_of_pos _ h1) (((SameX.refl p H).trans (SameX.of (same_upd nt2))).trans SameX.upd) ⟨upd_same, m0, m9, Int.ediv_nonneg o0 (by omega)⟩
    · try simp only [decide_eq_true_eq, Bool.not_eq_true', decide_eq_false_iff_not, Bool.not_eq_false', Bool.not_eq_true, Decidable.not_not, V.int.injEq, V.bl.injEq, V.str.injEq] at e1
      refine ⟨_, rfl, _, _, _, _, rfl, rfl, (.inl (.inl hp)), rfl, _, _, rfl, rfl, (Or.inr ⟨by decide, by decide⟩), _, _, rfl, rfl, .inl ⟨_, rfl, _, _, rfl, rfl, (by walk_at "ob"), _, rfl, _, _, _, _, rfl, rfl, hp, rfl, _, rfl, _, _, _, _, rfl, rfl, (.inl (.inl upd_same)), rfl, _, _, rfl, rfl, (by walk_at "ob"), .inl ⟨_, rfl, _, rfl, _, _, rfl, rfl, h1, ?_⟩⟩⟩
      exact q _ _ _ _ (Int.emod_nonneg _ (by omega)) (Int.emod_lt_of_pos _ h1) ((SameX.refl p H).trans SameX.upd) ⟨upd_same, Int.emod_nonneg _ (by decide), Int.emod_lt_of_pos _ (by decide), o0⟩

theorem sc_law_far : FnScope ["_law_purl_here", "_law_figures", "_law_found", "_law_k"] ["_law_purl_here"] (defScope s_law_far) := ⟨rfl, rfl, rfl, by decide +kernel, rfl, by decide +kernel, by decide +kernel⟩
abbrev sc_law_farN : List Str := ["_law_purl_here", "_law_figures", "_law_found", "_law_k"]
def sp_law_far : Sp := fun vs H Q _ => ∃ p m o, vs = [.ref p] ∧ Prl H p m o ∧ ∀ n m' o' H', 1 ≤ n → n ≤ 10 ^ 30 → SameX p H H' → Prl H' p m' o' → Q (.int n) H'
theorem ok_law_far (B : Blt mg) (G : Glb K mg) (D : DefAt K mg "_law_far" s_law_far ["_law_purl_here"]) (d_law_dig : DefOk P w K mg base 1 "_law_dig" ["_law_purl_here", "_law_many"] sp_law_dig) : DefOk P w K mg base 2 "_law_far" ["_law_purl_here"] sp_law_far := by
  refine def_ok D sc_law_far (fun vs H Q E h => ?_) (fun f cdv A outer s H vs Q E hr h => ?_)
  · obtain ⟨_, _, _, rfl, _⟩ := h
    rfl
  · obtain ⟨p, m, o, rfl, hp, q⟩ := h
    refine ⟨_, (pss_cons (ps_if (pt_cmpR op_eq (pe_callD d_law_dig (hr.mono (by decide)) (by rfl) (pa_cons (pv 0) (pa_cons pe_int pa_nil))) pe_int (nomark _)) (pss_one (ps_ret (pe_op op_add pe_int (pe_callD d_law_dig (hr.mono (by decide)) (by rfl) (pa_cons (pv 0) (pa_cons pe_int pa_nil)))))) pss_nil)
      (pss_cons (ps_par (i := 1) (j := 2) rfl sc_law_far.nd rfl rfl (by decide) rfl rfl (pa_cons (pe_op op_add pe_int (pe_callD d_law_dig (hr.mono (by decide)) (by rfl) (pa_cons (pv 0) (pa_cons pe_int pa_nil)))) (pa_cons pe_int pa_nil)) (by rfl))
      (pss_cons (ps_for PassesOwn.never rfl (pi_range1 (by rfl) B.range (pa_cons (pv 1) pa_nil)) (pg_name (i := 3) sc_law_far.nd rfl (.inl rfl)) (pss_one (ps_set (i := 2) sc_law_far.nd rfl (.inl rfl) (pe_op op_add (pe_op op_mul (pv 2) pe_int) (pe_callD d_law_dig (hr.mono (by decide)) (by rfl) (pa_cons (pv 0) (pa_cons pe_int pa_nil)))))))
      (pss_one (ps_ret (pe_op op_add pe_int (pe_op op_mod (pe_callTy call_int1 (by rfl) B.int bt_int (pa_cons (pv 2) pa_nil)) (pe_op op_powN pe_int pe_int)))))))), ?_⟩
    refine ⟨_, rfl, _, _, _, _, rfl, hp, (by walk_at "ob"), (by walk_at "ob"), fun d1 m1 o1 H1 da1 db1 X1 hp1 => ?_⟩
    refine ⟨rfl, _, rfl, ?_⟩
    refine ite2 (fun e2 => ?_) (fun e2 => ?_)
    · try simp only [decide_eq_true_eq, Bool.not_eq_true', decide_eq_false_iff_not, Bool.not_eq_false', Bool.not_eq_true, Decidable.not_not, V.int.injEq, V.bl.injEq, V.str.injEq] at e2
      refine ⟨_, rfl, _, _, _, _, rfl, hp1, (by walk_at "ob"), (by walk_at "ob"), fun d3 m3 o3 H3 da3 db3 X3 hp3 => ?_⟩
      refine ⟨_, _, rfl, rfl, ?_⟩
      exact q _ _ _ _ (by omega) (by omega) (((SameX.refl p H).trans X1).trans X3) hp3
    · try simp only [decide_eq_true_eq, Bool.not_eq_true', decide_eq_false_iff_not, Bool.not_eq_false', Bool.not_eq_true, Decidable.not_not, V.int.injEq, V.bl.injEq, V.str.injEq] at e2
      refine ⟨_, rfl, _, _, _, _, rfl, hp1, (by walk_at "ob"), (by walk_at "ob"), fun d4 m4 o4 H4 da4 db4 X4 hp4 => ?_⟩
      refine ⟨_, _, rfl, rfl, _, _, rfl, _, rfl, _, rfl, (by walk_at "ob"), (by walk_at "ob"), for_range (fun i σ H' => ∃ z y m o, SameX p H H' ∧ Prl H' p m o ∧ σ = [some (.ref p), some (.int (2 + d4)), some (.int z), y]) ⟨0, none, _, _, (((SameX.refl p H).trans X1).trans X4), hp4, rfl⟩ ?_ ?_⟩
      · rintro i σ H' hi ⟨z, y, m', o', X', hp', rfl⟩
        refine ⟨_, rfl, _, _, rfl, rfl, (Or.inr ⟨by decide, by decide⟩), _, rfl, _, _, _, _, rfl, hp', (by walk_at "ob"), (by walk_at "ob"), fun d5 m5 o5 H5 da5 db5 X5 hp5 => ?_⟩
        refine ⟨_, _, rfl, rfl, ?_⟩
        exact ⟨_, _, _, _, (X'.trans X5), hp5, rfl⟩
      · rintro σ H' ⟨z, y, m', o', X', hp', rfl⟩
        refine ⟨_, rfl, .inl ⟨_, rfl, _, _, rfl, rfl, (by walk_at "ob"), fun w6 ew6 => ?_⟩⟩
        have ew6 : w6 = 1000000000000000000000000000000 := ew6
        refine ⟨_, _, rfl, rfl, (by walk_at "ob"), _, _, rfl, rfl, ?_⟩
        subst ew6
        exact q _ _ _ _ (by omega) (by omega) X' hp'

theorem sc_law_whole : FnScope ["_law_value"] ["_law_value"] (defScope s_law_whole) := ⟨rfl, rfl, rfl, by decide +kernel, rfl, by decide +kernel, by decide +kernel⟩
abbrev sc_law_wholeN : List Str := ["_law_value"]
def sp_law_whole (K : PySem.W.Frag) : Sp := fun vs H Q _ => ∃ v t, vs = [v] ∧ TyX K H v (.type t) ∧ t ∈ tyNames ∧ Q (.bl (decide (t = "int"))) H
theorem ok_law_whole (B : Blt mg) (G : Glb K mg) (D : DefAt K mg "_law_whole" s_law_whole ["_law_value"]) : DefOk P w K mg base 1 "_law_whole" ["_law_value"] (sp_law_whole K) := by
  refine def_ok D sc_law_whole (fun vs H Q E h => ?_) (fun f cdv A outer s H vs Q E hr h => ?_)
  · obtain ⟨_, _, rfl, _⟩ := h
    rfl
  · obtain ⟨v, t, rfl, ht, hm, q⟩ := h
    refine ⟨_, (pss_one (ps_ret (pe_and (pe_callB call_isi (by rfl) B.isinstance bt_isinstance (pa_cons (pv 0) (pa_cons (pe_bltn (v := .ty "int") (by rfl) B.int bt_int rfl) pa_nil))) (pe_one (pe_not (pe_callB call_isi (by rfl) B.isinstance bt_isinstance (pa_cons (pv 0) (pa_cons (pe_bltn (v := .ty "bool") (by rfl) B.bool bt_bool rfl) pa_nil)))))))), ?_⟩
    refine ⟨_, rfl, _, _, _, _, _, rfl, .ty _, ht, kI hm, _, rfl, ?_⟩
    refine ite2 (fun e1 => ?_) (fun e1 => ?_)
    · try simp only [decide_eq_true_eq, Bool.not_eq_true', decide_eq_false_iff_not, Bool.not_eq_false', Bool.not_eq_true, Decidable.not_not, V.int.injEq, V.bl.injEq, V.str.injEq] at e1
      refine ⟨_, rfl, _, _, _, _, _, rfl, .ty _, ht, kB hm, _, rfl, ?_⟩
      have e : (!decide (t = "bool")) = decide (t = "int") := by
        rcases e1 with rfl | rfl <;> rfl
      rw [e]
      exact q
    · try simp only [decide_eq_true_eq, Bool.not_eq_true', decide_eq_false_iff_not, Bool.not_eq_false', Bool.not_eq_true, Decidable.not_not, V.int.injEq, V.bl.injEq, V.str.injEq] at e1
      have e : decide (t = "int") = false := decide_eq_false (fun z => e1 (.inl z))
      rw [e] at q
      exact q

theorem sc_law_sort : FnScope ["_law_size", "_law_row", "_law_column", "_law_low", "_law_middle", "_law_high", "_law_top"] ["_law_size", "_law_row", "_law_column"] (defScope s_law_sort) := ⟨rfl, rfl, rfl, by decide +kernel, rfl, by decide +kernel, by decide +kernel⟩
abbrev sc_law_sortN : List Str := ["_law_size", "_law_row", "_law_column", "_law_low", "_law_middle", "_law_high", "_law_top"]
def sp_law_sort (K : PySem.W.Frag) : Sp := fun vs H Q _ => ∃ n r c, vs = [.int n, .int r, .int c] ∧ ∀ t H', Same H H' → H' t = some (.tup [.int (kd n r c).1, .int (kd n r c).2.1, .int (kd n r c).2.2]) → Q (.ref t) H'
theorem ok_law_sort (B : Blt mg) (G : Glb K mg) (D : DefAt K mg "_law_sort" s_law_sort ["_law_size", "_law_row", "_law_column"]) : DefOk P w K mg base 1 "_law_sort" ["_law_size", "_law_row", "_law_column"] (sp_law_sort K) := by
  refine def_ok D sc_law_sort (fun vs H Q E h => ?_) (fun f cdv A outer s H vs Q E hr h => ?_)
  · obtain ⟨_, _, _, rfl, _⟩ := h
    rfl
  · obtain ⟨n, r, c, rfl, q⟩ := h
    refine ⟨_, (pss_cons (ps_asg (pe_callB cr_sorted (by rfl) B.sorted bt_sorted (pa_cons (pe_lst (pa_cons (pv 1) (pa_cons (pv 2) (pa_cons (pe_op op_sub (pe_op op_sub (pv 0) pe_int) (pv 1)) (pa_cons (pe_op op_sub (pe_op op_sub (pv 0) pe_int) (pv 2)) pa_nil))))) pa_nil)) (pg_unl rfl (pgs_cons (pg_name (i := 3) sc_law_sort.nd rfl (.inl rfl)) (pgs_cons (pg_name (i := 4) sc_law_sort.nd rfl (.inl rfl)) (pgs_cons (pg_name (i := 5) sc_law_sort.nd rfl (.inl rfl)) (pgs_cons (pg_name (i := 6) sc_law_sort.nd rfl (.inl rfl)) pgs_nil))))))
      (pss_one (ps_ret (pe_tup (pa_cons (pe_callB (call_min2 rfl) (by rfl) B.min bt_min (pa_cons (pv 3) (pa_cons pe_int pa_nil))) (pa_cons (pe_callB (call_min2 rfl) (by rfl) B.min bt_min (pa_cons (pe_op op_sub (pv 4) (pv 3)) (pa_cons pe_int pa_nil))) (pa_cons (pe_callB (call_min2 rfl) (by rfl) B.min bt_min (pa_cons (pe_op op_sub (pv 5) (pv 4)) (pa_cons pe_int pa_nil))) pa_nil))))))), ?_⟩
    refine ⟨_, rfl, _, rfl, _, rfl, _, _, rfl, rfl, _, rfl, _, _, rfl, rfl, _, rfl, _, _, rfl, rfl, _, rfl, _, _, rfl, rfl, (by show 4 ≤ sizeLine; decide), fun l1 nl1 => ?_⟩
    refine ⟨_, [r, c, n - 1 - r, n - 1 - c], rfl, (.inl (.inl upd_same)), (by show 4 < 64; decide), fun nsp2 p2 hpp2 hwp2 np2 => ?_⟩
    obtain ⟨x1, x2, x3, x4, rfl⟩ := len4 (hpp2.length_eq)
    have hs := sort_eq hpp2 hwp2
    refine ⟨_, _, rfl, (.inl (.inl upd_same)), rfl, _, _, rfl, _, _, rfl, _, _, rfl, _, _, rfl, rfl, _, rfl, _, _, rfl, _, rfl, _, rfl, _, _, rfl, rfl, _, _, rfl, _, rfl, _, rfl, _, _, rfl, rfl, _, _, rfl, (by show 3 ≤ sizeLine; decide), fun t3 nt3 => ?_⟩
    exact q _ _ ((((Same.refl H).trans (same_upd nl1)).trans (same_upd np2)).trans (same_upd nt3)) (by rw [kd_of hs]; exact upd_same)


def brd (n : Int) (i j : Nat) : Int := ((List.range i).map fun b : Nat => ((List.range 4).map fun c : Nat => kindCount n 0 (0 + b) (0 + c)).sum).sum + ((List.range j).map fun c : Nat => kindCount n 0 (0 + i) (0 + c)).sum
theorem brd_succ (n : Int) (i j : Nat) : brd n i (j + 1) = brd n i j + kindCount n 0 (0 + i) (0 + j) := by
  unfold brd
  rw [List.range_succ (n := j), List.map_append, List.sum_append]
  simp only [List.map_cons, List.map_nil, List.sum_cons, List.sum_nil, Int.add_zero]
  omega
theorem brd_next (n : Int) (i : Nat) : brd n (i + 1) 0 = brd n i 4 := by
  unfold brd
  rw [List.range_succ (n := i), List.map_append, List.sum_append]
  simp only [List.map_cons, List.map_nil, List.sum_cons, List.sum_nil, Int.add_zero, List.range_zero]
theorem orb_00 : orbitSize 0 0 = 1 := by decide
theorem orb_0c (c : Int) (h : c ≠ 0) : orbitSize 0 c = 4 := by unfold orbitSize; rw [if_neg (by omega), if_pos (by omega)]
theorem orb_b0 (b : Int) (h : b ≠ 0) : orbitSize b 0 = 4 := by unfold orbitSize; rw [if_neg (by omega), if_pos (by omega)]
theorem orb_bc (b c : Int) (h : b ≠ 0) (h2 : c ≠ 0) : orbitSize b c = 8 := by unfold orbitSize; rw [if_neg (by omega), if_neg (by omega)]
theorem sq_step (m : Int) : (m + 1 - 2) * (m + 1 - 1) = (m - 2) * (m - 1) + 2 * (m - 1) := by
  have e1 : m + 1 - 2 = m - 1 := by omega
  have e2 : m + 1 - 1 = (m - 2) + 2 := by omega
  rw [e1, e2, Int.mul_add, Int.mul_comm (m - 1) (m - 2)]
  omega
theorem ps_1 (m b : Int) (hb : b = 0 ∨ b = 1) (h : 1 ≤ m) : pairSum m 0 b = 1 := by
  unfold pairSum; rw [if_neg (by omega), if_pos rfl, if_pos (by omega), if_pos (by omega)]
theorem ps_2 (m : Int) (h : 1 ≤ m) : pairSum m 0 2 = m - 1 := by
  unfold pairSum; rw [if_neg (by omega), if_pos rfl, if_neg (by omega)]; split <;> omega
theorem ps_1b (m b : Int) (hb : b = 0 ∨ b = 1) (h : 2 ≤ m) : pairSum m 1 b = m - b := by
  unfold pairSum; rw [if_neg (by omega), if_neg (by omega), if_pos (by omega), if_pos (by omega)]
theorem ps_12 (m : Int) (h : 2 < m) : pairSum m 1 2 = (m - 2) * (m - 1) / 2 := by
  unfold pairSum; rw [if_neg (by omega), if_neg (by omega), if_neg (by omega), if_pos (by omega)]
theorem ps_ring (m : Int) (b : Int) (hb : b = 0 ∨ b = 1 ∨ b = 2) (h : -2 ≤ m) : pairSum (m + 1) 1 b = pairSum m 0 b + pairSum m 1 b := by
  by_cases h2 : 2 < m
  · rcases hb with rfl | rfl | rfl
    · rw [ps_1b _ 0 (.inl rfl) (by omega), ps_1b _ 0 (.inl rfl) (by omega), ps_1 _ 0 (.inl rfl) (by omega)]; omega
    · rw [ps_1b _ 1 (.inr rfl) (by omega), ps_1b _ 1 (.inr rfl) (by omega), ps_1 _ 1 (.inr rfl) (by omega)]; omega
    · rw [ps_12 _ (by omega), ps_12 _ h2, ps_2 _ (by omega), sq_step m]
      generalize (m - 2) * (m - 1) = z
      omega
  · have : m = -2 ∨ m = -1 ∨ m = 0 ∨ m = 1 ∨ m = 2 := by omega
    rcases hb with rfl | rfl | rfl <;> rcases this with rfl | rfl | rfl | rfl | rfl <;> decide
theorem pc_0 (t b : Int) (h : 2 ≤ t) (hb : b < 2) : pairCount t 0 b = 0 := by
  unfold pairCount; rw [if_pos rfl, if_neg]; split <;> omega
theorem pc_2 (t : Int) (h : 2 ≤ t) : pairCount t 0 2 = 1 := by
  unfold pairCount; rw [if_pos rfl, if_pos]; split <;> omega
theorem pc_1b (t b : Int) (h : 2 ≤ t) (hb : b < 2) : pairCount t 1 b = 1 := by
  unfold pairCount; rw [if_neg (by omega), if_pos hb, if_pos (by omega)]
theorem pc_12 (t : Int) (h : 2 ≤ t) : pairCount t 1 2 = t - 2 := by
  unfold pairCount; rw [if_neg (by omega), if_neg (by omega)]; split <;> omega
theorem pc_ring (m : Int) (b : Int) (hb : b = 0 ∨ b = 1 ∨ b = 2) (h : 0 ≤ m) : pairCount (m + 1) 1 b = pairCount m 0 b + pairCount m 1 b := by
  by_cases h2 : 2 ≤ m
  · by_cases b2 : b < 2
    · rw [pc_1b _ _ (by omega) b2, pc_1b _ _ h2 b2, pc_0 _ _ h2 b2]; rfl
    · have : b = 2 := by omega
      subst this
      rw [pc_12 _ (by omega), pc_12 _ h2, pc_2 _ h2]; omega
  · have : m = 0 ∨ m = 1 := by omega
    rcases hb with rfl | rfl | rfl <;> rcases this with rfl | rfl <;> decide
theorem kc_ring (n : Int) (h1 : 1 ≤ n) (i j : Nat) (hi : i < 3) (hj : j < 4) : kindCount (n + 2) 1 (0 + i) (0 + j) = kindCount n 0 (0 + i) (0 + j) + kindCount n 1 (0 + i) (0 + j) := by
  have hb : (0 + (i : Int)) = 0 ∨ (0 + (i : Int)) = 1 ∨ (0 + (i : Int)) = 2 := by omega
  have hc : 0 ≤ (0 + (j : Int)) ∧ (0 + (j : Int)) ≤ 3 := by omega
  generalize (0 + (i : Int)) = b at *
  generalize (0 + (j : Int)) = c at *
  unfold kindCount
  by_cases h3 : c = 3
  · rw [if_pos h3, if_pos h3, if_pos h3, show (n + 2 - 1 - c) / 2 = (n - 1 - c) / 2 + 1 by omega, ps_ring _ b hb (by omega), Int.mul_add]
  · rw [if_neg h3, if_neg h3, if_neg h3]
    by_cases h4 : (n - 1 - c) % 2 = 1
    · rw [if_pos (by omega), if_pos (by omega), if_pos (by omega)]
      rfl
    · rw [if_neg (show ¬ (n + 2 - 1 - c < 0 ∨ (n + 2 - 1 - c) % 2 = 1) by omega), show (n + 2 - 1 - c) / 2 = (n - 1 - c) / 2 + 1 by omega]
      by_cases h5 : n - 1 - c < 0
      · rw [if_pos (.inl h5), if_pos (.inl h5), show (n - 1 - c) / 2 = -1 by omega]
        have : pairCount (-1 + 1) 1 b = 0 := by
          rcases hb with rfl | rfl | rfl <;> decide
        rw [this, Int.mul_zero]
        rfl
      · rw [if_neg (by omega), if_neg (by omega), pc_ring _ b hb (by omega), Int.mul_add]
theorem kc_odd (n a b c : Int) (h3 : c ≠ 3) (h : (n - 1 - c) % 2 = 1) : kindCount n a b c = 0 := by
  unfold kindCount; rw [if_neg h3, if_pos (.inr h)]
theorem kc_even (n a b c : Int) (h3 : c ≠ 3) (h : (n - 1 - c) % 2 = 0) (h0 : 0 ≤ n - 1 - c) : kindCount n a b c = orbitSize b c * pairCount ((n - 1 - c) / 2) a b := by
  unfold kindCount; rw [if_neg h3, if_neg (by omega)]
theorem kc_3 (n a b : Int) : kindCount n a b 3 = orbitSize b 3 * pairSum ((n - 4) / 2) a b := by
  unfold kindCount; rw [if_pos rfl, show n - 1 - 3 = n - 4 by omega]
theorem kc_003 (n : Int) (h : 3 < n) : kindCount n 0 0 3 = 4 := by
  rw [kc_3, orb_0c 3 (by decide)]
  unfold pairSum
  rw [if_neg (by omega), if_pos rfl, if_pos (by omega), if_pos (by omega)]
  rfl
theorem kc_020 (n : Int) (h : 4 < n) : kindCount n 0 2 0 = if n % 2 = 1 then 4 else 0 := by
  by_cases h2 : n % 2 = 1
  · rw [kc_even _ _ _ _ (by decide) (by omega) (by omega), orb_b0 2 (by decide), pc_2 _ (by omega), if_pos h2]; rfl
  · rw [kc_odd _ _ _ _ (by decide) (by omega), if_neg h2]
theorem kc_02 (n : Int) (h : ¬ n < 8) : kindCount n 0 2 1 = 8 - 2 * (if n % 2 = 1 then 4 else 0) ∧ kindCount n 0 2 2 = 2 * (if n % 2 = 1 then 4 else 0) ∧ kindCount n 0 1 3 = 8 := by
  refine ⟨?_, ?_, ?_⟩
  · by_cases h2 : n % 2 = 1
    · rw [kc_odd _ _ _ _ (by decide) (by omega), if_pos h2]; rfl
    · rw [kc_even _ _ _ _ (by decide) (by omega) (by omega), orb_bc 2 1 (by decide) (by decide), pc_2 _ (by omega), if_neg h2]; rfl
  · by_cases h2 : n % 2 = 1
    · rw [kc_even _ _ _ _ (by decide) (by omega) (by omega), orb_bc 2 2 (by decide) (by decide), pc_2 _ (by omega), if_pos h2]; rfl
    · rw [kc_odd _ _ _ _ (by decide) (by omega), if_neg h2]; rfl
  · rw [kc_3, orb_bc 1 3 (by decide) (by decide), ps_1 _ 1 (.inr rfl) (by omega)]; rfl
theorem brd_all (n : Int) (h1 : 1 ≤ n) : brd n 3 0 = if 1 < n then 4 * n - 4 else 1 := by
  have e : brd n 3 0 = (kindCount n 0 0 0 + (kindCount n 0 0 1 + (kindCount n 0 0 2 + (kindCount n 0 0 3 + 0)))) + ((kindCount n 0 1 0 + (kindCount n 0 1 1 + (kindCount n 0 1 2 + (kindCount n 0 1 3 + 0)))) + ((kindCount n 0 2 0 + (kindCount n 0 2 1 + (kindCount n 0 2 2 + (kindCount n 0 2 3 + 0)))) + 0)) + 0 := rfl
  rw [e]
  by_cases h8 : n < 8
  · have : n = 1 ∨ n = 2 ∨ n = 3 ∨ n = 4 ∨ n = 5 ∨ n = 6 ∨ n = 7 := by omega
    rcases this with rfl | rfl | rfl | rfl | rfl | rfl | rfl <;> decide
  · have a3 := kc_003 n (by omega)
    have c0 := kc_020 n (by omega)
    have ⟨c1, c2, b3⟩ := kc_02 n h8
    have c3 : kindCount n 0 2 3 = 8 * ((n - 4) / 2 - 1) := by rw [kc_3, orb_bc 2 3 (by decide) (by decide), ps_2 _ (by omega)]
    have z : ∀ b c : Int, b < 2 → 0 ≤ c → c < 3 → kindCount n 0 b c = 0 := by
      intro b c hb c0 c3
      by_cases h2 : (n - 1 - c) % 2 = 1
      · exact kc_odd _ _ _ _ (by omega) h2
      · rw [kc_even _ _ _ _ (by omega) (by omega) (by omega), pc_0 _ _ (by omega) hb, Int.mul_zero]
    rw [z 0 0 (by decide) (by decide) (by decide), z 0 1 (by decide) (by decide) (by decide), z 0 2 (by decide) (by decide) (by decide), z 1 0 (by decide) (by decide) (by decide), z 1 1 (by decide) (by decide) (by decide), z 1 2 (by decide) (by decide) (by decide), a3, c0, c1, c2, b3, c3, if_pos (show 1 < n by omega)]
    split <;> omega
def kl : List (Int × Int × Int) := [(0, 0, 0), (0, 0, 1), (0, 0, 2), (0, 0, 3), (0, 1, 0), (0, 1, 1), (0, 1, 2), (0, 1, 3), (0, 2, 0), (0, 2, 1), (0, 2, 2), (0, 2, 3), (1, 0, 0), (1, 0, 1), (1, 0, 2), (1, 0, 3), (1, 1, 0), (1, 1, 1), (1, 1, 2), (1, 1, 3), (1, 2, 0), (1, 2, 1), (1, 2, 2), (1, 2, 3)]
def kcz (n : Int) (z : Int × Int × Int) : Int := kindCount n z.1 z.2.1 z.2.2
theorem kl_in : ∀ z ∈ kl, 0 ≤ z.1 ∧ z.1 ≤ 1 ∧ 0 ≤ z.2.1 ∧ z.2.1 ≤ 2 ∧ 0 ≤ z.2.2 ∧ z.2.2 ≤ 3 := by decide
def cntRow (n r : Int) (z : Int × Int × Int) : Nat → Int
  | 0 => 0
  | j + 1 => cntRow n r z j + (if kd n r (0 + j) = z then 1 else 0)
def cntAll (n : Int) (z : Int × Int × Int) : Nat → Int
  | 0 => 0
  | i + 1 => cntAll n z i + cntRow n (0 + i) z n.toNat
def cnt (n : Int) (i j : Nat) (z : Int × Int × Int) : Int := cntAll n z i + cntRow n (0 + i) z j
theorem cnt_zero (n : Int) (i : Nat) (z : Int × Int × Int) : cnt n i 0 z = cntAll n z i := by
  show cntAll n z i + 0 = _
  omega
theorem cnt_succ (n : Int) (i j : Nat) (z : Int × Int × Int) : cnt n i (j + 1) z = cnt n i j z + (if kd n (0 + i) (0 + j) = z then 1 else 0) := by
  show cntAll n z i + (cntRow n (0 + i) z j + _) = cntAll n z i + cntRow n (0 + i) z j + _
  rw [Int.add_assoc]
def okCnt (n : Int) : Bool := kl.all fun z => decide (kcz n z = cntAll n z n.toNat)
theorem okCnt_all (n : Int) (h1 : 1 ≤ n) (h : n < 15) : okCnt n = true := by
  have : n = 1 ∨ n = 2 ∨ n = 3 ∨ n = 4 ∨ n = 5 ∨ n = 6 ∨ n = 7 ∨ n = 8 ∨ n = 9 ∨ n = 10 ∨ n = 11 ∨ n = 12 ∨ n = 13 ∨ n = 14 := by omega
  rcases this with rfl | rfl | rfl | rfl | rfl | rfl | rfl | rfl | rfl | rfl | rfl | rfl | rfl | rfl <;> decide +kernel
theorem cnt_is {n : Int} (h1 : 1 ≤ n) (h : n < 15) {z : Int × Int × Int} (hz : z ∈ kl) : kcz n z = cntAll n z n.toNat := by
  have := okCnt_all n h1 h
  unfold okCnt at this
  rw [List.all_eq_true] at this
  exact of_decide_eq_true (this z hz)
theorem ps_nonneg (m a b : Int) : 0 ≤ pairSum m a b := by
  unfold pairSum
  split
  · omega
  · split
    · split
      · split <;> omega
      · split <;> omega
    · split
      · split <;> omega
      · split
        · exact Int.ediv_nonneg (Int.mul_nonneg (by omega) (by omega)) (by decide)
        · omega
theorem pc_nonneg (m a b : Int) : 0 ≤ pairCount m a b := by
  unfold pairCount
  split
  · split <;> omega
  · split
    · split <;> omega
    · split <;> omega
theorem kc_nonneg (n : Int) (z : Int × Int × Int) : 0 ≤ kcz n z := by
  unfold kcz kindCount
  have h1 := (orbitSize_le z.2.1 z.2.2).1
  split
  · exact Int.mul_nonneg (by omega) (ps_nonneg _ _ _)
  · split
    · omega
    · exact Int.mul_nonneg (by omega) (pc_nonneg _ _ _)
def tot (n : Int) : Int := (kl.map (kcz n)).sum
def inner (n : Int) : Int := ((List.range 3).map fun b : Nat => ((List.range 4).map fun c : Nat => kindCount n 1 (0 + b) (0 + c)).sum).sum
theorem tot_eq (n : Int) : tot n = brd n 3 0 + inner n := by
  have e : tot n = (kindCount n 0 0 0 + (kindCount n 0 0 1 + (kindCount n 0 0 2 + (kindCount n 0 0 3 + (kindCount n 0 1 0 + (kindCount n 0 1 1 + (kindCount n 0 1 2 + (kindCount n 0 1 3 + (kindCount n 0 2 0 + (kindCount n 0 2 1 + (kindCount n 0 2 2 + (kindCount n 0 2 3 +
    (kindCount n 1 0 0 + (kindCount n 1 0 1 + (kindCount n 1 0 2 + (kindCount n 1 0 3 + (kindCount n 1 1 0 + (kindCount n 1 1 1 + (kindCount n 1 1 2 + (kindCount n 1 1 3 + (kindCount n 1 2 0 + (kindCount n 1 2 1 + (kindCount n 1 2 2 + (kindCount n 1 2 3 + 0)))))))))))))))))))))))) := rfl
  have e1 : brd n 3 0 = (kindCount n 0 0 0 + (kindCount n 0 0 1 + (kindCount n 0 0 2 + (kindCount n 0 0 3 + 0)))) + ((kindCount n 0 1 0 + (kindCount n 0 1 1 + (kindCount n 0 1 2 + (kindCount n 0 1 3 + 0)))) + ((kindCount n 0 2 0 + (kindCount n 0 2 1 + (kindCount n 0 2 2 + (kindCount n 0 2 3 + 0)))) + 0)) + 0 := rfl
  have e2 : inner n = (kindCount n 1 0 0 + (kindCount n 1 0 1 + (kindCount n 1 0 2 + (kindCount n 1 0 3 + 0)))) + ((kindCount n 1 1 0 + (kindCount n 1 1 1 + (kindCount n 1 1 2 + (kindCount n 1 1 3 + 0)))) + ((kindCount n 1 2 0 + (kindCount n 1 2 1 + (kindCount n 1 2 2 + (kindCount n 1 2 3 + 0)))) + 0)) := rfl
  rw [e, e1, e2]
  omega
theorem inner_step (n : Int) (h : 1 ≤ n) : inner (n + 2) = tot n := by
  rw [tot_eq]
  have hb : brd n 3 0 = ((List.range 3).map fun b : Nat => ((List.range 4).map fun c : Nat => kindCount n 0 (0 + b) (0 + c)).sum).sum := by
    unfold brd
    simp only [List.range_zero, List.map_nil, List.sum_nil, Int.add_zero]
  have k := fun (i j : Nat) (hi : i < 3) (hj : j < 4) => kc_ring n h i j hi hj
  rw [hb]
  unfold inner
  simp only [List.range_succ, List.range_zero, List.nil_append, List.cons_append, List.map_cons, List.map_nil, List.sum_cons, List.sum_nil]
  rw [k 0 0 (by decide) (by decide), k 0 1 (by decide) (by decide), k 0 2 (by decide) (by decide), k 0 3 (by decide) (by decide), k 1 0 (by decide) (by decide), k 1 1 (by decide) (by decide), k 1 2 (by decide) (by decide), k 1 3 (by decide) (by decide), k 2 0 (by decide) (by decide), k 2 1 (by decide) (by decide), k 2 2 (by decide) (by decide), k 2 3 (by decide) (by decide)]
  omega
theorem tot_step (n : Int) (h : 1 ≤ n) (e : tot n = n * n) : tot (n + 2) = (n + 2) * (n + 2) := by
  have e2 : (n + 2) * (n + 2) = n * n + 4 * n + 4 := by
    rw [Int.add_mul, Int.mul_add, Int.mul_add]
    omega
  rw [tot_eq, brd_all _ (by omega), if_pos (by omega), inner_step n h, e, e2]
  omega
theorem tot_both : ∀ k : Nat, tot (2 * k + 1) = (2 * k + 1) * (2 * k + 1) ∧ tot (2 * k + 2) = (2 * k + 2) * (2 * k + 2)
  | 0 => ⟨by decide, by decide⟩
  | k + 1 => by
    obtain ⟨a, b⟩ := tot_both k
    have e1 : 2 * ((k + 1 : Nat) : Int) + 1 = 2 * (k : Int) + 1 + 2 := by omega
    have e2 : 2 * ((k + 1 : Nat) : Int) + 2 = 2 * (k : Int) + 2 + 2 := by omega
    rw [e1, e2]
    exact ⟨tot_step _ (by omega) a, tot_step _ (by omega) b⟩
theorem tot_sq (n : Int) (h : 1 ≤ n) : tot n = n * n := by
  obtain ⟨a, b⟩ := tot_both ((n - 1) / 2).toNat
  by_cases e : n % 2 = 1
  · have : 2 * (((n - 1) / 2).toNat : Int) + 1 = n := by omega
    rw [this] at a
    exact a
  · have : 2 * (((n - 1) / 2).toNat : Int) + 2 = n := by omega
    rw [this] at b
    exact b
def kz (z : Int × Int × Int) : List Key := [.inl z.1, .inl z.2.1, .inl z.2.2]
theorem kz_inj {z w : Int × Int × Int} : kz z = kz w ↔ w = z := by
  obtain ⟨a, b, c⟩ := z
  obtain ⟨a', b', c'⟩ := w
  simp only [kz, List.cons.injEq, Sum.inl.injEq, and_true, Prod.mk.injEq]
  constructor
  · rintro ⟨rfl, rfl, rfl⟩; exact ⟨rfl, rfl, rfl⟩
  · rintro ⟨rfl, rfl, rfl⟩; exact ⟨rfl, rfl, rfl⟩
theorem putK_le {κ : Type} [DecidableEq κ] (c : List (κ × V)) (k : κ) (x : V) : (putK c k x).length ≤ c.length + 1 := by
  unfold putK
  split
  · rw [List.length_map]; omega
  · rw [List.length_append]; exact Nat.le_refl _
def TrK (H : Hp) (v : V) (z : Int × Int × Int) : Prop := ∃ a, v = .ref a ∧ H a = some (.tup [.int z.1, .int z.2.1, .int z.2.2])
def TrL (H : Hp) (ts : List V) (L : List (Int × Int × Int)) : Prop := ts.length = L.length ∧ ∀ (i : Nat) (v : V), ts[i]? = some v → ∃ z, L[i]? = some z ∧ TrK H v z
theorem TrL.nil {H : Hp} : TrL H [] [] := ⟨rfl, fun i v h => by simp at h⟩
theorem TrL.same {H H' : Hp} {ts : List V} {L : List (Int × Int × Int)} (e : Same H H') (h : TrL H ts L) : TrL H' ts L := ⟨h.1, fun i v hv => by
  obtain ⟨z, ez, a, ea, ha⟩ := h.2 i v hv
  exact ⟨z, ez, a, ea, e _ _ ha⟩⟩
theorem TrL.app {H : Hp} {ts us : List V} {L M : List (Int × Int × Int)} (h : TrL H ts L) (g : TrL H us M) : TrL H (ts ++ us) (L ++ M) := by
  refine ⟨by rw [List.length_append, List.length_append, h.1, g.1], fun i v hv => ?_⟩
  by_cases hi : i < ts.length
  · rw [List.getElem?_append_left hi] at hv
    rw [List.getElem?_append_left (h.1 ▸ hi)]
    exact h.2 i v hv
  · rw [List.getElem?_append_right (by omega)] at hv
    rw [List.getElem?_append_right (by rw [← h.1]; omega), ← h.1]
    exact g.2 _ v hv
theorem TrL.one {H : Hp} {t : Addr} {z : Int × Int × Int} (h : H t = some (.tup [.int z.1, .int z.2.1, .int z.2.2])) : TrL H [.ref t] [z] := by
  refine ⟨rfl, fun i v hv => ?_⟩
  cases i with
  | zero => simp only [List.getElem?_cons_zero, Option.some.injEq] at hv; exact ⟨z, rfl, t, hv.symm, h⟩
  | succ i => simp at hv
theorem kl_at : ∀ i : Nat, i < 2 → ∀ j : Nat, j < 3 → ∀ k : Nat, k < 4 → kl[12 * i + 4 * j + k]? = some ((0 + (i : Int)), (0 + (j : Int)), (0 + (k : Int))) := by
  intro i hi j hj k hk
  have hi : i = 0 ∨ i = 1 := by omega
  have hj : j = 0 ∨ j = 1 ∨ j = 2 := by omega
  have hk : k = 0 ∨ k = 1 ∨ k = 2 ∨ k = 3 := by omega
  rcases hi with rfl | rfl <;> rcases hj with rfl | rfl | rfl <;> rcases hk with rfl | rfl | rfl | rfl <;> rfl
theorem take_snoc {α : Type} {l : List α} {i : Nat} {z : α} (h : l[i]? = some z) : l.take (i + 1) = l.take i ++ [z] := by rw [List.take_add_one, h]; rfl
theorem drop_take_snoc {l : List (Int × Int × Int)} {m k : Nat} {z : Int × Int × Int} (h : l[m + k]? = some z) : (l.drop m).take (k + 1) = (l.drop m).take k ++ [z] := take_snoc (by rw [List.getElem?_drop]; exact h)
theorem take_more {l : List (Int × Int × Int)} {m k : Nat} : l.take m ++ (l.drop m).take k = l.take (m + k) := by rw [List.take_add]

theorem sc_law_all : FnScope ["_law_found", "_law_one", "_law_two", "_law_three"] [] (defScope s_law_all) := ⟨rfl, rfl, rfl, by decide +kernel, rfl, by decide +kernel, by decide +kernel⟩
abbrev sc_law_allN : List Str := ["_law_found", "_law_one", "_law_two", "_law_three"]
def sp_law_all : Sp := fun vs H Q _ => vs = [] ∧ ∀ l ts H', Same H H' → H' l = some (.lst ts) → TrL H' ts kl → Q (.ref l) H'
theorem ok_law_all (B : Blt mg) (G : Glb K mg) (D : DefAt K mg "_law_all" s_law_all []) : DefOk P w K mg base 1 "_law_all" [] sp_law_all := by
  refine def_ok D sc_law_all (fun vs H Q E h => ?_) (fun f cdv A outer s H vs Q E hr h => ?_)
  · obtain ⟨rfl, _⟩ := h
    rfl
  · obtain ⟨rfl, q⟩ := h
    refine ⟨_, (pss_cons (ps_set (i := 0) sc_law_all.nd rfl (.inl rfl) (pe_lst pa_nil))
      (pss_cons (ps_for PassesOwn.never rfl (pi_range1 (by rfl) B.range (pa_cons pe_int pa_nil)) (pg_name (i := 1) sc_law_all.nd rfl (.inr rfl)) (pss_one (ps_for PassesOwn.never rfl (pi_range1 (by rfl) B.range (pa_cons pe_int pa_nil)) (pg_name (i := 2) sc_law_all.nd rfl (.inr rfl)) (pss_one (ps_set (i := 0) sc_law_all.nd rfl (.inl rfl) (pe_op op_cat (pv 0) (pe_lc (own := [("_law_three", 3)]) (g := gName 3) (tt := tYes) rfl sc_law_all.nd (pi_range1 (by rfl) B.range (pa_cons pe_int pa_nil)) (blkOk_by (N := sc_law_allN) (sc := defScope s_law_all) (by decide +kernel)) (fun _ _ _ _ _ => (pg_name (i := 3) sc_law_all.nd rfl (.inl rfl))) (fun _ _ _ _ _ => pts_nil) (fun _ _ _ _ _ => (pe_tup (pa_cons (pv 1) (pa_cons (pv 2) (pa_cons (pv 3) pa_nil))))))))))))
      (pss_one (ps_ret (pv 0))))), ?_⟩
    refine ⟨(by show 0 ≤ sizeLine; decide), fun l nl => ?_⟩
    refine ⟨_, rfl, by decide, by decide, for_range (fun i σ H' => ∃ l ts y1 y2, Same H H' ∧ H' l = some (.lst ts) ∧ TrL H' ts (kl.take (12 * i)) ∧ σ = [some (.ref l), y1, y2, none]) ⟨l, [], none, none, same_upd nl, upd_same, TrL.nil, rfl⟩ ?_ ?_⟩
    · rintro i σ H' hi ⟨l, ts, y1, y2, S', hl, ht, rfl⟩
      refine ⟨_, rfl, by decide, by decide, for_range (fun j σ H'' => ∃ l ts y2, Same H H'' ∧ H'' l = some (.lst ts) ∧ TrL H'' ts (kl.take (12 * i + 4 * j)) ∧ σ = [some (.ref l), some (.int (0 + i)), y2, none]) ⟨l, ts, _, S', hl, ht, rfl⟩ ?_ ?_⟩
      · rintro j σ H'' hj ⟨l, ts, y2, S'', hl, ht, rfl⟩
        have hi : i < 2 := hi
        have hj : j < 3 := hj
        refine ⟨_, rfl, _, rfl, by decide, by decide, fun D nD => ?_⟩
        refine lc_range (fun k H2 => Same H'' H2 ∧ ∃ us, H2 D = some (.lst us) ∧ TrL H2 us ((kl.drop (12 * i + 4 * j)).take k)) ⟨same_upd nD, [], upd_same, TrL.nil⟩ (fun k H2 hk h => ?_) (fun H2 h => ?_)
        · obtain ⟨S2, us, hD, hu⟩ := h
          have hk : k < 4 := hk
          have hz := kl_at i hi j hj k hk
          have ul : us.length ≤ 4 := by
            rw [hu.1, List.length_take]
            omega
          refine ⟨rfl, _, rfl, _, rfl, _, rfl, (by show 3 ≤ sizeLine; decide), fun t nt => ?_⟩
          refine ⟨_, same_upd nt _ _ hD, small1000 (by omega), fun b o e => ?_, _, upd_same, ?_⟩
          · rw [upd_ne (ne_of_none e nD)]
            exact same_upd nt _ _ (S2 _ _ e)
          · rw [drop_take_snoc hz]
            have Dt : D ≠ t := ne_of_none hD nt
            have X1 : SameX D H2 (upd (upd H2 t (.tup [.int (0 + i), .int (0 + j), .int (0 + k)])) D (.lst (us ++ [.ref t]))) := (SameX.of (same_upd nt)).trans SameX.upd
            refine TrL.app ⟨hu.1, fun m v hv => ?_⟩ (TrL.one (by rw [upd_ne (Ne.symm Dt)]; exact upd_same))
            obtain ⟨z, ez, a, ea, ha⟩ := hu.2 m v hv
            exact ⟨z, ez, a, ea, X1 _ _ (ne_of ha hD (by intro z; cases z)) ha⟩
        · obtain ⟨S2, us, hD, hu⟩ := h
          have tl := ht.1
          have ul := hu.1
          rw [List.length_take] at tl ul
          refine ⟨_, _, _, _, rfl, rfl, S2 _ _ hl, hD, Nat.le_of_lt (small1000 (by have : kl.length = 24 := rfl; omega)), fun l2 n2 => ?_⟩
          refine ⟨l2, _, _, (S''.trans S2).trans (same_upd n2), upd_same, ?_, rfl⟩
          have := (TrL.same S2 ht).app hu
          rw [take_more] at this
          exact TrL.same (same_upd n2) this
      · rintro σ H'' ⟨l, ts, y2, S'', hl, ht, rfl⟩
        exact ⟨l, ts, _, _, S'', hl, ht, rfl⟩
    · rintro σ H' ⟨l, ts, y1, y2, S', hl, ht, rfl⟩
      exact ⟨_, rfl, q _ _ _ S' hl ht⟩

theorem sc_law_right : FnScope ["_law_purl_here", "_law_small", "_law_met", "_law_row", "_law_column", "_law_kind", "_law_found", "_law_size", "_law_counts"] ["_law_purl_here"] (defScope s_law_right) := ⟨rfl, rfl, rfl, by decide +kernel, rfl, by decide +kernel, by decide +kernel⟩
abbrev sc_law_rightN : List Str := ["_law_purl_here", "_law_small", "_law_met", "_law_row", "_law_column", "_law_kind", "_law_found", "_law_size", "_law_counts"]
def sp_law_right : Sp := fun vs H Q _ => ∃ p m o, vs = [.ref p] ∧ Prl H p m o ∧ ∀ H', SameX p H H' → Q (.bl true) H'
theorem ok_law_right (B : Blt mg) (G : Glb K mg) (D : DefAt K mg "_law_right" s_law_right ["_law_purl_here"]) (d_law_dig : DefOk P w K mg base 1 "_law_dig" ["_law_purl_here", "_law_many"] sp_law_dig) (d_law_sort : DefOk P w K mg base 1 "_law_sort" ["_law_size", "_law_row", "_law_column"] (sp_law_sort K)) (d_law_all : DefOk P w K mg base 1 "_law_all" [] sp_law_all) (d_cell_count : DefOk P w K mg base 4 "cell_count" ["size", "kind"] (sp_cell_count K)) (d_law_whole : DefOk P w K mg base 1 "_law_whole" ["_law_value"] (sp_law_whole K)) (d_law_far : DefOk P w K mg base 2 "_law_far" ["_law_purl_here"] sp_law_far) : DefOk P w K mg base 5 "_law_right" ["_law_purl_here"] sp_law_right := by
  refine def_ok D sc_law_right (fun vs H Q E h => ?_) (fun f cdv A outer s H vs Q E hr h => ?_)
  · obtain ⟨_, _, _, rfl, _⟩ := h
    rfl
  · obtain ⟨p, m, o, rfl, hp, q⟩ := h
    refine ⟨_, (pss_cons (ps_set (i := 1) sc_law_right.nd rfl (.inl rfl) (pe_op op_add pe_int (pe_callD d_law_dig (hr.mono (by decide)) (by rfl) (pa_cons (pv 0) (pa_cons pe_int pa_nil)))))
      (pss_cons (ps_set (i := 2) sc_law_right.nd rfl (.inl rfl) pe_dnewT)
      (pss_cons (ps_for PassesOwn.never rfl (pi_range1 (by rfl) B.range (pa_cons (pv 1) pa_nil)) (pg_name (i := 3) sc_law_right.nd rfl (.inl rfl)) (pss_one (ps_for PassesOwn.never rfl (pi_range1 (by rfl) B.range (pa_cons (pv 1) pa_nil)) (pg_name (i := 4) sc_law_right.nd rfl (.inl rfl)) (pss_cons (ps_set (i := 5) sc_law_right.nd rfl (.inl rfl) (pe_callD d_law_sort (hr.mono (by decide)) (by rfl) (pa_cons (pv 1) (pa_cons (pv 3) (pa_cons (pv 4) pa_nil)))))
      (pss_one (ps_dput (hu_of hr) (pv 2) (pv 5) (pe_op op_add (pe_dget2 (hu_of hr) (pv 2) (pv 5) pe_int ⟨by rfl, by rfl, by rfl, by rfl⟩) pe_int) rfl))))))
      (pss_cons (ps_for PassesOwn.never rfl (pi_list (pe_callD0 d_law_all (hr.mono (by decide)) (by rfl))) (pg_name (i := 5) sc_law_right.nd rfl (.inl rfl)) (pss_cons (ps_set (i := 6) sc_law_right.nd rfl (.inl rfl) (pe_callD d_cell_count (hr.mono (by decide)) (by rfl) (pa_cons (pv 1) (pa_cons (pv 5) pa_nil))))
      (pss_one (ps_if (PW.pt (pw_or (pt_not (pt_val (pe_callD d_law_whole (hr.mono (by decide)) (by rfl) (pa_cons (pv 6) pa_nil)))) (pw_or (pt_cmpR op_ne (pv 6) (pe_dget2 (hu_of hr) (pv 2) (pv 5) pe_int ⟨by rfl, by rfl, by rfl, by rfl⟩) (nomark _)) (pw_or1 (pt_cmpR op_ne (pe_callD d_cell_count (hr.mono (by decide)) (by rfl) (pa_cons (pv 1) (pa_cons (pv 5) pa_nil))) (pv 6) (nomark _)))))) (pss_one (ps_ret pe_bl)) pss_nil))))
      (pss_cons (ps_set (i := 7) sc_law_right.nd rfl (.inr rfl) (pe_callD d_law_far (hr.mono (by decide)) (by rfl) (pa_cons (pv 0) pa_nil)))
      (pss_cons (ps_setLc (i := 8) (own := [("_law_kind", 5)]) (g := gName 5) (tt := tYes) rfl sc_law_right.nd rfl rfl (sw_true rfl rfl rfl (by decide +kernel)) (pi_list (pe_callD0 d_law_all (hr.mono (by decide)) (by rfl))) (blkOk_by (N := sc_law_rightN) (sc := defScope s_law_right) (by decide +kernel)) (fun _ _ _ _ _ => (pg_name (i := 5) sc_law_right.nd rfl (.inl rfl))) (fun _ _ _ _ _ => pts_nil) (fun _ _ _ _ _ => (pe_callD d_cell_count (hr.mono (by decide)) (by rfl) (pa_cons (pv 7) (pa_cons (pv 5) pa_nil)))))
      (pss_one (ps_ret (pe_and (pe_cmpR (op_eqD (hu64 hr)) (pe_lc (own := [("_law_found", 6)]) (g := gName 6)  rfl sc_law_right.nd (pi_list (pv 8)) (blkOk_by (N := sc_law_rightN) (sc := defScope s_law_right) (by decide +kernel)) (fun _ _ _ _ _ => (pg_name (i := 6) sc_law_right.nd rfl (.inl rfl))) (fun _ _ _ _ _ => (pts_one (PW.pt (pw_or (pt_not (pt_val (pe_callD d_law_whole (hr.mono (by decide)) (by rfl) (pa_cons (pv 6) pa_nil)))) (pw_or1 (pt_cmpR op_lt (pv 6) pe_int (nomark _))))))) (fun _ _ _ _ _ => (pv 6))) (pe_lst pa_nil) (nomark _)) (pe_one (pe_cmpR op_eq (pe_callB (cr_sum rfl) (by rfl) B.sum bt_sum (pa_cons (pv 8) pa_nil)) (pe_op op_mulW (pv 7) (pv 7)) (nomark _)))))))))))), ?_⟩
    refine ⟨_, rfl, _, _, _, _, rfl, hp, by decide, by decide, fun d1 m1 o1 H1 da1 db1 X1 hp1 => ?_⟩
    refine ⟨_, _, rfl, rfl, ?_⟩
    refine fun dm ndm => ?_
    refine ⟨_, rfl, _, rfl, by omega, by omega, for_range (fun i σ H' => ∃ kvs y3 y4 y5, Same H1 H' ∧ H' dm = some (.dT kvs) ∧ kvs.length ≤ 15 * i ∧ (∀ z, (valV kvs (kz z)).getD (.int 0) = .int (cntAll (1 + d1) z i)) ∧ σ = [some (.ref p), some (.int (1 + d1)), some (.ref dm), y3, y4, y5, none, none, none]) ⟨[], none, none, none, same_upd ndm, upd_same, Nat.zero_le _, fun z => rfl, rfl⟩ ?_ ?_⟩
    · rintro i σ H' hi ⟨kvs, y3, y4, y5, S', hd, hlen, hv, rfl⟩
      refine ⟨_, rfl, _, rfl, by omega, by omega, for_range (fun j σ H'' => ∃ kvs y4 y5, Same H1 H'' ∧ H'' dm = some (.dT kvs) ∧ kvs.length ≤ 15 * i + j ∧ (∀ z, (valV kvs (kz z)).getD (.int 0) = .int (cnt (1 + d1) i j z)) ∧ σ = [some (.ref p), some (.int (1 + d1)), some (.ref dm), some (.int (0 + i)), y4, y5, none, none, none]) ⟨kvs, _, _, S', hd, hlen, fun z => by rw [cnt_zero]; exact hv z, rfl⟩ ?_ ?_⟩
      · rintro j σ H'' hj ⟨kvs, y4, y5, S'', hd, hlen, hv, rfl⟩
        refine ⟨_, rfl, _, rfl, _, rfl, _, _, _, rfl, fun t H3 S3 ht => ?_⟩
        have hd3 := S3 _ _ hd
        refine ⟨_, rfl, dm, rfl, .inr ⟨_, .inl hd3⟩, _, rfl, _, DGet.t (k := kz (kd (1 + d1) (0 + i) (0 + j))) hd3 ht, _, 1, hv _, rfl, ?_⟩
        refine ⟨_, rfl, _, rfl, dm, _, rfl, DPut.t (k := kz (kd (1 + d1) (0 + i) (0 + j))) hd3 ht (small1000 (by omega)), ?_⟩
        refine ⟨_, _, _, fun b o e => ?_, upd_same, Nat.le_trans (putK_le _ _ _) (by omega), fun z => ?_, rfl⟩
        · rw [upd_ne (ne_of_none e ndm)]
          exact S3 _ _ (S'' _ _ e)
        · rw [valV_put, cnt_succ]
          by_cases e : kd (1 + d1) (0 + i) (0 + j) = z
          · rw [if_pos (kz_inj.mpr e), if_pos e, ← e]
            rfl
          · rw [if_neg (fun h => e (kz_inj.mp h)), if_neg e, hv z, Int.add_zero]
      · rintro σ H'' ⟨kvs, y4, y5, S'', hd, hlen, hv, rfl⟩
        have hlen : kvs.length ≤ 15 * i + (1 + d1).toNat := hlen
        exact ⟨kvs, _, _, _, S'', hd, by omega, hv, rfl⟩
    · rintro σ H' ⟨kvs, y3, y4, y5, S', hd, hlen, hv, rfl⟩
      have hv : ∀ z, (valV kvs (kz z)).getD (.int 0) = .int (cntAll (1 + d1) z (1 + d1).toNat) := hv
      refine ⟨rfl, fun l ts H2 S2 hl ht => ?_⟩
      refine ⟨l, rfl, ⟨_, .inl (.inl hl)⟩, for_list (K := K) (xs := ts) (fun i σ H'' => ∃ y5 y6, Same H2 H'' ∧ σ = [some (.ref p), some (.int (1 + d1)), some (.ref dm), y3, y4, y5, y6, none, none]) ⟨_, _, Same.refl _, rfl⟩ (fun i σ Hz _ ⟨_, _, Sz, _⟩ => seqL Sz (.inl (.inl hl))) ?_ ?_⟩
      · rintro i x σ H'' hx ⟨y5, y6, S'', rfl⟩
        obtain ⟨z, ez, tz, rfl, hz⟩ := ht.2 i x hx
        have zm := List.mem_of_getElem? ez
        have zb := kl_in z zm
        have hz := S'' _ _ hz
        have hd2 := S'' _ _ (S2 _ _ hd)
        refine ⟨_, rfl, _, rfl, _, _, _, _, _, rfl, .inl (.inl hz), zb, ⟨by omega, by omega⟩, fun r H3 er S3 => ?_⟩
        subst er
        refine ⟨_, rfl, _, _, rfl, ty_int _, by decide, _, rfl, ?_⟩
        refine iteF' rfl ?_
        have hd3 := S3 _ _ hd2
        have hz3 := S3 _ _ hz
        refine ⟨_, rfl, _, rfl, dm, rfl, .inr ⟨_, .inl hd3⟩, _, rfl, _, DGet.t (k := kz z) hd3 hz3, ?_⟩
        rw [hv z]
        refine ⟨rfl, _, rfl, ?_⟩
        refine iteF' (neF (congrArg V.int (cnt_is (by omega) (by omega) zm))) ?_
        refine ⟨_, rfl, _, rfl, _, _, _, _, _, rfl, .inl (.inl hz3), zb, ⟨by omega, by omega⟩, fun r H4 er S4 => ?_⟩
        subst er
        refine ⟨_, rfl, rfl, _, rfl, ?_⟩
        refine iteF' (neF rfl) ?_
        exact ⟨_, _, (S''.trans S3).trans S4, rfl⟩
      · rintro σ H'' ⟨y5, y6, S'', rfl⟩
        have S5 : Same H1 H'' := (S'.trans S2).trans S''
        refine ⟨_, rfl, _, _, _, rfl, Prl.same S5 hp1, fun n2 m2 o2 H6 na2 nb2 X2 hp2 => ?_⟩
        refine ⟨rfl, fun l2 ts2 H7 S7 hl7 ht7 => ?_⟩
        refine ⟨l2, rfl, ⟨_, .inl (.inl hl7)⟩, fun D nD => ?_⟩
        have t24 : ts2.length = 24 := ht7.1
        refine lc_list (K := K) (xs := ts2) (fun i Hz => Same H7 Hz ∧ Hz D = some (.lst (((kl.take i).map (kcz n2)).map V.int))) ⟨same_upd nD, upd_same⟩ (fun i Hz _ h => seqL h.1 (.inl (.inl hl7))) (fun i x Hz hx h => ?_) (fun Hz h => ?_)
        · obtain ⟨z, ez, tz, rfl, hz⟩ := ht7.2 i x hx
          have zm := List.mem_of_getElem? ez
          have zb := kl_in z zm
          refine ⟨rfl, _, rfl, _, rfl, _, _, _, _, _, rfl, .inl (.inl (h.1 _ _ hz)), zb, ⟨by omega, by omega⟩, fun r H8 er S8 => ?_⟩
          subst er
          have ll : (((kl.take i).map (kcz n2)).map V.int).length ≤ 24 := by
            rw [List.length_map, List.length_map, List.length_take]
            exact Nat.min_le_right _ _
          refine ⟨_, S8 _ _ h.2, small1000 (by omega), fun b o e => ?_, ?_⟩
          · rw [upd_ne (ne_of_none e nD)]
            exact S8 _ _ (h.1 _ _ e)
          · rw [upd_same, take_snoc ez, List.map_append, List.map_append]
            rfl
        · have hD : Hz D = some (.lst ((kl.map (kcz n2)).map V.int)) := by
            have := h.2
            rwa [t24, List.take_of_length_le (by decide)] at this
          refine ⟨_, rfl, D, rfl, ⟨_, .inl (.inl hD)⟩, fun D2 nD2 => ?_⟩
          refine lc_list (K := K) (xs := (kl.map (kcz n2)).map V.int) (fun i Hy => Same Hz Hy ∧ Hy D2 = some (.lst [])) ⟨same_upd nD2, upd_same⟩ (fun i Hy _ h => seqL h.1 (.inl (.inl hD))) (fun i x Hy hx h => ?_) (fun Hy hy => ?_)
          · obtain ⟨c, hc, rfl⟩ := List.mem_map.mp (List.mem_of_getElem? hx)
            obtain ⟨z, _, rfl⟩ := List.mem_map.mp hc
            have := kc_nonneg n2 z
            refine ⟨rfl, _, rfl, _, _, rfl, ty_int _, by decide, _, rfl, ?_⟩
            refine iteF' rfl ?_
            refine ⟨_, rfl, _, _, rfl, rfl, _, rfl, ?_⟩
            refine iteF' (decide_eq_false (by omega)) ?_
            exact h
          · refine ⟨(by show 0 ≤ sizeLine; decide), fun l3 nl3 => ?_⟩
            refine ⟨_, _, .lst (.inl (.inl (same_upd nl3 _ _ hy.2))) .nil, .lst (.inl (.inl upd_same)) .nil, rfl, rfl, _, rfl, ?_⟩
            refine iteT' rfl ?_
            have Sy : Same Hz (upd Hy l3 (.lst [])) := hy.1.trans (same_upd nl3)
            refine ⟨_, rfl, D, kl.map (kcz n2), rfl, seqL Sy (.inl (.inl hD)), _, rfl, _, rfl, _, _, rfl, rfl, wide_mul (a := 100) (b := 100) (by omega) (by omega) (by decide) (by decide) (by decide), rfl, ?_⟩
            exact qb (q _ ((((X1.trans (SameX.of S5)).trans X2).trans (SameX.of (S7.trans h.1))).trans (SameX.of Sy))) (decide_eq_true (congrArg V.int (tot_sq n2 na2)))

theorem sc_law : FnScope ["_law_script", "_law_spot"] ["_law_script"] (defScope s_law) := ⟨rfl, rfl, rfl, by decide +kernel, rfl, by decide +kernel, by decide +kernel⟩
abbrev sc_lawN : List Str := ["_law_script", "_law_spot"]
def sp_law (K : PySem.W.Frag) : Sp := fun vs H Q _ => ∃ (a : Addr) (ns : List Int), vs = [.ref a] ∧ SqL K H a (ns.map V.int) ∧ ns.length ≤ 63 ∧ ∀ H', Q (.bl true) H'
theorem ok_law (B : Blt mg) (G : Glb K mg) {f : Addr} {fd : FuncData} (F : Fun K "law" "law" s_law f fd) (d_law_right : DefOk P w K mg base 5 "_law_right" ["_law_purl_here"] sp_law_right) (d_law_purl : DefOk P w K mg base 1 "_law_purl" ["_law_script", "_law_spot"] (sp_law_purl K)) : FnOk P w K mg base CX0 6 f fd ["_law_script"] (sp_law K) := by
  refine F.ok sc_law (fun vs H Q E h => ?_) (fun cdv A outer s H vs Q E hr h => ?_)
  · obtain ⟨_, _, rfl, _⟩ := h
    rfl
  · obtain ⟨a, ns, rfl, hS, hl, q⟩ := h
    refine ⟨_, (pss_one (ps_ret (pe_callB (cr_all rfl) (by rfl) B.all bt_all (pa_cons (pe_lc (own := [("_law_spot", 1)]) (g := gName 1) (tt := tYes) rfl sc_law.nd (pi_range1 (by rfl) B.range (pa_cons (pe_callB (call_max2N rfl) (by rfl) B.max bt_max (pa_cons pe_int (pa_cons (pe_callB (call_min2N rfl) (by rfl) B.min bt_min (pa_cons (pe_callB call_len_seq (by rfl) B.len bt_len (pa_cons (pv 0) pa_nil)) (pa_cons pe_int pa_nil))) pa_nil))) pa_nil)) (blkOk_by (N := sc_lawN) (sc := defScope s_law) (by decide +kernel)) (fun _ _ _ _ _ => (pg_name (i := 1) sc_law.nd rfl (.inl rfl))) (fun _ _ _ _ _ => pts_nil) (fun _ _ _ _ _ => (pe_callD d_law_right (hr.mono (by decide)) (by rfl) (pa_cons (pe_callD d_law_purl (hr.mono (by decide)) (by rfl) (pa_cons (pv 0) (pa_cons (pv 1) pa_nil))) pa_nil)))) pa_nil)))), ?_⟩
    refine ⟨_, rfl, _, _, rfl, .inl hS, _, _, rfl, fun r a1 a2 a3 => ?_⟩
    refine ⟨_, _, rfl, fun r' b1 b2 b3 => ?_⟩
    refine ⟨_, rfl, by omega, by omega, fun D nD => ?_⟩
    refine lc_range (fun i H' => Same H H' ∧ H' D = some (.lst (List.replicate i (V.bl true)))) ⟨same_upd nD, upd_same⟩ (fun i H' hi h => ?_) (fun H' h => ?_)
    · refine ⟨rfl, _, rfl, _, rfl, a, ns, _, rfl, seqL h.1 hS, hl, by omega, by omega, fun p m o H1 S1 np hp => ?_⟩
      refine ⟨_, _, _, rfl, hp, fun H2 X2 => ?_⟩
      refine ⟨_, X2 _ _ (ne_of_none h.2 np) (S1 _ _ h.2), by rw [List.length_replicate]; exact small1000 (by omega), ?_, ?_⟩
      · intro b o e
        rw [upd_ne (ne_of_none e nD)]
        exact X2 _ _ (ne_of_none (h.1 _ _ e) np) (S1 _ _ (h.1 _ _ e))
      · rw [upd_same, List.replicate_succ']
    · refine ⟨D, List.replicate r'.toNat true, rfl, .inl (.inl (by rw [List.map_replicate]; exact h.2)), ?_⟩
      exact qb (q _) (all_rep _)
end
theorem all_mk {l : PySem.W.OpenLaw} {w : World} {K : PySem.W.Frag} {h : Heap} {mg : Str → Option Value} {fa : Addr} (X : K.In h) (Gn : h.Ns mainGlobals mg) (hfa : mg "law" = some (.ref fa))
    {f0 : Addr} {od0 an0 : Option Addr} {sl0 : Array (Option Value)} {oc0 kV0 dc0 pm0 cd0 ct0 : Value}
    (a0 : PySem.W.nsIn K mainGlobals "is_integer" = some (some (.ref f0))) (l0 : K.lookup f0 = some ⟨oc0, od0, .func (PySem.W.fnOf "is_integer" "is_integer" (defArgs s_is_integer) (defBody s_is_integer) (defScope s_is_integer) .none kV0 dc0 pm0 an0 cd0 ct0), sl0⟩) (c0 : PySem.W.codeIn K cd0 "is_integer" = true) (k0 : PySem.W.keepIn K (.ref f0) = true)
    {f1 : Addr} {od1 an1 : Option Addr} {sl1 : Array (Option Value)} {oc1 kV1 dc1 pm1 cd1 ct1 : Value}
    (a1 : PySem.W.nsIn K mainGlobals "within" = some (some (.ref f1))) (l1 : K.lookup f1 = some ⟨oc1, od1, .func (PySem.W.fnOf "within" "within" (defArgs s_within) (defBody s_within) (defScope s_within) .none kV1 dc1 pm1 an1 cd1 ct1), sl1⟩) (c1 : PySem.W.codeIn K cd1 "within" = true) (k1 : PySem.W.keepIn K (.ref f1) = true)
    {f2 : Addr} {od2 an2 : Option Addr} {sl2 : Array (Option Value)} {oc2 kV2 dc2 pm2 cd2 ct2 : Value}
    (a2 : PySem.W.nsIn K mainGlobals "check_size" = some (some (.ref f2))) (l2 : K.lookup f2 = some ⟨oc2, od2, .func (PySem.W.fnOf "check_size" "check_size" (defArgs s_check_size) (defBody s_check_size) (defScope s_check_size) .none kV2 dc2 pm2 an2 cd2 ct2), sl2⟩) (c2 : PySem.W.codeIn K cd2 "check_size" = true) (k2 : PySem.W.keepIn K (.ref f2) = true)
    {f3 : Addr} {od3 an3 : Option Addr} {sl3 : Array (Option Value)} {oc3 kV3 dc3 pm3 cd3 ct3 : Value}
    (a3 : PySem.W.nsIn K mainGlobals "is_kind" = some (some (.ref f3))) (l3 : K.lookup f3 = some ⟨oc3, od3, .func (PySem.W.fnOf "is_kind" "is_kind" (defArgs s_is_kind) (defBody s_is_kind) (defScope s_is_kind) .none kV3 dc3 pm3 an3 cd3 ct3), sl3⟩) (c3 : PySem.W.codeIn K cd3 "is_kind" = true) (k3 : PySem.W.keepIn K (.ref f3) = true)
    {f4 : Addr} {od4 an4 : Option Addr} {sl4 : Array (Option Value)} {oc4 kV4 dc4 pm4 cd4 ct4 : Value}
    (a4 : PySem.W.nsIn K mainGlobals "pair_count" = some (some (.ref f4))) (l4 : K.lookup f4 = some ⟨oc4, od4, .func (PySem.W.fnOf "pair_count" "pair_count" (defArgs s_pair_count) (defBody s_pair_count) (defScope s_pair_count) .none kV4 dc4 pm4 an4 cd4 ct4), sl4⟩) (c4 : PySem.W.codeIn K cd4 "pair_count" = true) (k4 : PySem.W.keepIn K (.ref f4) = true)
    {f5 : Addr} {od5 an5 : Option Addr} {sl5 : Array (Option Value)} {oc5 kV5 dc5 pm5 cd5 ct5 : Value}
    (a5 : PySem.W.nsIn K mainGlobals "pair_sum" = some (some (.ref f5))) (l5 : K.lookup f5 = some ⟨oc5, od5, .func (PySem.W.fnOf "pair_sum" "pair_sum" (defArgs s_pair_sum) (defBody s_pair_sum) (defScope s_pair_sum) .none kV5 dc5 pm5 an5 cd5 ct5), sl5⟩) (c5 : PySem.W.codeIn K cd5 "pair_sum" = true) (k5 : PySem.W.keepIn K (.ref f5) = true)
    {f6 : Addr} {od6 an6 : Option Addr} {sl6 : Array (Option Value)} {oc6 kV6 dc6 pm6 cd6 ct6 : Value}
    (a6 : PySem.W.nsIn K mainGlobals "orbit_size" = some (some (.ref f6))) (l6 : K.lookup f6 = some ⟨oc6, od6, .func (PySem.W.fnOf "orbit_size" "orbit_size" (defArgs s_orbit_size) (defBody s_orbit_size) (defScope s_orbit_size) .none kV6 dc6 pm6 an6 cd6 ct6), sl6⟩) (c6 : PySem.W.codeIn K cd6 "orbit_size" = true) (k6 : PySem.W.keepIn K (.ref f6) = true)
    {f7 : Addr} {od7 an7 : Option Addr} {sl7 : Array (Option Value)} {oc7 kV7 dc7 pm7 cd7 ct7 : Value}
    (a7 : PySem.W.nsIn K mainGlobals "kind_count" = some (some (.ref f7))) (l7 : K.lookup f7 = some ⟨oc7, od7, .func (PySem.W.fnOf "kind_count" "kind_count" (defArgs s_kind_count) (defBody s_kind_count) (defScope s_kind_count) .none kV7 dc7 pm7 an7 cd7 ct7), sl7⟩) (c7 : PySem.W.codeIn K cd7 "kind_count" = true) (k7 : PySem.W.keepIn K (.ref f7) = true)
    {f8 : Addr} {od8 an8 : Option Addr} {sl8 : Array (Option Value)} {oc8 kV8 dc8 pm8 cd8 ct8 : Value}
    (a8 : PySem.W.nsIn K mainGlobals "cell_count" = some (some (.ref f8))) (l8 : K.lookup f8 = some ⟨oc8, od8, .func (PySem.W.fnOf "cell_count" "cell_count" (defArgs s_cell_count) (defBody s_cell_count) (defScope s_cell_count) .none kV8 dc8 pm8 an8 cd8 ct8), sl8⟩) (c8 : PySem.W.codeIn K cd8 "cell_count" = true) (k8 : PySem.W.keepIn K (.ref f8) = true)
    {f9 : Addr} {od9 an9 : Option Addr} {sl9 : Array (Option Value)} {oc9 kV9 dc9 pm9 cd9 ct9 : Value}
    (a9 : PySem.W.nsIn K mainGlobals "_law_purl" = some (some (.ref f9))) (l9 : K.lookup f9 = some ⟨oc9, od9, .func (PySem.W.fnOf "_law_purl" "_law_purl" (defArgs s_law_purl) (defBody s_law_purl) (defScope s_law_purl) .none kV9 dc9 pm9 an9 cd9 ct9), sl9⟩) (c9 : PySem.W.codeIn K cd9 "_law_purl" = true) (k9 : PySem.W.keepIn K (.ref f9) = true)
    {f10 : Addr} {od10 an10 : Option Addr} {sl10 : Array (Option Value)} {oc10 kV10 dc10 pm10 cd10 ct10 : Value}
    (a10 : PySem.W.nsIn K mainGlobals "_law_dig" = some (some (.ref f10))) (l10 : K.lookup f10 = some ⟨oc10, od10, .func (PySem.W.fnOf "_law_dig" "_law_dig" (defArgs s_law_dig) (defBody s_law_dig) (defScope s_law_dig) .none kV10 dc10 pm10 an10 cd10 ct10), sl10⟩) (c10 : PySem.W.codeIn K cd10 "_law_dig" = true) (k10 : PySem.W.keepIn K (.ref f10) = true)
    {f11 : Addr} {od11 an11 : Option Addr} {sl11 : Array (Option Value)} {oc11 kV11 dc11 pm11 cd11 ct11 : Value}
    (a11 : PySem.W.nsIn K mainGlobals "_law_far" = some (some (.ref f11))) (l11 : K.lookup f11 = some ⟨oc11, od11, .func (PySem.W.fnOf "_law_far" "_law_far" (defArgs s_law_far) (defBody s_law_far) (defScope s_law_far) .none kV11 dc11 pm11 an11 cd11 ct11), sl11⟩) (c11 : PySem.W.codeIn K cd11 "_law_far" = true) (k11 : PySem.W.keepIn K (.ref f11) = true)
    {f12 : Addr} {od12 an12 : Option Addr} {sl12 : Array (Option Value)} {oc12 kV12 dc12 pm12 cd12 ct12 : Value}
    (a12 : PySem.W.nsIn K mainGlobals "_law_whole" = some (some (.ref f12))) (l12 : K.lookup f12 = some ⟨oc12, od12, .func (PySem.W.fnOf "_law_whole" "_law_whole" (defArgs s_law_whole) (defBody s_law_whole) (defScope s_law_whole) .none kV12 dc12 pm12 an12 cd12 ct12), sl12⟩) (c12 : PySem.W.codeIn K cd12 "_law_whole" = true) (k12 : PySem.W.keepIn K (.ref f12) = true)
    {f13 : Addr} {od13 an13 : Option Addr} {sl13 : Array (Option Value)} {oc13 kV13 dc13 pm13 cd13 ct13 : Value}
    (a13 : PySem.W.nsIn K mainGlobals "_law_sort" = some (some (.ref f13))) (l13 : K.lookup f13 = some ⟨oc13, od13, .func (PySem.W.fnOf "_law_sort" "_law_sort" (defArgs s_law_sort) (defBody s_law_sort) (defScope s_law_sort) .none kV13 dc13 pm13 an13 cd13 ct13), sl13⟩) (c13 : PySem.W.codeIn K cd13 "_law_sort" = true) (k13 : PySem.W.keepIn K (.ref f13) = true)
    {f14 : Addr} {od14 an14 : Option Addr} {sl14 : Array (Option Value)} {oc14 kV14 dc14 pm14 cd14 ct14 : Value}
    (a14 : PySem.W.nsIn K mainGlobals "_law_all" = some (some (.ref f14))) (l14 : K.lookup f14 = some ⟨oc14, od14, .func (PySem.W.fnOf "_law_all" "_law_all" (defArgs s_law_all) (defBody s_law_all) (defScope s_law_all) .none kV14 dc14 pm14 an14 cd14 ct14), sl14⟩) (c14 : PySem.W.codeIn K cd14 "_law_all" = true) (k14 : PySem.W.keepIn K (.ref f14) = true)
    {f15 : Addr} {od15 an15 : Option Addr} {sl15 : Array (Option Value)} {oc15 kV15 dc15 pm15 cd15 ct15 : Value}
    (a15 : PySem.W.nsIn K mainGlobals "_law_right" = some (some (.ref f15))) (l15 : K.lookup f15 = some ⟨oc15, od15, .func (PySem.W.fnOf "_law_right" "_law_right" (defArgs s_law_right) (defBody s_law_right) (defScope s_law_right) .none kV15 dc15 pm15 an15 cd15 ct15), sl15⟩) (c15 : PySem.W.codeIn K cd15 "_law_right" = true) (k15 : PySem.W.keepIn K (.ref f15) = true)
    {f16 : Addr} {od16 an16 : Option Addr} {sl16 : Array (Option Value)} {oc16 kV16 dc16 pm16 cd16 ct16 : Value}
    (a16 : PySem.W.nsIn K mainGlobals "law" = some (some (.ref f16))) (l16 : K.lookup f16 = some ⟨oc16, od16, .func (PySem.W.fnOf "law" "law" (defArgs s_law) (defBody s_law) (defScope s_law) .none kV16 dc16 pm16 an16 cd16 ct16), sl16⟩) (c16 : PySem.W.codeIn K cd16 "law" = true) (k16 : PySem.W.keepIn K (.ref f16) = true)
    (z0 : PySem.W.nsIn K mainGlobals "len" = some none)
    (z1 : PySem.W.nsIn K mainGlobals "isinstance" = some none)
    (z2 : PySem.W.nsIn K mainGlobals "abs" = some none)
    (z3 : PySem.W.nsIn K mainGlobals "min" = some none)
    (z4 : PySem.W.nsIn K mainGlobals "max" = some none)
    (z5 : PySem.W.nsIn K mainGlobals "all" = some none)
    (z6 : PySem.W.nsIn K mainGlobals "sum" = some none)
    (z7 : PySem.W.nsIn K mainGlobals "sorted" = some none)
    (z8 : PySem.W.nsIn K mainGlobals "divmod" = some none)
    (z9 : PySem.W.nsIn K mainGlobals "int" = some none)
    (z10 : PySem.W.nsIn K mainGlobals "bool" = some none)
    (z11 : PySem.W.nsIn K mainGlobals "tuple" = some none)
    (z12 : PySem.W.nsIn K mainGlobals "range" = some none)
    {aK : Addr} {tM : Tok} (gM : PySem.W.nsIn K mainGlobals "MOST_SIZE" = some (some (.int (10 ^ 30) tM))) (gK : PySem.W.nsIn K mainGlobals "KINDS" = some (some (.ref aK))) (rK : kRead K 4 (.ref aK) = some (.tuple kindsD)) :
    ∃ fd : FuncData, (∀ (s : Shared) (v : Value), BindsTo s fd ⟨[v], []⟩ [("_law_script", v)]) ∧ ∀ base : Heap, K.In base → base.Ns mainGlobals mg → FnOk l.prog w K mg base CX0 6 fa fd ["_law_script"] (sp_law K) := by
  have e := hfa.symm.trans (PySem.W.mg_of X Gn a16)
  cases e
  have F0 := fun_mk (st := s_is_integer) l0 c0 k0
  have b0 := F0.binds (ps := ["value"]) fun _ _ _ _ _ _ us hl => match us, hl with | [_], _ => rfl
  have F1 := fun_mk (st := s_within) l1 c1 k1
  have b1 := F1.binds (ps := ["value", "least", "most"]) fun _ _ _ _ _ _ us hl => match us, hl with | [_, _, _], _ => rfl
  have F2 := fun_mk (st := s_check_size) l2 c2 k2
  have b2 := F2.binds (ps := ["value"]) fun _ _ _ _ _ _ us hl => match us, hl with | [_], _ => rfl
  have F3 := fun_mk (st := s_is_kind) l3 c3 k3
  have b3 := F3.binds (ps := ["value"]) fun _ _ _ _ _ _ us hl => match us, hl with | [_], _ => rfl
  have F4 := fun_mk (st := s_pair_count) l4 c4 k4
  have b4 := F4.binds (ps := ["total", "kind"]) fun _ _ _ _ _ _ us hl => match us, hl with | [_, _], _ => rfl
  have F5 := fun_mk (st := s_pair_sum) l5 c5 k5
  have b5 := F5.binds (ps := ["most", "kind"]) fun _ _ _ _ _ _ us hl => match us, hl with | [_, _], _ => rfl
  have F6 := fun_mk (st := s_orbit_size) l6 c6 k6
  have b6 := F6.binds (ps := ["kind"]) fun _ _ _ _ _ _ us hl => match us, hl with | [_], _ => rfl
  have F7 := fun_mk (st := s_kind_count) l7 c7 k7
  have b7 := F7.binds (ps := ["size", "kind"]) fun _ _ _ _ _ _ us hl => match us, hl with | [_, _], _ => rfl
  have F8 := fun_mk (st := s_cell_count) l8 c8 k8
  have b8 := F8.binds (ps := ["size", "kind"]) fun _ _ _ _ _ _ us hl => match us, hl with | [_, _], _ => rfl
  have F9 := fun_mk (st := s_law_purl) l9 c9 k9
  have b9 := F9.binds (ps := ["_law_script", "_law_spot"]) fun _ _ _ _ _ _ us hl => match us, hl with | [_, _], _ => rfl
  have F10 := fun_mk (st := s_law_dig) l10 c10 k10
  have b10 := F10.binds (ps := ["_law_purl_here", "_law_many"]) fun _ _ _ _ _ _ us hl => match us, hl with | [_, _], _ => rfl
  have F11 := fun_mk (st := s_law_far) l11 c11 k11
  have b11 := F11.binds (ps := ["_law_purl_here"]) fun _ _ _ _ _ _ us hl => match us, hl with | [_], _ => rfl
  have F12 := fun_mk (st := s_law_whole) l12 c12 k12
  have b12 := F12.binds (ps := ["_law_value"]) fun _ _ _ _ _ _ us hl => match us, hl with | [_], _ => rfl
  have F13 := fun_mk (st := s_law_sort) l13 c13 k13
  have b13 := F13.binds (ps := ["_law_size", "_law_row", "_law_column"]) fun _ _ _ _ _ _ us hl => match us, hl with | [_, _, _], _ => rfl
  have F14 := fun_mk (st := s_law_all) l14 c14 k14
  have b14 := F14.binds (ps := []) fun _ _ _ _ _ _ us hl => match us, hl with | [], _ => rfl
  have F15 := fun_mk (st := s_law_right) l15 c15 k15
  have b15 := F15.binds (ps := ["_law_purl_here"]) fun _ _ _ _ _ _ us hl => match us, hl with | [_], _ => rfl
  have F16 := fun_mk (st := s_law) l16 c16 k16
  have B : Blt mg := ⟨PySem.W.mg_none_of X Gn z0, PySem.W.mg_none_of X Gn z1, PySem.W.mg_none_of X Gn z2, PySem.W.mg_none_of X Gn z3, PySem.W.mg_none_of X Gn z4, PySem.W.mg_none_of X Gn z5, PySem.W.mg_none_of X Gn z6, PySem.W.mg_none_of X Gn z7, PySem.W.mg_none_of X Gn z8, PySem.W.mg_none_of X Gn z9, PySem.W.mg_none_of X Gn z10, PySem.W.mg_none_of X Gn z11, PySem.W.mg_none_of X Gn z12⟩
  have G : Glb K mg := ⟨⟨_, PySem.W.mg_of X Gn gM⟩, ⟨_, PySem.W.mg_of X Gn gK, fun H => kRead_ref rK H⟩⟩
  refine ⟨PySem.W.fnOf "law" "law" (defArgs s_law) (defBody s_law) (defScope s_law) .none kV16 dc16 pm16 an16 cd16 ct16, fun s v => .of_eq rfl, fun base _ _ => ?_⟩
  have d_is_integer : DefOk l.prog w K mg base 1 "is_integer" ["value"] (sp_is_integer K) := ok_is_integer B G ⟨f0, _, F0, b0, PySem.W.mg_of X Gn a0⟩ 
  have d_within : DefOk l.prog w K mg base 2 "within" ["value", "least", "most"] (sp_within K) := ok_within B G ⟨f1, _, F1, b1, PySem.W.mg_of X Gn a1⟩ d_is_integer
  have d_check_size : DefOk l.prog w K mg base 3 "check_size" ["value"] sp_check_size := ok_check_size B G ⟨f2, _, F2, b2, PySem.W.mg_of X Gn a2⟩ d_within
  have d_is_kind : DefOk l.prog w K mg base 2 "is_kind" ["value"] (sp_is_kind K) := ok_is_kind B G ⟨f3, _, F3, b3, PySem.W.mg_of X Gn a3⟩ d_is_integer
  have d_pair_count : DefOk l.prog w K mg base 1 "pair_count" ["total", "kind"] (sp_pair_count K) := ok_pair_count B G ⟨f4, _, F4, b4, PySem.W.mg_of X Gn a4⟩ 
  have d_pair_sum : DefOk l.prog w K mg base 1 "pair_sum" ["most", "kind"] (sp_pair_sum K) := ok_pair_sum B G ⟨f5, _, F5, b5, PySem.W.mg_of X Gn a5⟩ 
  have d_orbit_size : DefOk l.prog w K mg base 1 "orbit_size" ["kind"] (sp_orbit_size K) := ok_orbit_size B G ⟨f6, _, F6, b6, PySem.W.mg_of X Gn a6⟩ 
  have d_kind_count : DefOk l.prog w K mg base 2 "kind_count" ["size", "kind"] (sp_kind_count K) := ok_kind_count B G ⟨f7, _, F7, b7, PySem.W.mg_of X Gn a7⟩ d_orbit_size d_pair_sum d_pair_count
  have d_cell_count : DefOk l.prog w K mg base 4 "cell_count" ["size", "kind"] (sp_cell_count K) := ok_cell_count B G ⟨f8, _, F8, b8, PySem.W.mg_of X Gn a8⟩ d_check_size d_is_kind d_kind_count
  have d_law_purl : DefOk l.prog w K mg base 1 "_law_purl" ["_law_script", "_law_spot"] (sp_law_purl K) := ok_law_purl B G ⟨f9, _, F9, b9, PySem.W.mg_of X Gn a9⟩ 
  have d_law_dig : DefOk l.prog w K mg base 1 "_law_dig" ["_law_purl_here", "_law_many"] sp_law_dig := ok_law_dig B G ⟨f10, _, F10, b10, PySem.W.mg_of X Gn a10⟩ 
  have d_law_far : DefOk l.prog w K mg base 2 "_law_far" ["_law_purl_here"] sp_law_far := ok_law_far B G ⟨f11, _, F11, b11, PySem.W.mg_of X Gn a11⟩ d_law_dig
  have d_law_whole : DefOk l.prog w K mg base 1 "_law_whole" ["_law_value"] (sp_law_whole K) := ok_law_whole B G ⟨f12, _, F12, b12, PySem.W.mg_of X Gn a12⟩ 
  have d_law_sort : DefOk l.prog w K mg base 1 "_law_sort" ["_law_size", "_law_row", "_law_column"] (sp_law_sort K) := ok_law_sort B G ⟨f13, _, F13, b13, PySem.W.mg_of X Gn a13⟩ 
  have d_law_all : DefOk l.prog w K mg base 1 "_law_all" [] sp_law_all := ok_law_all B G ⟨f14, _, F14, b14, PySem.W.mg_of X Gn a14⟩ 
  have d_law_right : DefOk l.prog w K mg base 5 "_law_right" ["_law_purl_here"] sp_law_right := ok_law_right B G ⟨f15, _, F15, b15, PySem.W.mg_of X Gn a15⟩ d_law_dig d_law_sort d_law_all d_cell_count d_law_whole d_law_far
  exact ok_law B G F16 d_law_right d_law_purl
end Sq
open PySem PySem.W PyProof.Rows
set_option maxRecDepth 100000 in
set_option maxHeartbeats 0 in
theorem PySem.Challenge.cw_squareloops_k27_cells_counted_holds : PySem.Challenge.rw_squareloops_k27_cells_counted.Holds := by
  w_on; o_law; k_head; (case hw => w_witness2)
  k_fill
  refine L2.walk_of (l := PySem.Challenge.rw_squareloops_k27_cells_counted) (n := 63) (k := 6) (x := "_law_script") (CX := fun _ => L2.CX0) (sp := fun w => Sq.sp_law _) rfl (by decide) rfl ⟨rfl, by decide, by decide⟩ (fun w h Y => PySem.W.kIn_of Y) ?F (fun _ _ a ns hl _ hS => ⟨a, ns, rfl, hS, hl, fun _ => rfl⟩) (fun _ _ _ _ _ h => h)
  case F =>
    intro w mg fa h KX G hmg
    refine' Sq.all_mk KX G hmg ?a0 ?l0 ?c0 ?k0 ?a1 ?l1 ?c1 ?k1 ?a2 ?l2 ?c2 ?k2 ?a3 ?l3 ?c3 ?k3 ?a4 ?l4 ?c4 ?k4 ?a5 ?l5 ?c5 ?k5 ?a6 ?l6 ?c6 ?k6 ?a7 ?l7 ?c7 ?k7 ?a8 ?l8 ?c8 ?k8 ?a9 ?l9 ?c9 ?k9 ?a10 ?l10 ?c10 ?k10 ?a11 ?l11 ?c11 ?k11 ?a12 ?l12 ?c12 ?k12 ?a13 ?l13 ?c13 ?k13 ?a14 ?l14 ?c14 ?k14 ?a15 ?l15 ?c15 ?k15 ?a16 ?l16 ?c16 ?k16 ?z0 ?z1 ?z2 ?z3 ?z4 ?z5 ?z6 ?z7 ?z8 ?z9 ?z10 ?z11 ?z12 ?gM ?gK ?rK
    (case a0 => k_is); (case l0 => k_is); (case c0 => k_is); (case k0 => k_is)
    (case a1 => k_is); (case l1 => k_is); (case c1 => k_is); (case k1 => k_is)
    (case a2 => k_is); (case l2 => k_is); (case c2 => k_is); (case k2 => k_is)
    (case a3 => k_is); (case l3 => k_is); (case c3 => k_is); (case k3 => k_is)
    (case a4 => k_is); (case l4 => k_is); (case c4 => k_is); (case k4 => k_is)
    (case a5 => k_is); (case l5 => k_is); (case c5 => k_is); (case k5 => k_is)
    (case a6 => k_is); (case l6 => k_is); (case c6 => k_is); (case k6 => k_is)
    (case a7 => k_is); (case l7 => k_is); (case c7 => k_is); (case k7 => k_is)
    (case a8 => k_is); (case l8 => k_is); (case c8 => k_is); (case k8 => k_is)
    (case a9 => k_is); (case l9 => k_is); (case c9 => k_is); (case k9 => k_is)
    (case a10 => k_is); (case l10 => k_is); (case c10 => k_is); (case k10 => k_is)
    (case a11 => k_is); (case l11 => k_is); (case c11 => k_is); (case k11 => k_is)
    (case a12 => k_is); (case l12 => k_is); (case c12 => k_is); (case k12 => k_is)
    (case a13 => k_is); (case l13 => k_is); (case c13 => k_is); (case k13 => k_is)
    (case a14 => k_is); (case l14 => k_is); (case c14 => k_is); (case k14 => k_is)
    (case a15 => k_is); (case l15 => k_is); (case c15 => k_is); (case k15 => k_is)
    (case a16 => k_is); (case l16 => k_is); (case c16 => k_is); (case k16 => k_is)
    (case z0 => k_is)
    (case z1 => k_is)
    (case z2 => k_is)
    (case z3 => k_is)
    (case z4 => k_is)
    (case z5 => k_is)
    (case z6 => k_is)
    (case z7 => k_is)
    (case z8 => k_is)
    (case z9 => k_is)
    (case z10 => k_is)
    (case z11 => k_is)
    (case z12 => k_is)
    (case gM => k_is)
    (case gK => k_is)
    (case rK => exact rfl)
