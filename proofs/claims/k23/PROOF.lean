import PyProof.Rows.All
import Wide.All
import OpenK.AllK
import Wide.FinOn
import HandS.ForMost
import HandS.IsInst
import HandS.Wide
import HandS.Deep
import HandS.NoneIn
import HandS.TupSets
import PySem.Challenge.RW_squareloops_k23_images_of_cells
set_option Elab.async false
set_option linter.all false
set_option maxRecDepth 100000
set_option maxHeartbeats 4000000
local macro_rules | `(tactic| walk_at "ob") => `(tactic| first | omega | decide | exact ⟨by omega, by omega⟩ | exact ⟨by decide, by decide⟩ | exact Or.inl ⟨by omega, by omega⟩ | exact Or.inr ⟨by omega, by omega⟩ | exact ⟨by decide, by decide, by decide⟩ | (show (0 : Int) < _; decide))
namespace Sq
open PySem PySem.Spec PyProof.Rows L2
/-! ### common words -/
theorem bt_len : bootBuiltins "len" = some (.builtin "len") := by decide +kernel
theorem bt_isinstance : bootBuiltins "isinstance" = some (.builtin "isinstance") := by decide +kernel
theorem bt_abs : bootBuiltins "abs" = some (.builtin "abs") := by decide +kernel
theorem bt_min : bootBuiltins "min" = some (.builtin "min") := by decide +kernel
theorem bt_max : bootBuiltins "max" = some (.builtin "max") := by decide +kernel
theorem bt_all : bootBuiltins "all" = some (.builtin "all") := by decide +kernel
theorem bt_any : bootBuiltins "any" = some (.builtin "any") := by decide +kernel
theorem bt_sum : bootBuiltins "sum" = some (.builtin "sum") := by decide +kernel
theorem bt_sorted : bootBuiltins "sorted" = some (.builtin "sorted") := by decide +kernel
theorem bt_divmod : bootBuiltins "divmod" = some (.builtin "divmod") := by decide +kernel
theorem bt_repr : bootBuiltins "repr" = some (.builtin "repr") := by decide +kernel
theorem bt_int : bootBuiltins "int" = some (.type "int") := by decide +kernel
theorem bt_bool : bootBuiltins "bool" = some (.type "bool") := by decide +kernel
theorem bt_tuple : bootBuiltins "tuple" = some (.type "tuple") := by decide +kernel
theorem bt_list : bootBuiltins "list" = some (.type "list") := by decide +kernel
theorem bt_set : bootBuiltins "set" = some (.type "set") := by decide +kernel
theorem bt_dict : bootBuiltins "dict" = some (.type "dict") := by decide +kernel
theorem bt_str : bootBuiltins "str" = some (.type "str") := by decide +kernel

theorem same_upd {H : Hp} {p : Addr} {o : HO} (h : H p = none) : Same H (upd H p o) := fun b x e => by
  rw [upd_ne (ne_of_none e h)]
  exact e
theorem seqT {K : PySem.W.Frag} {H H' : Hp} {a : Addr} {xs : List V} (e : Same H H') (h : SqT K H a xs) : SqT K H' a xs := by
  rcases h with (h | ⟨o, h⟩) | h
  · exact .inl (.inl (e _ _ h))
  · exact .inl (.inr ⟨o, e _ _ h⟩)
  · exact .inr h
theorem seqL {K : PySem.W.Frag} {H H' : Hp} {a : Addr} {xs : List V} (e : Same H H') (h : SqL K H a xs) : SqL K H' a xs := e.seq h
theorem SqT.new {K : PySem.W.Frag} {H : Hp} {p : Addr} {xs : List V} : SqT K (upd H p (.tup xs)) p xs := .inl (.inl upd_same)
theorem SqL.new {K : PySem.W.Frag} {H : Hp} {p : Addr} {xs : List V} : SqL K (upd H p (.lst xs)) p xs := .inl (.inl upd_same)
/-- all stands but the list at p -/
def SameX (p : Addr) (H H' : Hp) : Prop := ∀ b o, b ≠ p → H b = some o → H' b = some o
theorem SameX.of {p : Addr} {H H' : Hp} (e : Same H H') : SameX p H H' := fun b o _ h => e b o h
theorem SameX.refl (p : Addr) (H : Hp) : SameX p H H := fun _ _ _ h => h
theorem SameX.trans {p : Addr} {H H1 H2 : Hp} (a : SameX p H H1) (b : SameX p H1 H2) : SameX p H H2 := fun c o n h => b c o n (a c o n h)
theorem SameX.upd {p : Addr} {H : Hp} {o : HO} : SameX p H (upd H p o) := fun b x n e => by
  rw [upd_ne n]
  exact e
theorem SameX.same {p : Addr} {H H1 H' : Hp} (n : H p = none) (a : Same H H1) (e : SameX p H1 H') : Same H H' := fun b o h =>
  e b o (ne_of_none h n) (a b o h)
theorem SameX.newL {p : Addr} {H H' : Hp} {o : HO} (n : H p = none) (e : SameX p (L2.upd H p o) H') : Same H H' := e.same n (same_upd n)
theorem xseqT {K : PySem.W.Frag} {p : Addr} {H H' : Hp} {a : Addr} {xs ys : List V} (e : SameX p H H') (hp : H p = some (.lst ys)) (h : SqT K H a xs) : SqT K H' a xs := by
  rcases h with (h | ⟨o, h⟩) | h
  · exact .inl (.inl (e _ _ (ne_of h hp (by intro z; cases z)) h))
  · exact .inl (.inr ⟨o, e _ _ (ne_of h hp (by intro z; cases z)) h⟩)
  · exact .inr h
theorem xseqL {K : PySem.W.Frag} {p : Addr} {H H' : Hp} {a : Addr} {xs ys : List V} (e : SameX p H H') (n : a ≠ p) (hp : H p = some (.lst ys)) (h : SqL K H a xs) : SqL K H' a xs := by
  rcases h with (h | ⟨o, h⟩) | h
  · exact .inl (.inl (e _ _ n h))
  · exact .inl (.inr ⟨o, e _ _ n h⟩)
  · exact .inr h
theorem iteT' {c : Bool} {A B : Prop} (e : c = true) (h : A) : if c = true then A else B := by
  rw [if_pos e]
  exact h
theorem iteF' {c : Bool} {A B : Prop} (e : c = false) (h : B) : if c = true then A else B := by
  rw [if_neg (by rw [e]; decide)]
  exact h

theorem qi {Q : VK} {H : Hp} {x y : Int} (q : Q (.int x) H) (e : y = x) : Q (.int y) H := e ▸ q
theorem qb {Q : VK} {H : Hp} {x y : Bool} (q : Q (.bl x) H) (e : y = x) : Q (.bl y) H := e ▸ q
/-- a def of the top that keeps a promise -/
def DefOk (P : Program) (w : World) (K : PySem.W.Frag) (mg : Str → Option Value) (base : Heap) (k : Nat) (x : Str) (ps : List Str) (sp : Sp) : Prop :=
  ∃ (f : Addr) (fd : FuncData), PySem.W.keepIn K (.ref f) = true ∧ Binds K fd ps [] ∧ mg x = some (.ref f) ∧ FnOk P w K mg base CX0 k f fd ps sp
/-- a def of the top, where it stands -/
def DefAt (K : PySem.W.Frag) (mg : Str → Option Value) (x : Str) (st : Stmt) (ps : List Str) : Prop :=
  ∃ (f : Addr) (fd : FuncData), Fun K x x st f fd ∧ Binds K fd ps [] ∧ mg x = some (.ref f)
section
variable {X : Cx} {k : Nat} {x : Str} {ps : List Str} {sp : Sp}
theorem pe_callD {e : Expr} {es : List Expr} {t : TA} {p pos : Pos} (D : DefOk X.prog X.w X.K X.mg X.base k x ps sp) (hr : Room k X.A) (hg : Gl X x)
    (ha : PA X (e :: es) t) (hdb : (x == ("__debug__" : Str)) = false := by decide) (he : starEach (e :: es) X.env = (false, eval e X.env) :: starEach es X.env := by rfl) (hpl : (backTo pos (starEach es X.env)).any (·.1) = false := by rfl) :
    PE X (.Call (.Name x p) (e :: es) [] pos) (tCall sp [] E0 t) := by
  obtain ⟨f, fd, hk, hb, hm, F⟩ := D
  exact pe_call F hr hg hm hk hb .nil pass0 ha hdb he hpl
theorem pe_callD0 {p pos : Pos} (D : DefOk X.prog X.w X.K X.mg X.base k x ps sp) (hr : Room k X.A) (hg : Gl X x) (hdb : (x == ("__debug__" : Str)) = false := by decide) :
    PE X (.Call (.Name x p) [] [] pos) (tCall sp [] E0 tNil) := by
  obtain ⟨f, fd, hk, hb, hm, F⟩ := D
  exact pe_call0 F hr hg hm hk hb .nil pass0 hdb
end
section
variable {P : Program} {w : World} {K : PySem.W.Frag} {mg : Str → Option Value} {base : Heap}
/-- the rule for a def of the top -/
theorem def_ok {x : Str} {st : Stmt} {N ps : List Str} {k : Nat} {sp : Sp} (D : DefAt K mg x st ps) (S : FnScope N ps (defScope st)) (len : ∀ vs H Q E, sp vs H Q E → vs.length = ps.length)
    (hbody : ∀ (f : Addr) (cdv : Value) (A : Around) (outer : List Env) (s : Shared) (H : Hp) (vs : List V) (Q : VK) (E : XK), Room k (A.deeper (envOfC x (defScope st) s.heap.objs.size f cdv)) → sp vs H Q E →
      ∃ t, PSs (cxOf CX0 P w K mg base N x (defScope st) f cdv A outer s H E).nox (defBody st) t ∧ t { nx := fun _ H' => Q .non H', rt := Q } (start N vs) H) : DefOk P w K mg base (k + 1) x ps sp := by
  obtain ⟨f, fd, F, b, g⟩ := D
  exact ⟨f, fd, F.kp, b, g, F.ok S len (hbody f)⟩
end
/-! ### kinds of values -/
def tyNames : List String := ["NoneType", "bool", "int", "str", "list", "tuple", "dict", "set"]
theorem kI {K : PySem.W.Frag} {t : String} (h : t ∈ tyNames) : PySem.W.kitOne K (.type t) (.type "int") = some (decide (t = "int" ∨ t = "bool")) := by
  simp only [tyNames, List.mem_cons, List.not_mem_nil, or_false] at h
  rcases h with rfl | rfl | rfl | rfl | rfl | rfl | rfl | rfl <;> exact kit_ty (by decide +kernel)
theorem kB {K : PySem.W.Frag} {t : String} (h : t ∈ tyNames) : PySem.W.kitOne K (.type t) (.type "bool") = some (decide (t = "bool")) := by
  simp only [tyNames, List.mem_cons, List.not_mem_nil, or_false] at h
  rcases h with rfl | rfl | rfl | rfl | rfl | rfl | rfl | rfl <;> exact kit_ty (by decide +kernel)
theorem kT {K : PySem.W.Frag} {t : String} (h : t ∈ tyNames) : PySem.W.kitOne K (.type t) (.type "tuple") = some (decide (t = "tuple")) := by
  simp only [tyNames, List.mem_cons, List.not_mem_nil, or_false] at h
  rcases h with rfl | rfl | rfl | rfl | rfl | rfl | rfl | rfl <;> exact kit_ty (by decide +kernel)
theorem kS {K : PySem.W.Frag} {t : String} (h : t ∈ tyNames) : PySem.W.kitOne K (.type t) (.type "str") = some (decide (t = "str")) := by
  simp only [tyNames, List.mem_cons, List.not_mem_nil, or_false] at h
  rcases h with rfl | rfl | rfl | rfl | rfl | rfl | rfl | rfl <;> exact kit_ty (by decide +kernel)
theorem ty_int {K : PySem.W.Frag} {H : Hp} (i : Int) : TyX K H (.int i) (.type "int") := .base (.int i)
theorem ty_bl {K : PySem.W.Frag} {H : Hp} (i : Bool) : TyX K H (.bl i) (.type "bool") := .base (.bl i)
theorem ty_tup {K : PySem.W.Frag} {H : Hp} {a : Addr} {xs : List V} (h : SqT K H a xs) : TyX K H (.ref a) (.type "tuple") := by
  rcases h with (h | ⟨o, h⟩) | ⟨o, its, n, h, c, _⟩
  · exact .base (.tup h)
  · exact .fTuple h
  · exact .kTuple h c
/-! ### data that the top has written -/
def kRead (K : PySem.W.Frag) : Nat → Value → Option PyData
  | 0, _ => none
  | _ + 1, .none => some .none
  | _ + 1, .bool b => some (.bool b)
  | _ + 1, .int i _ => some (.int i)
  | _ + 1, .str x _ => some (.str x)
  | n + 1, .ref a => match K.lookup a with
    | some o => match o.cls, o.data with
      | .type c, .seq its _ => if c = "tuple" ∧ its.size ≤ sizeLine then (its.toList.mapM (kRead K n)).map .tuple else none
      | _, _ => none
    | none => none
  | _ + 1, _ => none
theorem kRead_list {K : PySem.W.Frag} {n : Nat} (ih : ∀ v d, kRead K n v = some d → ∃ x, RelV x v ∧ ∀ H, Dp K H x d) :
    ∀ (us : List Value) (ds : List PyData), us.mapM (kRead K n) = some ds → ∃ xs, Vals xs us ∧ ∀ H, DpAll K H xs ds
  | [], ds, h => by
    simp only [List.mapM_nil] at h
    cases h
    exact ⟨[], .nil, fun H => .nil⟩
  | u :: us, ds, h => by
    simp only [List.mapM_cons] at h
    cases e : kRead K n u with
    | none => rw [e] at h; cases h
    | some d =>
      rw [e] at h
      cases e2 : us.mapM (kRead K n) with
      | none => rw [e2] at h; cases h
      | some ds2 =>
        rw [e2] at h
        cases h
        obtain ⟨x, r, p⟩ := ih u d e
        obtain ⟨xs, rs, ps⟩ := kRead_list ih us ds2 e2
        exact ⟨x :: xs, .cons r rs, fun H => .cons (p H) (ps H)⟩
theorem kRead_ok {K : PySem.W.Frag} : ∀ (n : Nat) (v : Value) (d : PyData), kRead K n v = some d → ∃ x, RelV x v ∧ ∀ H, Dp K H x d
  | 0, _, _, h => by cases h
  | n + 1, v, d, h => by
    cases v with
    | none => cases h; exact ⟨.non, rfl, fun H => .non⟩
    | bool b => cases h; exact ⟨.bl b, rfl, fun H => .bl b⟩
    | int i t => cases h; exact ⟨.int i, ⟨t, rfl⟩, fun H => .int i⟩
    | str x t => cases h; exact ⟨.str x, ⟨t, rfl⟩, fun H => .str x⟩
    | ref a =>
      unfold kRead at h
      split at h
      · rename_i o ho
        split at h
        · rename_i c its m hc hd
          split at h
          · rename_i hz
            obtain ⟨hz1, hz2⟩ := hz
            subst hz1
            cases e : its.toList.mapM (kRead K n) with
            | none => rw [e] at h; cases h
            | some ds =>
              rw [e] at h
              cases h
              obtain ⟨xs, rs, ps⟩ := kRead_list (kRead_ok n) _ _ e
              exact ⟨.ref a, rfl, fun H => .tup (.inr ⟨o, its, m, ho, hc, hd, hz2, rs⟩) (ps H)⟩
          · cases h
        · cases h
      · cases h
    | _ => cases h
theorem kRead_ref {K : PySem.W.Frag} {n : Nat} {a : Addr} {d : PyData} (h : kRead K n (.ref a) = some d) (H : Hp) : Dp K H (.ref a) d := by
  obtain ⟨x, r, p⟩ := kRead_ok n _ _ h
  cases x <;> simp only [L2.RelV, reduceCtorEq, exists_false, Value.ref.injEq] at r
  subst r
  exact p H
/-! ### the law's purl -/
def Prl (H : Hp) (p : Addr) (m o : Int) : Prop := H p = some (.lst [.int m, .int o]) ∧ 0 ≤ m ∧ m < 2147483629 ∧ 0 ≤ o
theorem Prl.same {H H' : Hp} {p : Addr} {m o : Int} (e : Same H H') (h : Prl H p m o) : Prl H' p m o := ⟨e _ _ h.1, h.2⟩
theorem neF {x y : V} (e : x = y) : (!decide (x = y)) = false := by rw [decide_eq_true e]; rfl
theorem eqF {x y : V} (e : x ≠ y) : decide (x = y) = false := decide_eq_false e
theorem all_rep (n : Nat) : (List.replicate n true).all id = true := by
  rw [List.all_eq_true]
  intro x hx
  rw [List.eq_of_mem_replicate hx]
  rfl
section
variable {X : Cx}
theorem call_min2N (hc : X.calm = true) : CallR X (.builtin "min") (fun xs H Q => ∃ i j, xs = [.int i, .int j] ∧ ∀ r, r ≤ i → r ≤ j → (r = i ∨ r = j) → Q (.int r) H) := by
  intro pins s σ H vs us Q I r ⟨i, j, e, h⟩
  refine call_min2 hc pins s σ H vs us Q I r ⟨i, j, e, h _ ?_ ?_ ?_⟩ <;> split <;> omega
theorem call_max2N (hc : X.calm = true) : CallR X (.builtin "max") (fun xs H Q => ∃ i j, xs = [.int i, .int j] ∧ ∀ r, i ≤ r → j ≤ r → (r = i ∨ r = j) → Q (.int r) H) := by
  intro pins s σ H vs us Q I r ⟨i, j, e, h⟩
  refine call_max2 hc pins s σ H vs us Q I r ⟨i, j, e, h _ ?_ ?_ ?_⟩ <;> split <;> omega
theorem op_powN : OpR X (binaryOp .Pow) (fun x y H Q => ∃ i j, x = .int i ∧ y = .int j ∧ CPow i j ∧ ∀ r, r = i ^ j.toNat → Q (.int r) H) := by
  intro pins s σ H x y v u Q I rx ry ⟨i, j, e1, e2, hc, h⟩
  exact op_pow pins s σ H x y v u Q I rx ry ⟨i, j, e1, e2, hc, h _ rfl⟩
def rInDT (K : PySem.W.Frag) : R2 := fun x y H Q => ∃ d ds, Dp K H x d ∧ Dp K H y (.tuple ds) ∧ SeqAt.shaped d = true ∧ SeqAt.shaped (.tuple ds) = true ∧ Q (.bl (ds.any fun z => PyData.eqv z d)) H
theorem op_inDT (hu : X.A.units + 65 < cLine) : OpR X (compareOp .In) (rInDT X.K) := by
  intro pins s σ H x y v u Q I rx ry h
  obtain ⟨d, ds, hd, he, sd, se, q⟩ := h
  obtain ⟨as, r1⟩ := Dp.reads I d x v hd rx
  obtain ⟨bs, r2⟩ := Dp.reads I (.tuple ds) y u he ry
  exact SeqAt.in_tuple_reads r2 r1 (SeqAt.canLay_of_shaped se) (SeqAt.canLay_of_shaped sd) (room_in_shaped sd hu) ⟨.bl _, H, I, rfl, q⟩
end
theorem hu65 {A : Around} {k : Nat} (hr : Room k A) : A.units + 65 < cLine := by
  have := hr.un
  omega
/-! ### sorting, plain -/
def ins (x : Int) : List Int → List Int
  | [] => [x]
  | y :: r => if x ≤ y then x :: y :: r else y :: ins x r
def isort : List Int → List Int
  | [] => []
  | x :: r => ins x (isort r)
theorem ins_perm (x : Int) : ∀ l : List Int, (ins x l).Perm (x :: l)
  | [] => .refl _
  | y :: r => by
    unfold ins
    split
    · exact .refl _
    · exact ((ins_perm x r).cons y).trans (.swap x y r)
theorem isort_perm : ∀ l : List Int, (isort l).Perm l
  | [] => .refl _
  | x :: r => (ins_perm x (isort r)).trans ((isort_perm r).cons x)
theorem ins_sorted (x : Int) : ∀ l : List Int, l.Pairwise (· ≤ ·) → (ins x l).Pairwise (· ≤ ·)
  | [], _ => by
    unfold ins
    exact List.pairwise_singleton _ _
  | y :: r, h => by
    have h' := List.pairwise_cons.mp h
    unfold ins
    split
    · rename_i hx
      refine List.pairwise_cons.mpr ⟨fun z hz => ?_, h⟩
      rcases List.mem_cons.mp hz with rfl | hz
      · exact hx
      · exact Int.le_trans hx (h'.1 z hz)
    · rename_i hx
      refine List.pairwise_cons.mpr ⟨fun z hz => ?_, ins_sorted x r h'.2⟩
      rcases List.mem_cons.mp ((ins_perm x r).mem_iff.mp hz) with rfl | hz
      · omega
      · exact h'.1 z hz
theorem isort_sorted : ∀ l : List Int, (isort l).Pairwise (· ≤ ·)
  | [] => .nil
  | x :: r => ins_sorted x _ (isort_sorted r)
theorem sort_eq {a l : List Int} (hp : a.Perm l) (ha : a.Pairwise (· ≤ ·)) : isort l = a :=
  List.Perm.eq_of_pairwise (fun x y _ _ h1 h2 => Int.le_antisymm h1 h2) (isort_sorted l) ha ((isort_perm l).trans hp.symm)
theorem isort_same {a b : List Int} (hp : a.Perm b) : isort a = isort b :=
  sort_eq ((isort_perm b).trans hp.symm) (isort_sorted b)
theorem len4 {l : List Int} (h : l.length = 4) : ∃ a b c d, l = [a, b, c, d] := by
  match l, h with
  | [a, b, c, d], _ => exact ⟨a, b, c, d, rfl⟩
theorem ins_succ (x : Int) : ∀ l : List Int, ins (x + 1) (l.map (· + 1)) = (ins x l).map (· + 1)
  | [] => rfl
  | y :: r => by
    have e1 : ∀ (a b : Int) (s : List Int), ins a (b :: s) = if a ≤ b then a :: b :: s else b :: ins a s := fun _ _ _ => rfl
    rw [List.map_cons, e1, e1]
    by_cases h : x ≤ y
    · rw [if_pos h, if_pos (by omega)]; rfl
    · rw [if_neg h, if_neg (by omega), ins_succ x r]; rfl
theorem isort_succ : ∀ l : List Int, isort (l.map (· + 1)) = (isort l).map (· + 1)
  | [] => rfl
  | x :: r => by
    show ins (x + 1) (isort (r.map (· + 1))) = _
    rw [isort_succ r, ins_succ]
    rfl
/-! ### the kind of a cell -/
def cutL (l : List Int) : Int × Int × Int := match l with
  | [a, b, c, _] => (if 1 < a then 1 else a, if 2 < b - a then 2 else b - a, if 3 < c - b then 3 else c - b)
  | _ => (0, 0, 0)
def kd (n r c : Int) : Int × Int × Int := cutL (isort [r, c, n - 1 - r, n - 1 - c])
theorem kd_of {n r c x1 x2 x3 x4 : Int} (h : isort [r, c, n - 1 - r, n - 1 - c] = [x1, x2, x3, x4]) :
    kd n r c = (if 1 < x1 then 1 else x1, if 2 < x2 - x1 then 2 else x2 - x1, if 3 < x3 - x2 then 3 else x3 - x2) := by
  unfold kd
  rw [h]
  rfl
def cells8 (n r c : Int) : List (Int × Int) := [(r, c), (c, r), (r, n - 1 - c), (n - 1 - c, r), (n - 1 - r, c), (c, n - 1 - r), (n - 1 - r, n - 1 - c), (n - 1 - c, n - 1 - r)]
theorem p4a (a b c d : Int) : [b, a, d, c].Perm [a, b, c, d] := (List.Perm.swap a b [d, c]).trans ((List.Perm.swap c d []).cons b |>.cons a)
theorem p4b (a b c d : Int) : [a, d, c, b].Perm [a, b, c, d] := by
  refine .cons a ?_
  exact ((List.Perm.swap c d [b])).trans (((List.Perm.swap b d []).cons c).trans (.swap b c [d]))
theorem p4c (a b c d : Int) : [c, b, a, d].Perm [a, b, c, d] :=
  (List.Perm.swap b c [a, d]).trans (((List.Perm.swap a c [d]).cons b).trans (.swap a b [c, d]))
theorem kd_image {n r c : Int} {z : Int × Int} (h : z ∈ cells8 n r c) : kd n z.1 z.2 = kd n r c := by
  have e1 : n - 1 - (n - 1 - r) = r := by omega
  have e2 : n - 1 - (n - 1 - c) = c := by omega
  unfold kd
  refine congrArg cutL (isort_same ?_)
  generalize er : n - 1 - r = r' at *
  generalize ec : n - 1 - c = c' at *
  simp only [cells8, er, ec, List.mem_cons, List.not_mem_nil, or_false] at h
  rcases h with rfl | rfl | rfl | rfl | rfl | rfl | rfl | rfl <;> simp only [er, ec, e1, e2]
  · exact .refl _
  · exact p4a r c r' c'
  · exact p4b r c r' c'
  · exact (p4a r c' r' c).trans (p4b r c r' c')
  · exact p4c r c r' c'
  · exact (p4a r' c r c').trans (p4c r c r' c')
  · exact (p4c r c' r' c).trans (p4b r c r' c')
  · exact (p4a r' c' r c).trans ((p4c r c' r' c).trans (p4b r c r' c'))
theorem cells8_in {n r c : Int} {z : Int × Int} (h : z ∈ cells8 n r c) (r0 : 0 ≤ r) (rn : r < n) (c0 : 0 ≤ c) (cn : c < n) : 0 ≤ z.1 ∧ z.1 < n ∧ 0 ≤ z.2 ∧ z.2 < n := by
  simp only [cells8, List.mem_cons, List.not_mem_nil, or_false] at h
  rcases h with rfl | rfl | rfl | rfl | rfl | rfl | rfl | rfl <;> exact ⟨by show _ ≤ _; omega, by show _ < _; omega, by show _ ≤ _; omega, by show _ < _; omega⟩
theorem isort4 (l : List Int) (h : l.length = 4) : ∃ a b c d, isort l = [a, b, c, d] := len4 (((isort_perm l).length_eq).trans h)
theorem kd_next {n r c : Int} (r0 : 0 ≤ r) (rn : r < n) (c0 : 0 ≤ c) (cn : c < n) : kd (n + 2) (r + 1) (c + 1) = (1, (kd n r c).2.1, (kd n r c).2.2) := by
  obtain ⟨a, b, x, d, e⟩ := isort4 [r, c, n - 1 - r, n - 1 - c] rfl
  have e2 : isort [r + 1, c + 1, n + 2 - 1 - (r + 1), n + 2 - 1 - (c + 1)] = [a + 1, b + 1, x + 1, d + 1] := by
    have := isort_succ [r, c, n - 1 - r, n - 1 - c]
    rw [e] at this
    rw [show n + 2 - 1 - (r + 1) = n - 1 - r + 1 by omega, show n + 2 - 1 - (c + 1) = n - 1 - c + 1 by omega]
    exact this
  have ha : 0 ≤ a := by
    have := (isort_perm [r, c, n - 1 - r, n - 1 - c]).mem_iff (a := a)
    rw [e] at this
    have := this.mp (List.mem_cons_self ..)
    simp only [List.mem_cons, List.not_mem_nil, or_false] at this
    omega
  rw [kd_of e, kd_of e2]
  simp only [Prod.mk.injEq]
  refine ⟨?_, ?_, ?_⟩
  · split <;> omega
  · rw [show b + 1 - (a + 1) = b - a by omega]
  · rw [show x + 1 - (b + 1) = x - b by omega]
/-! ### cells in order -/
def leC (z w : Int × Int) : Prop := z.1 < w.1 ∨ (z.1 = w.1 ∧ z.2 ≤ w.2)
def ltC (z w : Int × Int) : Prop := z.1 < w.1 ∨ (z.1 = w.1 ∧ z.2 < w.2)
theorem leC_anti {z w : Int × Int} (a : leC z w) (b : leC w z) : z = w := by
  obtain ⟨z1, z2⟩ := z
  obtain ⟨w1, w2⟩ := w
  unfold leC at a b
  simp only [Prod.mk.injEq] at *
  omega
theorem asc_unique {a b : List (Int × Int)} (ha : a.Pairwise ltC) (hb : b.Pairwise ltC) (h : ∀ z, z ∈ a ↔ z ∈ b) : a = b := by
  have na : a.Nodup := ha.imp (fun {x y} h e => by subst e; unfold ltC at h; omega)
  have nb : b.Nodup := hb.imp (fun {x y} h e => by subst e; unfold ltC at h; omega)
  refine List.Perm.eq_of_pairwise (le := leC) (fun x y _ _ h1 h2 => leC_anti h1 h2) (ha.imp fun {x y} h => ?_) (hb.imp fun {x y} h => ?_) ?_
  · unfold ltC at h; unfold leC; omega
  · unfold ltC at h; unfold leC; omega
  · exact (List.perm_ext_iff_of_nodup na nb).mpr h
/-- each new one put at the end -/
def dd (acc : List (Int × Int)) : List (Int × Int) → List (Int × Int)
  | [] => acc
  | z :: r => dd (if z ∈ acc then acc else acc ++ [z]) r
theorem dd_mem : ∀ (l acc : List (Int × Int)) (z : Int × Int), z ∈ dd acc l ↔ z ∈ acc ∨ z ∈ l
  | [], acc, z => by simp [dd]
  | y :: r, acc, z => by
    unfold dd
    rw [dd_mem r]
    split
    · rename_i h
      rw [List.mem_cons]
      constructor
      · rintro (h1 | h1)
        · exact .inl h1
        · exact .inr (.inr h1)
      · rintro (h1 | rfl | h1)
        · exact .inl h1
        · exact .inl h
        · exact .inr h1
    · rw [List.mem_append, List.mem_singleton, List.mem_cons, or_assoc]
theorem dd_asc : ∀ (l acc : List (Int × Int)), acc.Pairwise ltC → l.Pairwise leC → (∀ z ∈ acc, ∀ w ∈ l, leC z w) → (dd acc l).Pairwise ltC
  | [], acc, h, _, _ => h
  | y :: r, acc, h, hl, hal => by
    have hl' := List.pairwise_cons.mp hl
    unfold dd
    split
    · exact dd_asc r acc h hl'.2 fun z hz w hw => hal z hz w (List.mem_cons_of_mem _ hw)
    · rename_i hy
      refine dd_asc r _ (List.pairwise_append.mpr ⟨h, List.pairwise_singleton _ _, fun z hz w hw => ?_⟩) hl'.2 fun z hz w hw => ?_
      · rw [List.mem_singleton] at hw
        subst hw
        have h1 := hal z hz w (List.mem_cons_self ..)
        have h2 : z ≠ w := fun e => hy (e ▸ hz)
        obtain ⟨z1, z2⟩ := z
        obtain ⟨w1, w2⟩ := w
        unfold leC at h1
        unfold ltC
        simp only [ne_eq, Prod.mk.injEq, not_and] at *
        omega
      · rw [List.mem_append, List.mem_singleton] at hz
        rcases hz with hz | rfl
        · exact hal z hz w (List.mem_cons_of_mem _ hw)
        · exact hl'.1 w hw
theorem dd_snoc : ∀ (l acc : List (Int × Int)) (z : Int × Int), dd acc (l ++ [z]) = (if z ∈ dd acc l then dd acc l else dd acc l ++ [z])
  | [], acc, z => rfl
  | y :: r, acc, z => by
    show dd _ (r ++ [z]) = _
    rw [dd_snoc r]
    rfl
theorem dd_len : ∀ (l acc : List (Int × Int)), (dd acc l).length ≤ acc.length + l.length
  | [], acc => Nat.le_refl _
  | y :: r, acc => by
    unfold dd
    refine Nat.le_trans (dd_len r _) ?_
    split
    · rw [List.length_cons]; omega
    · rw [List.length_append, List.length_singleton, List.length_cons]; omega
/-! ### cells as data -/
mutual
theorem dpS {K : PySem.W.Frag} {H H' : Hp} (e : Same H H') : ∀ {v : V} {d : PyData}, Dp K H v d → Dp K H' v d
  | _, _, .non => .non
  | _, _, .bl b => .bl b
  | _, _, .int i => .int i
  | _, _, .str x => .str x
  | _, _, .lst h a => .lst (seqL e h) (dpAllS e a)
  | _, _, .tup h a => .tup (seqT e h) (dpAllS e a)
theorem dpAllS {K : PySem.W.Frag} {H H' : Hp} (e : Same H H') : ∀ {vs : List V} {ds : List PyData}, DpAll K H vs ds → DpAll K H' vs ds
  | _, _, .nil => .nil
  | _, _, .cons h t => .cons (dpS e h) (dpAllS e t)
end
def cD (z : Int × Int) : PyData := .tuple [.int z.1, .int z.2]
theorem cD_of {K : PySem.W.Frag} {H : Hp} {a : Addr} {r c : Int} (h : SqT K H a [.int r, .int c]) : Dp K H (.ref a) (cD (r, c)) := .tup h (.cons (.int r) (.cons (.int c) .nil))
theorem cD_inv {K : PySem.W.Frag} {H : Hp} {v : V} {z : Int × Int} (h : Dp K H v (cD z)) : ∃ a, v = .ref a ∧ SqT K H a [.int z.1, .int z.2] := by
  cases h with
  | tup h a =>
    cases a with
    | cons h1 t =>
      cases t with
      | cons h2 t2 =>
        cases t2
        cases h1
        cases h2
        exact ⟨_, rfl, h⟩
theorem cD_shaped (z : Int × Int) : SeqAt.shaped (cD z) = true := by
  show (PyData.canLay0 _ && decide (PyData.depth _ ≤ 64)) = true
  simp [cD, PyData.canLay0, PyData.canLayAll0, PyData.depth, PyData.depthAll]
theorem cDs_lay : ∀ l : List (Int × Int), PyData.canLayAll0 (l.map cD) = true
  | [] => by simp [PyData.canLayAll0]
  | z :: l => by simp [PyData.canLayAll0, cDs_lay l, cD, PyData.canLay0]
theorem cDs_depth : ∀ l : List (Int × Int), PyData.depthAll (l.map cD) ≤ 2
  | [] => by simp [PyData.depthAll]
  | z :: l => by
    have := cDs_depth l
    simp only [List.map_cons, PyData.depthAll, cD, PyData.depth]
    omega
theorem cDs_shapedL (l : List (Int × Int)) : SeqAt.shaped (.list (l.map cD)) = true := by
  have := cDs_depth l
  show (PyData.canLay0 (.list (l.map cD)) && decide (PyData.depth (.list (l.map cD)) ≤ 64)) = true
  rw [Bool.and_eq_true]
  exact ⟨by simp only [PyData.canLay0]; exact cDs_lay l, decide_eq_true (by simp only [PyData.depth]; omega)⟩
theorem cDs_shapedT (l : List (Int × Int)) : SeqAt.shaped (.tuple (l.map cD)) = true := by
  have := cDs_depth l
  show (PyData.canLay0 (.tuple (l.map cD)) && decide (PyData.depth (.tuple (l.map cD)) ≤ 64)) = true
  rw [Bool.and_eq_true]
  exact ⟨by simp only [PyData.canLay0]; exact cDs_lay l, decide_eq_true (by simp only [PyData.depth]; omega)⟩
theorem cD_eqv (z w : Int × Int) : PyData.eqv (cD z) (cD w) = decide (z = w) := by
  obtain ⟨a, b⟩ := z
  obtain ⟨a', b'⟩ := w
  have e : PyData.eqv (cD (a, b)) (cD (a', b')) = ((a == a') && ((b == b') && true)) := by simp only [cD, PyData.eqv, PyData.eqvAll]
  rw [e, Bool.and_true, Bool.eq_iff_iff]
  simp
theorem cD_any (l : List (Int × Int)) (z : Int × Int) : ((l.map cD).any fun y => PyData.eqv y (cD z)) = decide (z ∈ l) := by
  rw [Bool.eq_iff_iff, List.any_map, List.any_eq_true, decide_eq_true_eq]
  constructor
  · rintro ⟨x, hx, h⟩
    rw [Function.comp, cD_eqv, decide_eq_true_eq] at h
    exact h ▸ hx
  · intro h
    exact ⟨z, h, by rw [Function.comp, cD_eqv, decide_eq_true_eq]⟩
theorem dpAll_get {K : PySem.W.Frag} {H : Hp} : ∀ {vs : List V} {l : List (Int × Int)} {i : Nat} {x : V}, DpAll K H vs (l.map cD) → vs[i]? = some x → ∃ z, l[i]? = some z ∧ Dp K H x (cD z)
  | _, [], _, _, .nil, h => by simp at h
  | _, z :: l, 0, _, .cons h t, e => by
    simp only [List.getElem?_cons_zero, Option.some.injEq] at e
    subst e
    exact ⟨z, rfl, h⟩
  | _, z :: l, i + 1, _, .cons h t, e => by
    simp only [List.getElem?_cons_succ] at e
    obtain ⟨w, e2, h2⟩ := dpAll_get t e
    exact ⟨w, by rw [List.getElem?_cons_succ]; exact e2, h2⟩
theorem dpAll_len {K : PySem.W.Frag} {H : Hp} : ∀ {vs : List V} {l : List PyData}, DpAll K H vs l → vs.length = l.length
  | _, _, .nil => rfl
  | _, _, .cons _ t => by rw [List.length_cons, List.length_cons, dpAll_len t]
theorem dpAll_snoc {K : PySem.W.Frag} {H : Hp} {v : V} {d : PyData} : ∀ {vs : List V} {l : List PyData}, DpAll K H vs l → Dp K H v d → DpAll K H (vs ++ [v]) (l ++ [d])
  | _, _, .nil, h => .cons h .nil
  | _, _, .cons a t, h => .cons a (dpAll_snoc t h)
theorem dpAll_perm {K : PySem.W.Frag} {H : Hp} {ys xs : List V} (p : ys.Perm xs) : ∀ {l : List (Int × Int)}, DpAll K H xs (l.map cD) → ∃ l' : List (Int × Int), l'.Perm l ∧ DpAll K H ys (l'.map cD) := by
  induction p with
  | nil => intro l h; exact ⟨l, .refl _, h⟩
  | cons x p ih =>
    intro l h
    match l, h with
    | z :: l, .cons h t =>
      obtain ⟨l', q, h'⟩ := ih t
      exact ⟨z :: l', q.cons z, .cons h h'⟩
  | swap x y p =>
    intro l h
    match l, h with
    | z :: w :: l, .cons h1 (.cons h2 t) => exact ⟨w :: z :: l, .swap z w l, .cons h2 (.cons h1 t)⟩
  | trans p1 p2 ih1 ih2 =>
    intro l h
    obtain ⟨l1, q1, h1⟩ := ih2 h
    obtain ⟨l2, q2, h2⟩ := ih1 h1
    exact ⟨l2, q2.trans q1, h2⟩
theorem dpAll_pw {K : PySem.W.Frag} {H : Hp} {R : V → V → Prop} {S : Int × Int → Int × Int → Prop} (hRS : ∀ {x y : V} {z w : Int × Int}, Dp K H x (cD z) → Dp K H y (cD w) → R x y → S z w) :
    ∀ {ys : List V} {l : List (Int × Int)}, DpAll K H ys (l.map cD) → ys.Pairwise R → l.Pairwise S
  | _, [], .nil, _ => .nil
  | _, z :: l, .cons h t, p => by
    have p' := List.pairwise_cons.mp p
    refine List.pairwise_cons.mpr ⟨fun w hw => ?_, dpAll_pw hRS t p'.2⟩
    obtain ⟨i, hi, e⟩ := List.getElem_of_mem hw
    have hl := dpAll_len t
    rw [List.length_map] at hl
    have hi' : i < _ := hl ▸ hi
    obtain ⟨w', e', h'⟩ := dpAll_get t (List.getElem?_eq_getElem hi')
    rw [List.getElem?_eq_getElem hi, e] at e'
    cases e'
    exact hRS h h' (p'.1 _ (List.getElem_mem _))
def big : Int := 10 ^ 31
theorem code2 (x y : Int) : TS.code big [x, y] = x * big + y := by
  simp [TS.code, Int.pow_succ]
section
variable {X : Cx}
def rSortC (K : PySem.W.Frag) : List V → Hp → VK → Prop := fun vs H Q => ∃ (a : Addr) (ts : List V) (L : List (Int × Int)), vs = [.ref a] ∧ SqL K H a ts ∧ DpAll K H ts (L.map cD) ∧ L.length < 64 ∧ (∀ z ∈ L, (0 ≤ z.1 ∧ z.1 < big) ∧ (0 ≤ z.2 ∧ z.2 < big)) ∧
  ∀ (p : Addr) (ts' : List V) (L' : List (Int × Int)), L'.Perm L → L'.Pairwise leC → H p = none → DpAll K (upd H p (.lst ts')) ts' (L'.map cD) → Q (.ref p) (upd H p (.lst ts'))
theorem cr_sortC : CallR X (.builtin "sorted") (rSortC X.K) := by
  intro pins s σ H vs us Q I r ⟨a, ts, L, e, hs, hd, hl, hb, h⟩
  have hlen := dpAll_len hd
  rw [List.length_map] at hlen
  refine cr_sortT (d := 2) (B := big) (by decide) pins s σ H vs us Q I r ⟨a, ts, e, hs, by omega, fun x hx => ?_, fun ys p hp hw np => ?_⟩
  · obtain ⟨i, hi, ex⟩ := List.getElem_of_mem hx
    obtain ⟨z, ez, hz⟩ := dpAll_get hd (List.getElem?_eq_getElem hi)
    rw [ex] at hz
    obtain ⟨t, rfl, ht⟩ := cD_inv hz
    refine ⟨[z.1, z.2], ⟨t, rfl, ht⟩, rfl, fun m hm => ?_⟩
    have := hb z (List.mem_of_getElem? ez)
    simp only [List.mem_cons, List.not_mem_nil, or_false] at hm
    rcases hm with rfl | rfl
    · exact this.1
    · exact this.2
  · obtain ⟨L', q, h'⟩ := dpAll_perm hp hd
    refine h p ys L' q ?_ np (dpAllS (same_upd np) h')
    have hw2 : ys.Pairwise (fun x y => (∀ n m, TupI X.K H x n → TupI X.K H y m → TS.code big n ≤ TS.code big m) ∧ x ∈ ys ∧ y ∈ ys) := by
      rw [List.pairwise_iff_forall_sublist] at *
      intro x y hxy
      exact ⟨hw hxy, hxy.subset (by simp), hxy.subset (by simp)⟩
    have key : ∀ {x : V} {z : Int × Int}, x ∈ ys → Dp X.K H x (cD z) → (0 ≤ z.1 ∧ z.1 < big) ∧ (0 ≤ z.2 ∧ z.2 < big) := by
      intro x z hx hz
      obtain ⟨i, hi, ex⟩ := List.getElem_of_mem ((hp.mem_iff).mp hx)
      obtain ⟨z', ez, hz'⟩ := dpAll_get hd (List.getElem?_eq_getElem hi)
      rw [ex] at hz'
      have : z' = z := by
        obtain ⟨t, e1, h1⟩ := cD_inv hz
        obtain ⟨t', e2, h2⟩ := cD_inv hz'
        rw [e1] at e2
        cases e2
        have := I.tuple_inj h1 h2
        simp only [List.cons.injEq, V.int.injEq, and_true] at this
        exact Prod.ext this.1.symm this.2.symm
      exact this ▸ hb z' (List.mem_of_getElem? ez)
    refine dpAll_pw (fun {x y z w} hx hy hR => ?_) h' hw2
    obtain ⟨hR, mx, my⟩ := hR
    have bz := key mx hx
    have bw := key my hy
    obtain ⟨t, rfl, ht⟩ := cD_inv hx
    obtain ⟨t', rfl, ht'⟩ := cD_inv hy
    have := hR [z.1, z.2] [w.1, w.2] ⟨t, rfl, ht⟩ ⟨t', rfl, ht'⟩
    rw [code2, code2] at this
    unfold leC
    unfold big at *
    omega
end

theorem dpAllX {K : PySem.W.Frag} {p : Addr} {H H' : Hp} {ys : List V} (e : SameX p H H') (hp : H p = some (.lst ys)) : ∀ {ts : List V} {L : List (Int × Int)}, DpAll K H ts (L.map cD) → DpAll K H' ts (L.map cD)
  | _, [], .nil => .nil
  | _, z :: L, .cons h t => by
    obtain ⟨a, rfl, ha⟩ := cD_inv h
    exact .cons (cD_of (xseqT e hp ha)) (dpAllX e hp t)
def kD (z : Int × Int × Int) : PyData := .tuple [.int z.1, .int z.2.1, .int z.2.2]
theorem kD_of {K : PySem.W.Frag} {H : Hp} {a : Addr} {x y z : Int} (h : SqT K H a [.int x, .int y, .int z]) : Dp K H (.ref a) (kD (x, y, z)) := .tup h (.cons (.int x) (.cons (.int y) (.cons (.int z) .nil)))
theorem kD_shaped (z : Int × Int × Int) : SeqAt.shaped (kD z) = true := by
  show (PyData.canLay0 _ && decide (PyData.depth _ ≤ 64)) = true
  simp [kD, PyData.canLay0, PyData.canLayAll0, PyData.depth, PyData.depthAll]
theorem kD_eqv (z w : Int × Int × Int) : PyData.eqv (kD z) (kD w) = decide (z = w) := by
  obtain ⟨a, b, c⟩ := z
  obtain ⟨a', b', c'⟩ := w
  have e : PyData.eqv (kD (a, b, c)) (kD (a', b', c')) = ((a == a') && ((b == b') && ((c == c') && true))) := by simp only [kD, PyData.eqv, PyData.eqvAll]
  rw [e, Bool.and_true, Bool.eq_iff_iff]
  simp
theorem kD_ne (z : Int × Int × Int) : (!PyData.eqv (kD z) (kD z)) = false := by rw [kD_eqv, decide_eq_true rfl]; rfl
theorem hu64 {A : Around} {k : Nat} (hr : Room k A) : A.units + 64 < cLine := by
  have := hr.un
  omega
section
variable {X : Cx}
theorem op_modB : OpR X (binaryOp .Mod) (fun x y H Q => ∃ i j, x = .int i ∧ y = .int j ∧ 0 < j ∧ ∀ r, 0 ≤ r → r < j → Q (.int r) H) := by
  intro pins s σ H x y v u Q I rx ry ⟨i, j, e1, e2, hc, h⟩
  exact op_mod pins s σ H x y v u Q I rx ry ⟨i, j, e1, e2, hc, h _ (Int.emod_nonneg _ (by omega)) (Int.emod_lt_of_pos _ hc)⟩
end

theorem int3 {a b c : Int} {i : Nat} {x : V} (h : [V.int a, V.int b, V.int c][i]? = some x) : ∃ z, x = .int z := by
  have := List.mem_of_getElem? h
  simp only [List.mem_cons, List.not_mem_nil, or_false] at this
  rcases this with rfl | rfl | rfl <;> exact ⟨_, rfl⟩

theorem kD_inv {K : PySem.W.Frag} {H : Hp} {v : V} {z : Int × Int × Int} (h : Dp K H v (kD z)) : ∃ a, v = .ref a ∧ SqT K H a [.int z.1, .int z.2.1, .int z.2.2] := by
  cases h with
  | tup h a =>
    cases a with
    | cons h1 t =>
      cases t with
      | cons h2 t2 =>
        cases t2 with
        | cons h3 t3 =>
          cases t3
          cases h1
          cases h2
          cases h3
          exact ⟨_, rfl, h⟩
theorem kDs_lay : ∀ l : List (Int × Int × Int), PyData.canLayAll0 (l.map kD) = true
  | [] => by simp [PyData.canLayAll0]
  | z :: l => by simp [PyData.canLayAll0, kDs_lay l, kD, PyData.canLay0]
theorem kDs_depth : ∀ l : List (Int × Int × Int), PyData.depthAll (l.map kD) ≤ 2
  | [] => by simp [PyData.depthAll]
  | z :: l => by
    have := kDs_depth l
    simp only [List.map_cons, PyData.depthAll, kD, PyData.depth]
    omega
theorem kDs_shapedL (l : List (Int × Int × Int)) : SeqAt.shaped (.list (l.map kD)) = true := by
  have := kDs_depth l
  show (PyData.canLay0 (.list (l.map kD)) && decide (PyData.depth (.list (l.map kD)) ≤ 64)) = true
  rw [Bool.and_eq_true]
  exact ⟨by simp only [PyData.canLay0]; exact kDs_lay l, decide_eq_true (by simp only [PyData.depth]; omega)⟩
theorem kDs_shapedT (l : List (Int × Int × Int)) : SeqAt.shaped (.tuple (l.map kD)) = true := by
  have := kDs_depth l
  show (PyData.canLay0 (.tuple (l.map kD)) && decide (PyData.depth (.tuple (l.map kD)) ≤ 64)) = true
  rw [Bool.and_eq_true]
  exact ⟨by simp only [PyData.canLay0]; exact kDs_lay l, decide_eq_true (by simp only [PyData.depth]; omega)⟩
theorem kD_any (l : List (Int × Int × Int)) (z : Int × Int × Int) : ((l.map kD).any fun y => PyData.eqv y (kD z)) = decide (z ∈ l) := by
  rw [Bool.eq_iff_iff, List.any_map, List.any_eq_true, decide_eq_true_eq]
  constructor
  · rintro ⟨x, hx, h⟩
    rw [Function.comp, kD_eqv, decide_eq_true_eq] at h
    exact h ▸ hx
  · intro h
    exact ⟨z, h, by rw [Function.comp, kD_eqv, decide_eq_true_eq]⟩
theorem kDs_eqvAll : ∀ l : List (Int × Int × Int), PyData.eqvAll (l.map kD) (l.map kD) = true
  | [] => by simp [PyData.eqvAll]
  | z :: l => by
    simp [PyData.eqvAll, kDs_eqvAll l, kD_eqv]
theorem kDs_eqv (l : List (Int × Int × Int)) : PyData.eqv (.tuple (l.map kD)) (.tuple (l.map kD)) = true := by
  simp only [PyData.eqv, kDs_eqvAll]
theorem dpK_get {K : PySem.W.Frag} {H : Hp} : ∀ {vs : List V} {l : List (Int × Int × Int)} {i : Nat} {x : V}, DpAll K H vs (l.map kD) → vs[i]? = some x → ∃ z, l[i]? = some z ∧ Dp K H x (kD z)
  | _, [], _, _, .nil, h => by simp at h
  | _, z :: l, 0, _, .cons h t, e => by
    simp only [List.getElem?_cons_zero, Option.some.injEq] at e
    subst e
    exact ⟨z, rfl, h⟩
  | _, z :: l, i + 1, _, .cons h t, e => by
    simp only [List.getElem?_cons_succ] at e
    obtain ⟨w, e2, h2⟩ := dpK_get t e
    exact ⟨w, by rw [List.getElem?_cons_succ]; exact e2, h2⟩
theorem dpK_perm {K : PySem.W.Frag} {H : Hp} {ys xs : List V} (p : ys.Perm xs) : ∀ {l : List (Int × Int × Int)}, DpAll K H xs (l.map kD) → ∃ l' : List (Int × Int × Int), l'.Perm l ∧ DpAll K H ys (l'.map kD) := by
  induction p with
  | nil => intro l h; exact ⟨l, .refl _, h⟩
  | cons x p ih =>
    intro l h
    match l, h with
    | z :: l, .cons h t =>
      obtain ⟨l', q, h'⟩ := ih t
      exact ⟨z :: l', q.cons z, .cons h h'⟩
  | swap x y p =>
    intro l h
    match l, h with
    | z :: w :: l, .cons h1 (.cons h2 t) => exact ⟨w :: z :: l, .swap z w l, .cons h2 (.cons h1 t)⟩
  | trans p1 p2 ih1 ih2 =>
    intro l h
    obtain ⟨l1, q1, h1⟩ := ih2 h
    obtain ⟨l2, q2, h2⟩ := ih1 h1
    exact ⟨l2, q2.trans q1, h2⟩
theorem dpK_pw {K : PySem.W.Frag} {H : Hp} {R : V → V → Prop} {S : Int × Int × Int → Int × Int × Int → Prop} :
    ∀ {ys : List V} {l : List (Int × Int × Int)}, (∀ {x y : V} {z w : Int × Int × Int}, z ∈ l → w ∈ l → Dp K H x (kD z) → Dp K H y (kD w) → R x y → S z w) → DpAll K H ys (l.map kD) → ys.Pairwise R → l.Pairwise S
  | _, [], _, .nil, _ => .nil
  | _, z :: l, hRS, .cons h t, p => by
    have p' := List.pairwise_cons.mp p
    refine List.pairwise_cons.mpr ⟨fun w hw => ?_, dpK_pw (fun hz hw => hRS (List.mem_cons_of_mem _ hz) (List.mem_cons_of_mem _ hw)) t p'.2⟩
    obtain ⟨i, hi, e⟩ := List.getElem_of_mem hw
    have hl := dpAll_len t
    rw [List.length_map] at hl
    have hi' : i < _ := hl ▸ hi
    obtain ⟨w', e', h'⟩ := dpK_get t (List.getElem?_eq_getElem hi')
    rw [List.getElem?_eq_getElem hi, e] at e'
    cases e'
    exact hRS (List.mem_cons_self ..) (List.mem_cons_of_mem _ hw) h h' (p'.1 _ (List.getElem_mem _))
theorem kRead_tup {K : PySem.W.Frag} {n : Nat} {a : Addr} {ds : List PyData} (h : kRead K n (.ref a) = some (.tuple ds)) : ∃ xs, (∀ H, SqT K H a xs) ∧ ∀ H, DpAll K H xs ds := by
  cases n with
  | zero => cases h
  | succ n =>
    unfold kRead at h
    split at h
    · rename_i o ho
      split at h
      · rename_i c its m hc hd
        split at h
        · rename_i hz
          obtain ⟨hz1, hz2⟩ := hz
          subst hz1
          cases e : its.toList.mapM (kRead K n) with
          | none => rw [e] at h; cases h
          | some ds2 =>
            rw [e] at h
            cases h
            obtain ⟨xs, rs, ps⟩ := kRead_list (kRead_ok n) _ _ e
            exact ⟨xs, fun H => .inr ⟨o, its, m, ho, hc, hd, hz2, rs⟩, ps⟩
        · cases h
      · cases h
    · cases h
theorem cells8_sub {n r c : Int} {z w : Int × Int} (h : z ∈ cells8 n r c) (hw : w ∈ cells8 n z.1 z.2) : w ∈ cells8 n r c := by
  have e1 : n - 1 - (n - 1 - r) = r := by omega
  have e2 : n - 1 - (n - 1 - c) = c := by omega
  simp only [cells8, List.mem_cons, List.not_mem_nil, or_false] at h
  rcases h with rfl | rfl | rfl | rfl | rfl | rfl | rfl | rfl <;> simp only [cells8, e1, e2, List.mem_cons, List.not_mem_nil, or_false] at hw ⊢ <;> rcases hw with rfl | rfl | rfl | rfl | rfl | rfl | rfl | rfl <;> simp
theorem cells8_back {n r c : Int} {z : Int × Int} (h : z ∈ cells8 n r c) : (r, c) ∈ cells8 n z.1 z.2 := by
  have e1 : n - 1 - (n - 1 - r) = r := by omega
  have e2 : n - 1 - (n - 1 - c) = c := by omega
  simp only [cells8, List.mem_cons, List.not_mem_nil, or_false] at h
  rcases h with rfl | rfl | rfl | rfl | rfl | rfl | rfl | rfl <;> simp only [cells8, e1, e2, List.mem_cons, List.not_mem_nil, or_false] <;> simp
theorem cells8_same {n r c : Int} {z : Int × Int} (h : z ∈ cells8 n r c) (w : Int × Int) : w ∈ cells8 n z.1 z.2 ↔ w ∈ cells8 n r c :=
  ⟨cells8_sub h, cells8_sub (cells8_back h)⟩
def prC (q : Addr × List Int) : Int × Int := (q.2.getD 0 0, q.2.getD 1 0)
theorem dpAll_refs {K : PySem.W.Frag} {H : Hp} : ∀ {L : List (Addr × List Int)}, (∀ q ∈ L, ∃ z : Int × Int, q.2 = [z.1, z.2] ∧ SqT K H q.1 [.int z.1, .int z.2]) → DpAll K H (L.map fun q => V.ref q.1) ((L.map prC).map cD)
  | [], _ => .nil
  | q :: L, h => by
    obtain ⟨z, e, s⟩ := h q (List.mem_cons_self ..)
    refine .cons ?_ (dpAll_refs fun q hq => h q (List.mem_cons_of_mem _ hq))
    have : prC q = z := by unfold prC; rw [e]; rfl
    rw [this]
    exact cD_of s
theorem img_out {K : PySem.W.Frag} {H : Hp} {a : Addr} (_ : H a = none) {ks L' : List (Addr × List Int)} {C : List (Int × Int)} (hks : ks.map (·.2) = C.map fun z => [z.1, z.2]) (hs : ∀ p ∈ ks, SqT K H p.1 (p.2.map V.int))
    (sub : ∀ p ∈ L', p ∈ ks) (all : ∀ p ∈ ks, p.2 ∈ L'.map (·.2)) (nd : (L'.map (·.2)).Nodup) (pw : L'.Pairwise fun q r => TS.code big q.2 ≤ TS.code big r.2) (hb : ∀ z ∈ C, (0 ≤ z.1 ∧ z.1 < big) ∧ (0 ≤ z.2 ∧ z.2 < big)) :
    DpAll K H (L'.map fun q => V.ref q.1) ((L'.map prC).map cD) ∧ (L'.map prC).Pairwise ltC ∧ ∀ z, z ∈ L'.map prC ↔ z ∈ C := by
  have key : ∀ q ∈ L', ∃ z ∈ C, q.2 = [z.1, z.2] ∧ prC q = z := by
    intro q hq
    have h1 : q.2 ∈ ks.map (·.2) := List.mem_map_of_mem (sub q hq)
    rw [hks, List.mem_map] at h1
    obtain ⟨z, hz, e⟩ := h1
    exact ⟨z, hz, e.symm, by unfold prC; rw [← e]; rfl⟩
  refine ⟨dpAll_refs fun q hq => ?_, ?_, fun z => ?_⟩
  · obtain ⟨z, hz, e, _⟩ := key q hq
    refine ⟨z, e, ?_⟩
    have := hs q (sub q hq)
    rw [e] at this
    exact this
  · rw [List.pairwise_map]
    have nd2 : L'.Pairwise fun q r => q.2 ≠ r.2 := by
      have := nd
      unfold List.Nodup at this
      rwa [List.pairwise_map] at this
    have both : L'.Pairwise fun q r => TS.code big q.2 ≤ TS.code big r.2 ∧ q.2 ≠ r.2 := List.Pairwise.and pw nd2
    refine List.Pairwise.imp_of_mem (fun {q r} hq hr h => ?_) both
    obtain ⟨z, hz, e, ep⟩ := key q hq
    obtain ⟨w, hw, e', ep'⟩ := key r hr
    rw [ep, ep']
    have bz := hb z hz
    have bw := hb w hw
    rw [e, e', code2, code2] at h
    have hn : ¬ (z.1 = w.1 ∧ z.2 = w.2) := fun x => h.2 (by rw [x.1, x.2])
    have h1 := h.1
    unfold ltC
    unfold big at *
    omega
  · rw [List.mem_map]
    constructor
    · rintro ⟨q, hq, rfl⟩
      obtain ⟨z, hz, e, ep⟩ := key q hq
      rw [ep]
      exact hz
    · intro hz
      have : [z.1, z.2] ∈ ks.map (·.2) := by
        rw [hks]
        exact List.mem_map_of_mem (f := fun z : Int × Int => [z.1, z.2]) hz
      rw [List.mem_map] at this
      obtain ⟨p, hp, e⟩ := this
      have := all p hp
      rw [List.mem_map] at this
      obtain ⟨q, hq, e2⟩ := this
      refine ⟨q, hq, ?_⟩
      unfold prC
      rw [e2, e]
      rfl
theorem cDs_eqvAll : ∀ l : List (Int × Int), PyData.eqvAll (l.map cD) (l.map cD) = true
  | [] => by simp [PyData.eqvAll]
  | z :: l => by
    simp [PyData.eqvAll, cDs_eqvAll l, cD_eqv]
theorem cDs_eqv (l : List (Int × Int)) : PyData.eqv (.tuple (l.map cD)) (.tuple (l.map cD)) = true := by
  simp only [PyData.eqv, cDs_eqvAll]
structure Blt (mg : Str → Option Value) : Prop where
  len : mg "len" = none
  isinstance : mg "isinstance" = none
  abs : mg "abs" = none
  min : mg "min" = none
  max : mg "max" = none
  all : mg "all" = none
  sorted : mg "sorted" = none
  divmod : mg "divmod" = none
  int : mg "int" = none
  bool : mg "bool" = none
  tuple : mg "tuple" = none
  list : mg "list" = none
  set : mg "set" = none
  range : mg "range" = none
structure Glb (K : PySem.W.Frag) (mg : Str → Option Value) : Prop where
  MOST_SIZE : ∃ t, mg "MOST_SIZE" = some (.int (10 ^ 30) t)
def topS (i : Nat) : Stmt := PySem.Challenge.pw_squareloops_k23_images_of_cells.main.body.getD i (.Pass ⟨0, 0, 0, 0⟩)
abbrev s_is_integer : Stmt := topS 6
abbrev s_within : Stmt := topS 7
abbrev s_is_cell : Stmt := topS 8
abbrev s_check_size : Stmt := topS 9
abbrev s_check_cell : Stmt := topS 10
abbrev s_images_of : Stmt := topS 12
abbrev s_images : Stmt := topS 13
abbrev s_law_purl : Stmt := topS 15
abbrev s_law_dig : Stmt := topS 16
abbrev s_law_far : Stmt := topS 17
abbrev s_law_spot : Stmt := topS 18
abbrev s_law_cells : Stmt := topS 19
abbrev s_law_orbit : Stmt := topS 20
abbrev s_law_whole : Stmt := topS 21
abbrev s_law_right : Stmt := topS 22
abbrev s_law : Stmt := topS 23
section
variable {P : Program} {w : World} {K : PySem.W.Frag} {mg : Str → Option Value} {base : Heap}
theorem sc_is_integer : FnScope ["value"] ["value"] (defScope s_is_integer) := ⟨rfl, rfl, rfl, by decide +kernel, rfl, by decide +kernel, by decide +kernel⟩
abbrev sc_is_integerN : List Str := ["value"]
def sp_is_integer (K : PySem.W.Frag) : Sp := fun vs H Q _ => ∃ v t, vs = [v] ∧ TyX K H v (.type t) ∧ t ∈ tyNames ∧ Q (.bl (decide (t = "int"))) H
theorem ok_is_integer (B : Blt mg) (G : Glb K mg) (D : DefAt K mg "is_integer" s_is_integer ["value"]) : DefOk P w K mg base 1 "is_integer" ["value"] (sp_is_integer K) := by
  refine def_ok D sc_is_integer (fun vs H Q E h => ?_) (fun f cdv A outer s H vs Q E hr h => ?_)
  · obtain ⟨_, _, rfl, _⟩ := h
    rfl
  · obtain ⟨v, t, rfl, ht, hm, q⟩ := h
    refine ⟨_, (pss_one (ps_ret (pe_and (pe_callB call_isi (by rfl) B.isinstance bt_isinstance (pa_cons (pv 0) (pa_cons (pe_bltn (v := .ty "int") (by rfl) B.int bt_int rfl) pa_nil))) (pe_one (pe_not (pe_callB call_isi (by rfl) B.isinstance bt_isinstance (pa_cons (pv 0) (pa_cons (pe_bltn (v := .ty "bool") (by rfl) B.bool bt_bool rfl) pa_nil)))))))), ?_⟩
    refine ⟨_, rfl, _, _, _, _, _, rfl, .ty _, ht, kI hm, _, rfl, ?_⟩
    refine ite2 (fun e1 => ?_) (fun e1 => ?_)
    · try simp only [decide_eq_true_eq, Bool.not_eq_true', decide_eq_false_iff_not, Bool.not_eq_false', Bool.not_eq_true, Decidable.not_not, V.int.injEq, V.bl.injEq, V.str.injEq] at e1
      refine ⟨_, rfl, _, _, _, _, _, rfl, .ty _, ht, kB hm, _, rfl, ?_⟩
      have e : (!decide (t = "bool")) = decide (t = "int") := by
        rcases e1 with rfl | rfl <;> rfl
      rw [e]
      exact q
    · try simp only [decide_eq_true_eq, Bool.not_eq_true', decide_eq_false_iff_not, Bool.not_eq_false', Bool.not_eq_true, Decidable.not_not, V.int.injEq, V.bl.injEq, V.str.injEq] at e1
      have e : decide (t = "int") = false := decide_eq_false (fun z => e1 (.inl z))
      rw [e] at q
      exact q

theorem sc_within : FnScope ["value", "least", "most"] ["value", "least", "most"] (defScope s_within) := ⟨rfl, rfl, rfl, by decide +kernel, rfl, by decide +kernel, by decide +kernel⟩
abbrev sc_withinN : List Str := ["value", "least", "most"]
def wthn : V → Int → Int → Bool
  | .int i, lo, hi => decide (lo ≤ i ∧ i ≤ hi)
  | _, _, _ => false
theorem wthn_not {K : PySem.W.Frag} {H : Hp} {v : V} {t : String} {lo hi : Int} (h : TyX K H v (.type t)) (n : t ≠ "int") : wthn v lo hi = false := by
  cases v <;> first | rfl | skip
  cases h with
  | base h => cases h; exact absurd rfl n
theorem int_of {K : PySem.W.Frag} {H : Hp} {v : V} (h : TyX K H v (.type "int")) : ∃ i, v = .int i := by
  generalize e : Value.type "int" = z at h
  cases h with
  | base h => cases h <;> first | (exact ⟨_, rfl⟩) | (simp at e)
  | _ => simp at e
def sp_within (K : PySem.W.Frag) : Sp := fun vs H Q _ => ∃ v t lo hi, vs = [v, .int lo, .int hi] ∧ TyX K H v (.type t) ∧ t ∈ tyNames ∧ Q (.bl (wthn v lo hi)) H
theorem ok_within (B : Blt mg) (G : Glb K mg) (D : DefAt K mg "within" s_within ["value", "least", "most"]) (d_is_integer : DefOk P w K mg base 1 "is_integer" ["value"] (sp_is_integer K)) : DefOk P w K mg base 2 "within" ["value", "least", "most"] (sp_within K) := by
  refine def_ok D sc_within (fun vs H Q E h => ?_) (fun f cdv A outer s H vs Q E hr h => ?_)
  · obtain ⟨_, _, _, _, rfl, _⟩ := h
    rfl
  · obtain ⟨v, t, lo, hi, rfl, ht, hm, q⟩ := h
    refine ⟨_, (pss_one (ps_ret (pe_and (pe_callD d_is_integer (hr.mono (by decide)) (by rfl) (pa_cons (pv 0) pa_nil)) (pe_one (pe_chain op_le op_le (pv 1) (pv 0) (pv 2)))))), ?_⟩
    refine ⟨_, rfl, _, _, rfl, ht, hm, _, rfl, ?_⟩
    refine ite2 (fun e => ?_) (fun e => ?_)
    · have e := of_decide_eq_true e
      subst e
      obtain ⟨i, rfl⟩ := int_of ht
      refine ⟨_, rfl, _, rfl, _, _, rfl, rfl, _, rfl, ?_⟩
      refine ite2 (fun e1 => ?_) (fun e1 => ?_)
      · have e1 := of_decide_eq_true e1
        refine ⟨_, rfl, _, _, rfl, rfl, ?_⟩
        refine qb q ?_
        show _ = decide (lo ≤ i ∧ i ≤ hi)
        by_cases h2 : i ≤ hi
        · rw [decide_eq_true h2, decide_eq_true ⟨e1, h2⟩]
        · rw [decide_eq_false h2, decide_eq_false (fun z => h2 z.2)]
      · have e1 : ¬ lo ≤ i := fun z => e1 (decide_eq_true z)
        have z : wthn (.int i) lo hi = false := decide_eq_false (fun z => e1 z.1)
        rw [z] at q
        exact q
    · rw [wthn_not ht (fun z => e (decide_eq_true z))] at q
      exact q

theorem sc_is_cell : FnScope ["value", "size"] ["value", "size"] (defScope s_is_cell) := ⟨rfl, rfl, rfl, by decide +kernel, rfl, by decide +kernel, by decide +kernel⟩
abbrev sc_is_cellN : List Str := ["value", "size"]
def sp_is_cell (K : PySem.W.Frag) : Sp := fun vs H Q _ => ∃ p n r c, vs = [.ref p, .int n] ∧ SqT K H p [.int r, .int c] ∧ (0 ≤ r ∧ r < n ∧ 0 ≤ c ∧ c < n) ∧ Q (.bl true) H
theorem ok_is_cell (B : Blt mg) (G : Glb K mg) (D : DefAt K mg "is_cell" s_is_cell ["value", "size"]) (d_within : DefOk P w K mg base 2 "within" ["value", "least", "most"] (sp_within K)) : DefOk P w K mg base 3 "is_cell" ["value", "size"] (sp_is_cell K) := by
  refine def_ok D sc_is_cell (fun vs H Q E h => ?_) (fun f cdv A outer s H vs Q E hr h => ?_)
  · obtain ⟨_, _, _, _, rfl, _⟩ := h
    rfl
  · obtain ⟨p, n, r, c, rfl, hk, hb, q⟩ := h
    refine ⟨_, (pss_cons (ps_if (PW.pt (pw_or (pt_not (pt_val (pe_callB call_isi (by rfl) B.isinstance bt_isinstance (pa_cons (pv 0) (pa_cons (pe_bltn (v := .ty "tuple") (by rfl) B.tuple bt_tuple rfl) pa_nil))))) (pw_or1 (pt_cmpR op_ne (pe_callB call_len_seq (by rfl) B.len bt_len (pa_cons (pv 0) pa_nil)) pe_int (nomark _))))) (pss_one (ps_ret pe_bl)) pss_nil)
      (pss_one (ps_ret (pe_and (pe_callD d_within (hr.mono (by decide)) (by rfl) (pa_cons (pe_ix ix_tup (pv 0) pe_int (fun _ _ => rfl)) (pa_cons pe_int (pa_cons (pe_op op_sub (pv 1) pe_int) pa_nil)))) (pe_one (pe_callD d_within (hr.mono (by decide)) (by rfl) (pa_cons (pe_ix ix_tup (pv 0) pe_int (fun _ _ => rfl)) (pa_cons pe_int (pa_cons (pe_op op_sub (pv 1) pe_int) pa_nil))))))))), ?_⟩
    refine ⟨_, rfl, _, _, _, _, _, rfl, .ty _, ty_tup hk, kit_ty (r := true) (by decide +kernel), _, rfl, ?_⟩
    refine iteF' (rfl) ?_
    refine ⟨_, rfl, _, _, rfl, .inr hk, rfl, _, rfl, ?_⟩
    refine iteF' (rfl) ?_
    refine ⟨_, rfl, _, _, _, _, rfl, rfl, hk, rfl, _, rfl, _, _, rfl, rfl, _, _, _, _, rfl, ty_int _, by decide, ?_⟩
    refine ⟨_, rfl, ?_⟩
    refine iteT' ((decide_eq_true ⟨by omega, by omega⟩)) ?_
    refine ⟨_, rfl, _, _, _, _, rfl, rfl, hk, rfl, _, rfl, _, _, rfl, rfl, _, _, _, _, rfl, ty_int _, by decide, ?_⟩
    exact qb q (decide_eq_true ⟨by omega, by omega⟩)

theorem sc_check_size : FnScope ["value"] ["value"] (defScope s_check_size) := ⟨rfl, rfl, rfl, by decide +kernel, rfl, by decide +kernel, by decide +kernel⟩
abbrev sc_check_sizeN : List Str := ["value"]
def sp_check_size : Sp := fun vs H Q _ => ∃ n, vs = [.int n] ∧ 1 ≤ n ∧ n ≤ 10 ^ 30 ∧ Q .non H
theorem ok_check_size (B : Blt mg) (G : Glb K mg) (D : DefAt K mg "check_size" s_check_size ["value"]) (d_within : DefOk P w K mg base 2 "within" ["value", "least", "most"] (sp_within K)) : DefOk P w K mg base 3 "check_size" ["value"] sp_check_size := by
  refine def_ok D sc_check_size (fun vs H Q E h => ?_) (fun f cdv A outer s H vs Q E hr h => ?_)
  · obtain ⟨_, rfl, _⟩ := h
    rfl
  · obtain ⟨n, rfl, h1, h2, q⟩ := h
    obtain ⟨tM, gM⟩ := G.MOST_SIZE
    refine ⟨_, (pss_one (ps_if (pt_not (pt_val (pe_callD d_within (hr.mono (by decide)) (by rfl) (pa_cons (pv 0) (pa_cons pe_int (pa_cons (pe_glob (v := .int (10 ^ 30)) (by rfl) gM ⟨_, rfl⟩) pa_nil)))))) (pss_one ps_never) pss_nil)), ?_⟩
    refine ⟨_, rfl, _, _, _, _, rfl, ty_int _, by decide, ?_⟩
    refine ⟨_, rfl, ?_⟩
    refine iteF' ((by show (!decide _) = false; rw [decide_eq_true ⟨h1, h2⟩]; rfl)) ?_
    exact q

theorem sc_check_cell : FnScope ["size", "value"] ["size", "value"] (defScope s_check_cell) := ⟨rfl, rfl, rfl, by decide +kernel, rfl, by decide +kernel, by decide +kernel⟩
abbrev sc_check_cellN : List Str := ["size", "value"]
def sp_check_cell (K : PySem.W.Frag) : Sp := fun vs H Q _ => ∃ p n r c, vs = [.int n, .ref p] ∧ SqT K H p [.int r, .int c] ∧ (0 ≤ r ∧ r < n ∧ 0 ≤ c ∧ c < n) ∧ Q .non H
theorem ok_check_cell (B : Blt mg) (G : Glb K mg) (D : DefAt K mg "check_cell" s_check_cell ["size", "value"]) (d_is_cell : DefOk P w K mg base 3 "is_cell" ["value", "size"] (sp_is_cell K)) : DefOk P w K mg base 4 "check_cell" ["size", "value"] (sp_check_cell K) := by
  refine def_ok D sc_check_cell (fun vs H Q E h => ?_) (fun f cdv A outer s H vs Q E hr h => ?_)
  · obtain ⟨_, _, _, _, rfl, _⟩ := h
    rfl
  · obtain ⟨p, n, r, c, rfl, hk, hb, q⟩ := h
    refine ⟨_, (pss_one (ps_if (pt_not (pt_val (pe_callD d_is_cell (hr.mono (by decide)) (by rfl) (pa_cons (pv 1) (pa_cons (pv 0) pa_nil))))) (pss_one ps_never) pss_nil)), ?_⟩
    refine ⟨_, rfl, _, rfl, _, _, _, _, rfl, hk, ⟨by walk_at "ob", by walk_at "ob", by walk_at "ob", by walk_at "ob"⟩, ?_⟩
    refine ⟨_, rfl, ?_⟩
    refine iteF' (rfl) ?_
    exact q

theorem sc_images_of : FnScope ["size", "cell", "row", "column", "far_row", "far_column", "found"] ["size", "cell"] (defScope s_images_of) := ⟨rfl, rfl, rfl, by decide +kernel, rfl, by decide +kernel, by decide +kernel⟩
abbrev sc_images_ofN : List Str := ["size", "cell", "row", "column", "far_row", "far_column", "found"]
def sp_images_of (K : PySem.W.Frag) : Sp := fun vs H Q _ => ∃ n p r c, vs = [.int n, .ref p] ∧ SqT K H p [.int r, .int c] ∧ (0 ≤ r ∧ r < n ∧ 0 ≤ c ∧ c < n) ∧ n ≤ 10 ^ 30 ∧ ∀ (t : Addr) (ts : List V) (O : List (Int × Int)) (H' : Hp), Same H H' → SqT K H' t ts → DpAll K H' ts (O.map cD) → O.Pairwise ltC → (∀ z, z ∈ O ↔ z ∈ cells8 n r c) → O.length < 64 → Q (.ref t) H'
theorem ok_images_of (B : Blt mg) (G : Glb K mg) (D : DefAt K mg "images_of" s_images_of ["size", "cell"]) : DefOk P w K mg base 1 "images_of" ["size", "cell"] (sp_images_of K) := by
  refine def_ok D sc_images_of (fun vs H Q E h => ?_) (fun f cdv A outer s H vs Q E hr h => ?_)
  · obtain ⟨_, _, _, _, rfl, _⟩ := h
    rfl
  · obtain ⟨n, p, r, c, rfl, hk, hb, hn, q⟩ := h
    refine ⟨_, (pss_cons (ps_asg (pv 1) (pg_tup rfl (pgs_cons (pg_name (i := 2) sc_images_of.nd rfl (.inl rfl)) (pgs_cons (pg_name (i := 3) sc_images_of.nd rfl (.inl rfl)) pgs_nil))))
      (pss_cons (ps_par (i := 4) (j := 5) rfl sc_images_of.nd rfl rfl (by decide) rfl rfl (pa_cons (pe_op op_sub (pe_op op_sub (pv 0) pe_int) (pv 2)) (pa_cons (pe_op op_sub (pe_op op_sub (pv 0) pe_int) (pv 3)) pa_nil)) (by rfl))
      (pss_cons (ps_set (i := 6) sc_images_of.nd rfl (.inl rfl) (pe_lst (pa_cons (pe_tup (pa_cons (pv 2) (pa_cons (pv 3) pa_nil))) (pa_cons (pe_tup (pa_cons (pv 3) (pa_cons (pv 2) pa_nil))) (pa_cons (pe_tup (pa_cons (pv 2) (pa_cons (pv 5) pa_nil))) (pa_cons (pe_tup (pa_cons (pv 5) (pa_cons (pv 2) pa_nil))) pa_nil))))))
      (pss_cons (ps_set (i := 6) sc_images_of.nd rfl (.inl rfl) (pe_op op_cat (pv 6) (pe_lst (pa_cons (pe_tup (pa_cons (pv 4) (pa_cons (pv 3) pa_nil))) (pa_cons (pe_tup (pa_cons (pv 3) (pa_cons (pv 4) pa_nil))) (pa_cons (pe_tup (pa_cons (pv 4) (pa_cons (pv 5) pa_nil))) (pa_cons (pe_tup (pa_cons (pv 5) (pa_cons (pv 4) pa_nil))) pa_nil)))))))
      (pss_one (ps_ret (pe_callTy call_tuple_of (by rfl) B.tuple bt_tuple (pa_cons (pe_callB (cr_sortedT rfl) (by rfl) B.sorted bt_sorted (pa_cons (pe_callTy (cr_setOfT rfl (hu64 hr)) (by rfl) B.set bt_set (pa_cons (pv 6) pa_nil)) pa_nil)) pa_nil)))))))), ?_⟩
    refine ⟨_, rfl, _, _, rfl, hk, rfl, _, _, rfl, _, _, rfl, rfl, _, rfl, _, _, rfl, rfl, _, rfl, _, _, rfl, rfl, _, rfl, _, _, rfl, rfl, _, rfl, _, _, rfl, rfl, _, _, rfl, _, rfl, _, rfl, (by show 2 ≤ sizeLine; decide), fun t1 nt1 => ?_⟩
    refine ⟨_, rfl, _, rfl, (by show 2 ≤ sizeLine; decide), fun t2 nt2 => ?_⟩
    refine ⟨_, rfl, _, rfl, (by show 2 ≤ sizeLine; decide), fun t3 nt3 => ?_⟩
    refine ⟨_, rfl, _, rfl, (by show 2 ≤ sizeLine; decide), fun t4 nt4 => ?_⟩
    refine ⟨(by show 4 ≤ sizeLine; decide), fun l5 nl5 => ?_⟩
    refine ⟨_, rfl, _, rfl, _, rfl, (by show 2 ≤ sizeLine; decide), fun t6 nt6 => ?_⟩
    refine ⟨_, rfl, _, rfl, (by show 2 ≤ sizeLine; decide), fun t7 nt7 => ?_⟩
    refine ⟨_, rfl, _, rfl, (by show 2 ≤ sizeLine; decide), fun t8 nt8 => ?_⟩
    refine ⟨_, rfl, _, rfl, (by show 2 ≤ sizeLine; decide), fun t9 nt9 => ?_⟩
    refine ⟨(by show 4 ≤ sizeLine; decide), fun l10 nl10 => ?_⟩
    refine ⟨_, _, _, _, rfl, rfl, ((same_upd nl10) _ _ ((same_upd nt9) _ _ ((same_upd nt8) _ _ ((same_upd nt7) _ _ ((same_upd nt6) _ _ upd_same))))), upd_same, (by show 8 ≤ sizeLine; decide), fun l11 nl11 => ?_⟩
    refine ⟨_, rfl, _, [(t1, [r, c]), (t2, [c, r]), (t3, [r, n - 1 - c]), (t4, [n - 1 - c, r]), (t6, [n - 1 - r, c]), (t7, [c, n - 1 - r]), (t8, [n - 1 - r, n - 1 - c]), (t9, [n - 1 - c, n - 1 - r])], rfl, (.inl (.inl upd_same)), (by
      intro p hp 
      simp only [List.mem_cons, List.not_mem_nil, or_false] at hp 
      rcases hp with rfl | rfl | rfl | rfl | rfl | rfl | rfl | rfl 
      · exact (seqT (same_upd nl11) (seqT (same_upd nl10) (seqT (same_upd nt9) (seqT (same_upd nt8) (seqT (same_upd nt7) (seqT (same_upd nt6) (seqT (same_upd nl5) (seqT (same_upd nt4) (seqT (same_upd nt3) (seqT (same_upd nt2) SqT.new)))))))))) 
      · exact (seqT (same_upd nl11) (seqT (same_upd nl10) (seqT (same_upd nt9) (seqT (same_upd nt8) (seqT (same_upd nt7) (seqT (same_upd nt6) (seqT (same_upd nl5) (seqT (same_upd nt4) (seqT (same_upd nt3) SqT.new))))))))) 
      · exact (seqT (same_upd nl11) (seqT (same_upd nl10) (seqT (same_upd nt9) (seqT (same_upd nt8) (seqT (same_upd nt7) (seqT (same_upd nt6) (seqT (same_upd nl5) (seqT (same_upd nt4) SqT.new)))))))) 
      · exact (seqT (same_upd nl11) (seqT (same_upd nl10) (seqT (same_upd nt9) (seqT (same_upd nt8) (seqT (same_upd nt7) (seqT (same_upd nt6) (seqT (same_upd nl5) SqT.new))))))) 
      · exact (seqT (same_upd nl11) (seqT (same_upd nl10) (seqT (same_upd nt9) (seqT (same_upd nt8) (seqT (same_upd nt7) SqT.new))))) 
      · exact (seqT (same_upd nl11) (seqT (same_upd nl10) (seqT (same_upd nt9) (seqT (same_upd nt8) SqT.new)))) 
      · exact (seqT (same_upd nl11) (seqT (same_upd nl10) (seqT (same_upd nt9) SqT.new))) 
      · exact (seqT (same_upd nl11) (seqT (same_upd nl10) SqT.new))), (by show 8 < 64; decide), fun aS LS nS subS allS => ?_⟩
    have hbd : ∀ z ∈ cells8 n r c, (0 ≤ z.1 ∧ z.1 < big) ∧ (0 ≤ z.2 ∧ z.2 < big) := fun z hz => by
      have := cells8_in hz hb.1 hb.2.1 hb.2.2.1 hb.2.2.2
      unfold big
      omega
    have hk2 : ∀ p ∈ LS, ∃ z ∈ cells8 n r c, p.2 = [z.1, z.2] := fun p hp => by
      have h1 : p.2 ∈ (([(t1, [r, c]), (t2, [c, r]), (t3, [r, n - 1 - c]), (t4, [n - 1 - c, r]), (t6, [n - 1 - r, c]), (t7, [c, n - 1 - r]), (t8, [n - 1 - r, n - 1 - c]), (t9, [n - 1 - c, n - 1 - r])] : List (Addr × List Int)).map (·.2)) := List.mem_map_of_mem (subS p hp)
      have h2 : p.2 ∈ ((cells8 n r c).map fun z => [z.1, z.2]) := h1
      obtain ⟨z, hz, e⟩ := List.mem_map.mp h2
      exact ⟨z, hz, e.symm⟩
    refine ⟨_, LS, 2, big, rfl, upd_same, (by
        intro p hp
        have hp := subS p hp
        simp only [List.mem_cons, List.not_mem_nil, or_false] at hp
        rcases hp with rfl | rfl | rfl | rfl | rfl | rfl | rfl | rfl
        · exact (seqT (same_upd nS) (seqT (same_upd nl11) (seqT (same_upd nl10) (seqT (same_upd nt9) (seqT (same_upd nt8) (seqT (same_upd nt7) (seqT (same_upd nt6) (seqT (same_upd nl5) (seqT (same_upd nt4) (seqT (same_upd nt3) (seqT (same_upd nt2) SqT.new)))))))))))
        · exact (seqT (same_upd nS) (seqT (same_upd nl11) (seqT (same_upd nl10) (seqT (same_upd nt9) (seqT (same_upd nt8) (seqT (same_upd nt7) (seqT (same_upd nt6) (seqT (same_upd nl5) (seqT (same_upd nt4) (seqT (same_upd nt3) SqT.new))))))))))
        · exact (seqT (same_upd nS) (seqT (same_upd nl11) (seqT (same_upd nl10) (seqT (same_upd nt9) (seqT (same_upd nt8) (seqT (same_upd nt7) (seqT (same_upd nt6) (seqT (same_upd nl5) (seqT (same_upd nt4) SqT.new)))))))))
        · exact (seqT (same_upd nS) (seqT (same_upd nl11) (seqT (same_upd nl10) (seqT (same_upd nt9) (seqT (same_upd nt8) (seqT (same_upd nt7) (seqT (same_upd nt6) (seqT (same_upd nl5) SqT.new))))))))
        · exact (seqT (same_upd nS) (seqT (same_upd nl11) (seqT (same_upd nl10) (seqT (same_upd nt9) (seqT (same_upd nt8) (seqT (same_upd nt7) SqT.new))))))
        · exact (seqT (same_upd nS) (seqT (same_upd nl11) (seqT (same_upd nl10) (seqT (same_upd nt9) (seqT (same_upd nt8) SqT.new)))))
        · exact (seqT (same_upd nS) (seqT (same_upd nl11) (seqT (same_upd nl10) (seqT (same_upd nt9) SqT.new))))
        · exact (seqT (same_upd nS) (seqT (same_upd nl11) (seqT (same_upd nl10) SqT.new)))), by decide, (fun p hp => ?_), fun L' p hp nd h64 pw np => ?_⟩
    · obtain ⟨z, hz, e⟩ := hk2 p hp
      rw [e]
      refine ⟨rfl, fun m hm => ?_⟩
      simp only [List.mem_cons, List.not_mem_nil, or_false] at hm
      rcases hm with rfl | rfl
      · exact (hbd z hz).1
      · exact (hbd z hz).2
    obtain ⟨o1, o2, o3⟩ := img_out (K := K) np (ks := [(t1, [r, c]), (t2, [c, r]), (t3, [r, n - 1 - c]), (t4, [n - 1 - c, r]), (t6, [n - 1 - r, c]), (t7, [c, n - 1 - r]), (t8, [n - 1 - r, n - 1 - c]), (t9, [n - 1 - c, n - 1 - r])]) (C := cells8 n r c) rfl (by
        intro p hp
        simp only [List.mem_cons, List.not_mem_nil, or_false] at hp
        rcases hp with rfl | rfl | rfl | rfl | rfl | rfl | rfl | rfl
        · exact (seqT (same_upd nS) (seqT (same_upd nl11) (seqT (same_upd nl10) (seqT (same_upd nt9) (seqT (same_upd nt8) (seqT (same_upd nt7) (seqT (same_upd nt6) (seqT (same_upd nl5) (seqT (same_upd nt4) (seqT (same_upd nt3) (seqT (same_upd nt2) SqT.new)))))))))))
        · exact (seqT (same_upd nS) (seqT (same_upd nl11) (seqT (same_upd nl10) (seqT (same_upd nt9) (seqT (same_upd nt8) (seqT (same_upd nt7) (seqT (same_upd nt6) (seqT (same_upd nl5) (seqT (same_upd nt4) (seqT (same_upd nt3) SqT.new))))))))))
        · exact (seqT (same_upd nS) (seqT (same_upd nl11) (seqT (same_upd nl10) (seqT (same_upd nt9) (seqT (same_upd nt8) (seqT (same_upd nt7) (seqT (same_upd nt6) (seqT (same_upd nl5) (seqT (same_upd nt4) SqT.new)))))))))
        · exact (seqT (same_upd nS) (seqT (same_upd nl11) (seqT (same_upd nl10) (seqT (same_upd nt9) (seqT (same_upd nt8) (seqT (same_upd nt7) (seqT (same_upd nt6) (seqT (same_upd nl5) SqT.new))))))))
        · exact (seqT (same_upd nS) (seqT (same_upd nl11) (seqT (same_upd nl10) (seqT (same_upd nt9) (seqT (same_upd nt8) (seqT (same_upd nt7) SqT.new))))))
        · exact (seqT (same_upd nS) (seqT (same_upd nl11) (seqT (same_upd nl10) (seqT (same_upd nt9) (seqT (same_upd nt8) SqT.new)))))
        · exact (seqT (same_upd nS) (seqT (same_upd nl11) (seqT (same_upd nl10) (seqT (same_upd nt9) SqT.new))))
        · exact (seqT (same_upd nS) (seqT (same_upd nl11) (seqT (same_upd nl10) SqT.new)))) (fun q hq => subS q (hp.mem_iff.mp hq)) (fun x hx => by obtain ⟨z, hz, e⟩ := List.mem_map.mp (allS x hx); exact List.mem_map.mpr ⟨z, hp.mem_iff.mpr hz, e⟩) nd pw hbd
    refine ⟨_, _, rfl, .inl ⟨SqL.new, fun t nt => ?_⟩⟩
    refine q _ _ _ _ (((((((((((((((Same.refl H).trans (same_upd nt1)).trans (same_upd nt2)).trans (same_upd nt3)).trans (same_upd nt4)).trans (same_upd nl5)).trans (same_upd nt6)).trans (same_upd nt7)).trans (same_upd nt8)).trans (same_upd nt9)).trans (same_upd nl10)).trans (same_upd nl11)).trans (same_upd nS)).trans (same_upd np)).trans (same_upd nt)) SqT.new (dpAllS ((same_upd np).trans (same_upd nt)) o1) o2 o3 ?_
    rw [List.length_map]
    exact h64

theorem sc_images : FnScope ["size", "cell"] ["size", "cell"] (defScope s_images) := ⟨rfl, rfl, rfl, by decide +kernel, rfl, by decide +kernel, by decide +kernel⟩
abbrev sc_imagesN : List Str := ["size", "cell"]
def sp_images (K : PySem.W.Frag) : Sp := fun vs H Q _ => ∃ n p r c, vs = [.int n, .ref p] ∧ SqT K H p [.int r, .int c] ∧ (0 ≤ r ∧ r < n ∧ 0 ≤ c ∧ c < n) ∧ n ≤ 10 ^ 30 ∧ ∀ (t : Addr) (ts : List V) (O : List (Int × Int)) (H' : Hp), Same H H' → SqT K H' t ts → DpAll K H' ts (O.map cD) → O.Pairwise ltC → (∀ z, z ∈ O ↔ z ∈ cells8 n r c) → O.length < 64 → Q (.ref t) H'
theorem ok_images (B : Blt mg) (G : Glb K mg) (D : DefAt K mg "images" s_images ["size", "cell"]) (d_check_size : DefOk P w K mg base 3 "check_size" ["value"] sp_check_size) (d_check_cell : DefOk P w K mg base 4 "check_cell" ["size", "value"] (sp_check_cell K)) (d_images_of : DefOk P w K mg base 1 "images_of" ["size", "cell"] (sp_images_of K)) : DefOk P w K mg base 5 "images" ["size", "cell"] (sp_images K) := by
  refine def_ok D sc_images (fun vs H Q E h => ?_) (fun f cdv A outer s H vs Q E hr h => ?_)
  · obtain ⟨_, _, _, _, rfl, _⟩ := h
    rfl
  · obtain ⟨n, p, r, c, rfl, hk, hb, hn, q⟩ := h
    refine ⟨_, (pss_cons (ps_expr (pe_callD d_check_size (hr.mono (by decide)) (by rfl) (pa_cons (pv 0) pa_nil)))
      (pss_cons (ps_expr (pe_callD d_check_cell (hr.mono (by decide)) (by rfl) (pa_cons (pv 0) (pa_cons (pv 1) pa_nil))))
      (pss_one (ps_ret (pe_callD d_images_of (hr.mono (by decide)) (by rfl) (pa_cons (pv 0) (pa_cons (pv 1) pa_nil))))))), ?_⟩
    refine ⟨_, rfl, _, rfl, (by walk_at "ob"), (by walk_at "ob"), ?_⟩
    refine ⟨_, rfl, _, rfl, _, _, _, _, rfl, hk, ⟨by walk_at "ob", by walk_at "ob", by walk_at "ob", by walk_at "ob"⟩, ?_⟩
    refine ⟨_, rfl, _, rfl, _, _, _, _, rfl, hk, ⟨by walk_at "ob", by walk_at "ob", by walk_at "ob", by walk_at "ob"⟩, (by walk_at "ob"), fun t3 ts3 O3 H3 S3 ht3 hd3 ho3 hm3 h83 => ?_⟩
    exact q _ _ _ _ ((Same.refl H).trans S3) ht3 hd3 ho3 hm3 h83

theorem sc_law_purl : FnScope ["_law_script", "_law_spot_here", "_law_mixed", "_law_cell", "_law_own"] ["_law_script", "_law_spot_here"] (defScope s_law_purl) := ⟨rfl, rfl, rfl, by decide +kernel, rfl, by decide +kernel, by decide +kernel⟩
abbrev sc_law_purlN : List Str := ["_law_script", "_law_spot_here", "_law_mixed", "_law_cell", "_law_own"]
def sp_law_purl (K : PySem.W.Frag) : Sp := fun vs H Q _ => ∃ (a : Addr) (ns : List Int) (k : Int), vs = [.ref a, .int k] ∧ SqL K H a (ns.map V.int) ∧ ns.length ≤ 63 ∧ 0 ≤ k ∧ k < 64 ∧ ∀ p m o H', Same H H' → H p = none → Prl H' p m o → Q (.ref p) H'
theorem at_nat {ns : List Int} {k : Int} (h0 : 0 ≤ k) (h : k < ns.length) : atI (ns.map V.int) k = some (.int (ns.getD k.toNat 0)) := by
  have hk : k.toNat < ns.length := by omega
  have := atI_nat (xs := ns.map V.int) (j := k.toNat) (v := .int (ns.getD k.toNat 0)) (by rw [List.getElem?_map, List.getD_eq_getElem?_getD, List.getElem?_eq_getElem hk]; rfl)
  rwa [Int.toNat_of_nonneg h0] at this
theorem cutV_map (ns : List Int) (lo hi : Option Int) : ∃ ms : List Int, cutV (ns.map V.int) lo hi = ms.map V.int ∧ ms.length ≤ ns.length := by
  unfold cutV
  refine ⟨(ns.drop (HT.sIx (ns.map V.int).length 0 lo)).take (HT.sIx (ns.map V.int).length (ns.map V.int).length hi - HT.sIx (ns.map V.int).length 0 lo), ?_, ?_⟩
  · rw [List.map_take, List.map_drop]
  · rw [List.length_take, List.length_drop]
    omega
theorem ok_law_purl (B : Blt mg) (G : Glb K mg) (D : DefAt K mg "_law_purl" s_law_purl ["_law_script", "_law_spot_here"]) : DefOk P w K mg base 1 "_law_purl" ["_law_script", "_law_spot_here"] (sp_law_purl K) := by
  refine def_ok D sc_law_purl (fun vs H Q E h => ?_) (fun f cdv A outer s H vs Q E hr h => ?_)
  · obtain ⟨_, _, _, rfl, _⟩ := h
    rfl
  · obtain ⟨a, ns, k, rfl, hS, hl, k0, k9, q⟩ := h
    obtain ⟨ms1, ec1, z1⟩ := cutV_map ns none (some 2)
    obtain ⟨ms2, ec2, z2⟩ := cutV_map ns (some k) (some (k + 1))
    refine ⟨_, (pss_cons (ps_set (i := 2) sc_law_purl.nd rfl (.inl rfl) (pe_op op_add pe_int (pe_op op_mul pe_int (pv 1))))
      (pss_cons (ps_for PassesOwn.never rfl (pi_list (pe_op op_cat (pe_slice sl_list (pv 0) po_none (po_some pe_int)) (pe_slice sl_list (pv 0) (po_some (pv 1)) (po_some (pe_op op_add (pv 1) pe_int))))) (pg_name (i := 3) sc_law_purl.nd rfl (.inl rfl)) (pss_one (ps_set (i := 2) sc_law_purl.nd rfl (.inl rfl) (pe_op op_mod (pe_callTy call_int1 (by rfl) B.int bt_int (pa_cons (pe_op op_add (pe_op op_add (pe_op op_mul (pv 2) pe_int) (pv 3)) pe_int) pa_nil)) pe_int))))
      (pss_cons (ps_set (i := 4) sc_law_purl.nd rfl (.inl rfl) (pe_ifExp (pt_cmpR op_lt (pv 1) (pe_callB call_len_seq (by rfl) B.len bt_len (pa_cons (pv 0) pa_nil)) (nomark _)) (pe_ix ix_list (pv 0) (pv 1) (fun _ _ => rfl)) pe_int))
      (pss_one (ps_ret (pe_lst (pa_cons (pv 2) (pa_cons (pe_ifExp (pt_cmpR op_ge (pe_callB call_abs (by rfl) B.abs bt_abs (pa_cons (pv 4) pa_nil)) (pe_op op_powN pe_int pe_int) (nomark _)) (pe_callB call_abs (by rfl) B.abs bt_abs (pa_cons (pv 4) pa_nil)) pe_int) pa_nil)))))))), ?_⟩
    refine ⟨_, rfl, _, _, rfl, rfl, (Or.inl ⟨by decide, by decide⟩), _, _, rfl, rfl, _, rfl, _, rfl, _, _, rfl, hS, fun l1 nl1 => ?_⟩
    refine ⟨_, rfl, _, rfl, _, rfl, _, rfl, _, _, rfl, rfl, _, rfl, _, _, rfl, (seqL (same_upd nl1) hS), fun l2 nl2 => ?_⟩
    refine ⟨_, _, _, _, rfl, rfl, ((same_upd nl2) _ _ upd_same), upd_same, (by rw [ec1, ec2, List.length_map, List.length_map]; exact Nat.le_of_lt (small1000 (by omega))), fun l3 nl3 => ?_⟩
    refine ⟨_, rfl, ⟨_, SqL.new⟩, for_list (K := K) (xs := ms1.map V.int ++ ms2.map V.int) (fun i σ H' => ∃ z y, Same H H' ∧ SqL K H' l3 (ms1.map V.int ++ ms2.map V.int) ∧ σ = [some (.ref a), some (.int k), some (.int z), y, none] ∧ 0 ≤ z ∧ z < 2147483629) ⟨104729 + 61 * k, none, ((((Same.refl H).trans (same_upd nl1)).trans (same_upd nl2)).trans (same_upd nl3)), by rw [← ec1, ← ec2]; exact SqL.new, rfl, by omega, by omega⟩ (fun i σ H' _ ⟨_, _, _, h, _⟩ => h) ?_ ?_⟩
    · rintro i x σ H' hx ⟨z, y, S', hL', rfl, z0, z9⟩
      obtain ⟨c, rfl⟩ : ∃ c, x = .int c := by
        have := List.mem_of_getElem? hx
        rw [← List.map_append, List.mem_map] at this
        obtain ⟨c, _, e⟩ := this
        exact ⟨c, e.symm⟩
      refine ⟨_, rfl, _, _, rfl, rfl, (Or.inr ⟨by decide, by decide⟩), _, rfl, _, _, rfl, rfl, _, _, rfl, rfl, .inl ⟨_, rfl, _, _, rfl, rfl, (by walk_at "ob"), ?_⟩⟩
      exact ⟨_, _, S', hL', rfl, Int.emod_nonneg _ (by decide), Int.emod_lt_of_pos _ (by decide)⟩
    · rintro σ H' ⟨z, y, S', hL', rfl, z0, z9⟩
      refine ⟨_, rfl, _, rfl, _, _, rfl, .inl (seqL S' hS), _, _, rfl, rfl, _, rfl, ?_⟩
      refine ite2 (fun e4 => ?_) (fun e4 => ?_)
      · try simp only [decide_eq_true_eq, Bool.not_eq_true', decide_eq_false_iff_not, Bool.not_eq_false', Bool.not_eq_true, Decidable.not_not, V.int.injEq, V.bl.injEq, V.str.injEq] at e4
        refine ⟨_, rfl, _, rfl, _, _, _, _, rfl, rfl, (seqL S' hS), (at_nat k0 (by rw [List.length_map] at e4; omega)), _, rfl, _, rfl, _, rfl, _, _, rfl, rfl, (by walk_at "ob"), fun w5 ew5 => ?_⟩
        have ew5 : w5 = 1000000000000000000 := ew5
        refine ⟨_, _, rfl, rfl, _, rfl, ?_⟩
        refine ite2 (fun e6 => ?_) (fun e6 => ?_)
        · try simp only [decide_eq_true_eq, Bool.not_eq_true', decide_eq_false_iff_not, Bool.not_eq_false', Bool.not_eq_true, Decidable.not_not, V.int.injEq, V.bl.injEq, V.str.injEq] at e6
          refine ⟨_, rfl, _, rfl, (by show 2 ≤ sizeLine; decide), fun l7 nl7 => ?_⟩
          exact q _ _ _ _ (S'.trans (same_upd nl7)) (S'.free nl7) ⟨upd_same, z0, z9, by omega⟩
        · try simp only [decide_eq_true_eq, Bool.not_eq_true', decide_eq_false_iff_not, Bool.not_eq_false', Bool.not_eq_true, Decidable.not_not, V.int.injEq, V.bl.injEq, V.str.injEq] at e6
          refine ⟨(by show 2 ≤ sizeLine; decide), fun l8 nl8 => ?_⟩
          exact q _ _ _ _ (S'.trans (same_upd nl8)) (S'.free nl8) ⟨upd_same, z0, z9, by omega⟩
      · try simp only [decide_eq_true_eq, Bool.not_eq_true', decide_eq_false_iff_not, Bool.not_eq_false', Bool.not_eq_true, Decidable.not_not, V.int.injEq, V.bl.injEq, V.str.injEq] at e4
        refine ⟨_, rfl, _, rfl, _, rfl, _, _, rfl, rfl, (by walk_at "ob"), fun w9 ew9 => ?_⟩
        have ew9 : w9 = 1000000000000000000 := ew9
        refine ⟨_, _, rfl, rfl, _, rfl, ?_⟩
        refine ite2 (fun e10 => ?_) (fun e10 => ?_)
        · try simp only [decide_eq_true_eq, Bool.not_eq_true', decide_eq_false_iff_not, Bool.not_eq_false', Bool.not_eq_true, Decidable.not_not, V.int.injEq, V.bl.injEq, V.str.injEq] at e10
          refine ⟨_, rfl, _, rfl, (by show 2 ≤ sizeLine; decide), fun l11 nl11 => ?_⟩
          exact q _ _ _ _ (S'.trans (same_upd nl11)) (S'.free nl11) ⟨upd_same, z0, z9, by omega⟩
        · try simp only [decide_eq_true_eq, Bool.not_eq_true', decide_eq_false_iff_not, Bool.not_eq_false', Bool.not_eq_true, Decidable.not_not, V.int.injEq, V.bl.injEq, V.str.injEq] at e10
          refine ⟨(by show 2 ≤ sizeLine; decide), fun l12 nl12 => ?_⟩
          exact q _ _ _ _ (S'.trans (same_upd nl12)) (S'.free nl12) ⟨upd_same, z0, z9, by omega⟩

theorem sc_law_dig : FnScope ["_law_purl_here", "_law_many", "_law_digit"] ["_law_purl_here", "_law_many"] (defScope s_law_dig) := ⟨rfl, rfl, rfl, by decide +kernel, rfl, by decide +kernel, by decide +kernel⟩
abbrev sc_law_digN : List Str := ["_law_purl_here", "_law_many", "_law_digit"]
def sp_law_dig : Sp := fun vs H Q _ => ∃ p many m o, vs = [.ref p, .int many] ∧ Prl H p m o ∧ 0 < many ∧ many < 1073741824 ∧ ∀ d m' o' H', 0 ≤ d → d < many → SameX p H H' → Prl H' p m' o' → Q (.int d) H'
theorem ok_law_dig (B : Blt mg) (G : Glb K mg) (D : DefAt K mg "_law_dig" s_law_dig ["_law_purl_here", "_law_many"]) : DefOk P w K mg base 1 "_law_dig" ["_law_purl_here", "_law_many"] sp_law_dig := by
  refine def_ok D sc_law_dig (fun vs H Q E h => ?_) (fun f cdv A outer s H vs Q E hr h => ?_)
  · obtain ⟨_, _, _, _, rfl, _⟩ := h
    rfl
  · obtain ⟨p, many, m, o, rfl, ⟨hp, m0, m9, o0⟩, h1, h2, q⟩ := h
    refine ⟨_, (pss_cons (ps_if (pt_cmpR op_gt (pe_ix ix_list (pv 0) pe_int (fun _ _ => rfl)) pe_int (nomark _)) (pss_cons (ps_asg (pe_callB call_divmod (by rfl) B.divmod bt_divmod (pa_cons (pe_ix ix_list (pv 0) pe_int (fun _ _ => rfl)) (pa_cons (pv 1) pa_nil))) (pg_tup rfl (pgs_cons (pg_sub (pv 0) pe_int set_list) (pgs_cons (pg_name (i := 2) sc_law_dig.nd rfl (.inl rfl)) pgs_nil))))
      (pss_one (ps_ret (pv 2)))) pss_nil)
      (pss_cons (ps_asg (pe_op op_mod (pe_callTy call_int1 (by rfl) B.int bt_int (pa_cons (pe_op op_add (pe_op op_mul (pe_ix ix_list (pv 0) pe_int (fun _ _ => rfl)) pe_int) pe_int) pa_nil)) pe_int) (pg_sub (pv 0) pe_int set_list))
      (pss_one (ps_ret (pe_op op_mod (pe_callTy call_int1 (by rfl) B.int bt_int (pa_cons (pe_op op_fdiv (pe_ix ix_list (pv 0) pe_int (fun _ _ => rfl)) pe_int) pa_nil)) (pv 1)))))), ?_⟩
    refine ⟨_, rfl, _, _, _, _, rfl, rfl, (.inl (.inl hp)), rfl, _, _, rfl, rfl, _, rfl, ?_⟩
    refine ite2 (fun e1 => ?_) (fun e1 => ?_)
    · try simp only [decide_eq_true_eq, Bool.not_eq_true', decide_eq_false_iff_not, Bool.not_eq_false', Bool.not_eq_true, Decidable.not_not, V.int.injEq, V.bl.injEq, V.str.injEq] at e1
      refine ⟨_, rfl, _, _, _, _, rfl, rfl, (.inl (.inl hp)), rfl, _, rfl, _, _, rfl, (by walk_at "ob"), fun t2 nt2 => ?_⟩
      refine ⟨_, _, rfl, SqT.new, rfl, _, _, rfl, _, rfl, _, _, _, _, rfl, rfl, ((same_upd nt2) _ _ hp), rfl, _, _, rfl, rfl, _, rfl, ?_⟩
      exact q _ _ _ _ (Int.emod_nonneg _ (by omega)) (Int.emod_lt_of_pos _ h1) (((SameX.refl p H).trans (SameX.of (same_upd nt2))).trans SameX.upd) ⟨upd_same, m0, m9, Int.ediv_nonneg o0 (by omega)⟩
    · try simp only [decide_eq_true_eq, Bool.not_eq_true', decide_eq_false_iff_not, Bool.not_eq_false', Bool.not_eq_true, Decidable.not_not, V.int.injEq, V.bl.injEq, V.str.injEq] at e1
      refine ⟨_, rfl, _, _, _, _, rfl, rfl, (.inl (.inl hp)), rfl, _, _, rfl, rfl, (Or.inr ⟨by decide, by decide⟩), _, _, rfl, rfl, .inl ⟨_, rfl, _, _, rfl, rfl, (by walk_at "ob"), _, rfl, _, _, _, _, rfl, rfl, hp, rfl, _, rfl, _, _, _, _, rfl, rfl, (.inl (.inl upd_same)), rfl, _, _, rfl, rfl, (by walk_at "ob"), .inl ⟨_, rfl, _, rfl, _, _, rfl, rfl, h1, ?_⟩⟩⟩
      exact q _ _ _ _ (Int.emod_nonneg _ (by omega)) (Int.emod_lt_of_pos _ h1) ((SameX.refl p H).trans SameX.upd) ⟨upd_same, Int.emod_nonneg _ (by decide), Int.emod_lt_of_pos _ (by decide), o0⟩

theorem sc_law_far : FnScope ["_law_purl_here", "_law_figures", "_law_found", "_law_k"] ["_law_purl_here"] (defScope s_law_far) := ⟨rfl, rfl, rfl, by decide +kernel, rfl, by decide +kernel, by decide +kernel⟩
abbrev sc_law_farN : List Str := ["_law_purl_here", "_law_figures", "_law_found", "_law_k"]
def sp_law_far : Sp := fun vs H Q _ => ∃ p m o, vs = [.ref p] ∧ Prl H p m o ∧ ∀ n m' o' H', 1 ≤ n → n ≤ 10 ^ 30 → SameX p H H' → Prl H' p m' o' → Q (.int n) H'
theorem ok_law_far (B : Blt mg) (G : Glb K mg) (D : DefAt K mg "_law_far" s_law_far ["_law_purl_here"]) (d_law_dig : DefOk P w K mg base 1 "_law_dig" ["_law_purl_here", "_law_many"] sp_law_dig) : DefOk P w K mg base 2 "_law_far" ["_law_purl_here"] sp_law_far := by
  refine def_ok D sc_law_far (fun vs H Q E h => ?_) (fun f cdv A outer s H vs Q E hr h => ?_)
  · obtain ⟨_, _, _, rfl, _⟩ := h
    rfl
  · obtain ⟨p, m, o, rfl, hp, q⟩ := h
    refine ⟨_, (pss_cons (ps_if (pt_cmpR op_eq (pe_callD d_law_dig (hr.mono (by decide)) (by rfl) (pa_cons (pv 0) (pa_cons pe_int pa_nil))) pe_int (nomark _)) (pss_one (ps_ret (pe_op op_add pe_int (pe_callD d_law_dig (hr.mono (by decide)) (by rfl) (pa_cons (pv 0) (pa_cons pe_int pa_nil)))))) pss_nil)
      (pss_cons (ps_par (i := 1) (j := 2) rfl sc_law_far.nd rfl rfl (by decide) rfl rfl (pa_cons (pe_op op_add pe_int (pe_callD d_law_dig (hr.mono (by decide)) (by rfl) (pa_cons (pv 0) (pa_cons pe_int pa_nil)))) (pa_cons pe_int pa_nil)) (by rfl))
      (pss_cons (ps_for PassesOwn.never rfl (pi_range1 (by rfl) B.range (pa_cons (pv 1) pa_nil)) (pg_name (i := 3) sc_law_far.nd rfl (.inl rfl)) (pss_one (ps_set (i := 2) sc_law_far.nd rfl (.inl rfl) (pe_op op_add (pe_op op_mul (pv 2) pe_int) (pe_callD d_law_dig (hr.mono (by decide)) (by rfl) (pa_cons (pv 0) (pa_cons pe_int pa_nil)))))))
      (pss_one (ps_ret (pe_op op_add pe_int (pe_op op_mod (pe_callTy call_int1 (by rfl) B.int bt_int (pa_cons (pv 2) pa_nil)) (pe_op op_powN pe_int pe_int)))))))), ?_⟩
    refine ⟨_, rfl, _, _, _, _, rfl, hp, (by walk_at "ob"), (by walk_at "ob"), fun d1 m1 o1 H1 da1 db1 X1 hp1 => ?_⟩
    refine ⟨rfl, _, rfl, ?_⟩
    refine ite2 (fun e2 => ?_) (fun e2 => ?_)
    · try simp only [decide_eq_true_eq, Bool.not_eq_true', decide_eq_false_iff_not, Bool.not_eq_false', Bool.not_eq_true, Decidable.not_not, V.int.injEq, V.bl.injEq, V.str.injEq] at e2
      refine ⟨_, rfl, _, _, _, _, rfl, hp1, (by walk_at "ob"), (by walk_at "ob"), fun d3 m3 o3 H3 da3 db3 X3 hp3 => ?_⟩
      refine ⟨_, _, rfl, rfl, ?_⟩
      exact q _ _ _ _ (by omega) (by omega) (((SameX.refl p H).trans X1).trans X3) hp3
    · try simp only [decide_eq_true_eq, Bool.not_eq_true', decide_eq_false_iff_not, Bool.not_eq_false', Bool.not_eq_true, Decidable.not_not, V.int.injEq, V.bl.injEq, V.str.injEq] at e2
      refine ⟨_, rfl, _, _, _, _, rfl, hp1, (by walk_at "ob"), (by walk_at "ob"), fun d4 m4 o4 H4 da4 db4 X4 hp4 => ?_⟩
      refine ⟨_, _, rfl, rfl, _, _, rfl, _, rfl, _, rfl, (by walk_at "ob"), (by walk_at "ob"), for_range (fun i σ H' => ∃ z y m o, SameX p H H' ∧ Prl H' p m o ∧ σ = [some (.ref p), some (.int (2 + d4)), some (.int z), y]) ⟨0, none, _, _, (((SameX.refl p H).trans X1).trans X4), hp4, rfl⟩ ?_ ?_⟩
      · rintro i σ H' hi ⟨z, y, m', o', X', hp', rfl⟩
        refine ⟨_, rfl, _, _, rfl, rfl, (Or.inr ⟨by decide, by decide⟩), _, rfl, _, _, _, _, rfl, hp', (by walk_at "ob"), (by walk_at "ob"), fun d5 m5 o5 H5 da5 db5 X5 hp5 => ?_⟩
        refine ⟨_, _, rfl, rfl, ?_⟩
        exact ⟨_, _, _, _, (X'.trans X5), hp5, rfl⟩
      · rintro σ H' ⟨z, y, m', o', X', hp', rfl⟩
        refine ⟨_, rfl, .inl ⟨_, rfl, _, _, rfl, rfl, (by walk_at "ob"), fun w6 ew6 => ?_⟩⟩
        have ew6 : w6 = 1000000000000000000000000000000 := ew6
        refine ⟨_, _, rfl, rfl, (by walk_at "ob"), _, _, rfl, rfl, ?_⟩
        subst ew6
        exact q _ _ _ _ (by omega) (by omega) X' hp'

theorem sc_law_spot : FnScope ["_law_purl_here", "_law_size", "_law_kind", "_law_row", "_law_column"] ["_law_purl_here", "_law_size"] (defScope s_law_spot) := ⟨rfl, rfl, rfl, by decide +kernel, rfl, by decide +kernel, by decide +kernel⟩
abbrev sc_law_spotN : List Str := ["_law_purl_here", "_law_size", "_law_kind", "_law_row", "_law_column"]
def sp_law_spot (K : PySem.W.Frag) : Sp := fun vs H Q _ => ∃ p m o n, vs = [.ref p, .int n] ∧ Prl H p m o ∧ 1 ≤ n ∧ n ≤ 10 ^ 30 ∧ ∀ t r c m' o' H', 0 ≤ r → r < n → 0 ≤ c → c < n → SameX p H H' → Prl H' p m' o' → SqT K H' t [.int r, .int c] → Q (.ref t) H'
theorem ok_law_spot (B : Blt mg) (G : Glb K mg) (D : DefAt K mg "_law_spot" s_law_spot ["_law_purl_here", "_law_size"]) (d_law_dig : DefOk P w K mg base 1 "_law_dig" ["_law_purl_here", "_law_many"] sp_law_dig) : DefOk P w K mg base 2 "_law_spot" ["_law_purl_here", "_law_size"] (sp_law_spot K) := by
  refine def_ok D sc_law_spot (fun vs H Q E h => ?_) (fun f cdv A outer s H vs Q E hr h => ?_)
  · obtain ⟨_, _, _, _, rfl, _⟩ := h
    rfl
  · obtain ⟨p, m, o, n, rfl, hp, n1, n9, q⟩ := h
    refine ⟨_, (pss_cons (ps_set (i := 2) sc_law_spot.nd rfl (.inl rfl) (pe_callD d_law_dig (hr.mono (by decide)) (by rfl) (pa_cons (pv 0) (pa_cons pe_int pa_nil))))
      (pss_cons (ps_set (i := 3) sc_law_spot.nd rfl (.inl rfl) (pe_op op_modB (pe_callTy call_int1 (by rfl) B.int bt_int (pa_cons (pe_op op_add (pe_op op_mul (pe_callD d_law_dig (hr.mono (by decide)) (by rfl) (pa_cons (pv 0) (pa_cons pe_int pa_nil))) (pe_op op_powN pe_int pe_int)) (pe_callD d_law_dig (hr.mono (by decide)) (by rfl) (pa_cons (pv 0) (pa_cons pe_int pa_nil)))) pa_nil)) (pv 1)))
      (pss_cons (ps_set (i := 4) sc_law_spot.nd rfl (.inl rfl) (pe_op op_modB (pe_callTy call_int1 (by rfl) B.int bt_int (pa_cons (pe_op op_add (pe_op op_mul (pe_callD d_law_dig (hr.mono (by decide)) (by rfl) (pa_cons (pv 0) (pa_cons pe_int pa_nil))) (pe_op op_powN pe_int pe_int)) (pe_callD d_law_dig (hr.mono (by decide)) (by rfl) (pa_cons (pv 0) (pa_cons pe_int pa_nil)))) pa_nil)) (pv 1)))
      (pss_cons (ps_if (pt_cmpR op_eq (pv 2) pe_int (nomark _)) (pss_one (ps_par (i := 3) (j := 4) rfl sc_law_spot.nd rfl rfl (by decide) rfl rfl (pa_cons (pe_op op_modB (pe_callTy call_int1 (by rfl) B.int bt_int (pa_cons (pe_callD d_law_dig (hr.mono (by decide)) (by rfl) (pa_cons (pv 0) (pa_cons pe_int pa_nil))) pa_nil)) (pv 1)) (pa_cons (pe_op op_modB (pe_callTy call_int1 (by rfl) B.int bt_int (pa_cons (pe_callD d_law_dig (hr.mono (by decide)) (by rfl) (pa_cons (pv 0) (pa_cons pe_int pa_nil))) pa_nil)) (pv 1)) pa_nil)) (by rfl))) pss_nil)
      (pss_cons (ps_if (pt_cmpR op_eq (pv 2) pe_int (nomark _)) (pss_cons (ps_set (i := 3) sc_law_spot.nd rfl (.inl rfl) (pe_op op_modB (pe_callTy call_int1 (by rfl) B.int bt_int (pa_cons (pe_op op_add (pe_op op_fdiv (pv 1) pe_int) (pe_callD d_law_dig (hr.mono (by decide)) (by rfl) (pa_cons (pv 0) (pa_cons pe_int pa_nil)))) pa_nil)) (pv 1)))
      (pss_one (ps_set (i := 4) sc_law_spot.nd rfl (.inl rfl) (pe_op op_modB (pe_callTy call_int1 (by rfl) B.int bt_int (pa_cons (pe_op op_add (pe_op op_fdiv (pv 1) pe_int) (pe_callD d_law_dig (hr.mono (by decide)) (by rfl) (pa_cons (pv 0) (pa_cons pe_int pa_nil)))) pa_nil)) (pv 1))))) pss_nil)
      (pss_cons (ps_if (pt_cmpR op_eq (pv 2) pe_int (nomark _)) (pss_one (ps_set (i := 4) sc_law_spot.nd rfl (.inl rfl) (pe_op op_modB (pe_callTy call_int1 (by rfl) B.int bt_int (pa_cons (pe_op op_add (pv 3) (pe_callD d_law_dig (hr.mono (by decide)) (by rfl) (pa_cons (pv 0) (pa_cons pe_int pa_nil)))) pa_nil)) (pv 1)))) pss_nil)
      (pss_cons (ps_if (pt_cmpR op_eq (pe_callD d_law_dig (hr.mono (by decide)) (by rfl) (pa_cons (pv 0) (pa_cons pe_int pa_nil))) pe_int (nomark _)) (pss_one (ps_set (i := 3) sc_law_spot.nd rfl (.inl rfl) (pe_op op_sub (pe_op op_sub (pv 1) pe_int) (pv 3)))) pss_nil)
      (pss_one (ps_ret (pe_tup (pa_cons (pv 3) (pa_cons (pv 4) pa_nil)))))))))))), ?_⟩
    refine ⟨_, rfl, _, _, _, _, rfl, hp, (by walk_at "ob"), (by walk_at "ob"), fun d1 m1 o1 H1 da1 db1 X1 hp1 => ?_⟩
    refine ⟨_, rfl, _, _, _, _, rfl, hp1, (by walk_at "ob"), (by walk_at "ob"), fun d2 m2 o2 H2 da2 db2 X2 hp2 => ?_⟩
    refine ⟨_, _, rfl, rfl, (by walk_at "ob"), fun w3 ew3 => ?_⟩
    have ew3 : w3 = 10000000000000000000000000 := ew3
    refine ⟨_, _, rfl, rfl, (by walk_at "ob"), _, rfl, _, _, _, _, rfl, hp2, (by walk_at "ob"), (by walk_at "ob"), fun d4 m4 o4 H4 da4 db4 X4 hp4 => ?_⟩
    refine ⟨_, _, rfl, rfl, .inl ⟨_, rfl, _, rfl, _, _, rfl, rfl, (by walk_at "ob"), fun y5 y5a y5b => ?_⟩⟩
    refine ⟨_, rfl, _, _, _, _, rfl, hp4, (by walk_at "ob"), (by walk_at "ob"), fun d6 m6 o6 H6 da6 db6 X6 hp6 => ?_⟩
    refine ⟨_, _, rfl, rfl, (by walk_at "ob"), fun w7 ew7 => ?_⟩
    have ew7 : w7 = 10000000000000000000000000 := ew7
    refine ⟨_, _, rfl, rfl, (by walk_at "ob"), _, rfl, _, _, _, _, rfl, hp6, (by walk_at "ob"), (by walk_at "ob"), fun d8 m8 o8 H8 da8 db8 X8 hp8 => ?_⟩
    refine ⟨_, _, rfl, rfl, .inl ⟨_, rfl, _, rfl, _, _, rfl, rfl, (by walk_at "ob"), fun y9 y9a y9b => ?_⟩⟩
    refine ⟨_, rfl, rfl, _, rfl, ?_⟩
    refine ite2 (fun e10 => ?_) (fun e10 => ?_)
    · try simp only [decide_eq_true_eq, Bool.not_eq_true', decide_eq_false_iff_not, Bool.not_eq_false', Bool.not_eq_true, Decidable.not_not, V.int.injEq, V.bl.injEq, V.str.injEq] at e10
      refine ⟨_, rfl, _, _, _, _, rfl, hp8, (by walk_at "ob"), (by walk_at "ob"), fun d11 m11 o11 H11 da11 db11 X11 hp11 => ?_⟩
      refine .inl ⟨_, rfl, _, rfl, _, _, rfl, rfl, (by walk_at "ob"), fun y12 y12a y12b => ?_⟩
      refine ⟨_, rfl, _, _, _, _, rfl, hp11, (by walk_at "ob"), (by walk_at "ob"), fun d13 m13 o13 H13 da13 db13 X13 hp13 => ?_⟩
      refine .inl ⟨_, rfl, _, rfl, _, _, rfl, rfl, (by walk_at "ob"), fun y14 y14a y14b => ?_⟩
      refine ⟨_, _, rfl, _, rfl, rfl, _, rfl, ?_⟩
      refine ite2 (fun e15 => ?_) (fun e15 => ?_)
      · try simp only [decide_eq_true_eq, Bool.not_eq_true', decide_eq_false_iff_not, Bool.not_eq_false', Bool.not_eq_true, Decidable.not_not, V.int.injEq, V.bl.injEq, V.str.injEq] at e15
        refine ⟨_, rfl, _, _, rfl, rfl, (by walk_at "ob"), _, rfl, _, _, _, _, rfl, hp13, (by walk_at "ob"), (by walk_at "ob"), fun d16 m16 o16 H16 da16 db16 X16 hp16 => ?_⟩
        refine ⟨_, _, rfl, rfl, .inl ⟨_, rfl, _, rfl, _, _, rfl, rfl, (by walk_at "ob"), fun y17 y17a y17b => ?_⟩⟩
        refine ⟨_, rfl, _, _, rfl, rfl, (by walk_at "ob"), _, rfl, _, _, _, _, rfl, hp16, (by walk_at "ob"), (by walk_at "ob"), fun d18 m18 o18 H18 da18 db18 X18 hp18 => ?_⟩
        refine ⟨_, _, rfl, rfl, .inl ⟨_, rfl, _, rfl, _, _, rfl, rfl, (by walk_at "ob"), fun y19 y19a y19b => ?_⟩⟩
        refine ⟨_, rfl, rfl, _, rfl, ?_⟩
        refine ite2 (fun e20 => ?_) (fun e20 => ?_)
        · try simp only [decide_eq_true_eq, Bool.not_eq_true', decide_eq_false_iff_not, Bool.not_eq_false', Bool.not_eq_true, Decidable.not_not, V.int.injEq, V.bl.injEq, V.str.injEq] at e20
          refine ⟨_, rfl, _, rfl, _, _, _, _, rfl, hp18, (by walk_at "ob"), (by walk_at "ob"), fun d21 m21 o21 H21 da21 db21 X21 hp21 => ?_⟩
          refine ⟨_, _, rfl, rfl, .inl ⟨_, rfl, _, rfl, _, _, rfl, rfl, (by walk_at "ob"), fun y22 y22a y22b => ?_⟩⟩
          refine ⟨_, rfl, _, _, _, _, rfl, hp21, (by walk_at "ob"), (by walk_at "ob"), fun d23 m23 o23 H23 da23 db23 X23 hp23 => ?_⟩
          refine ⟨rfl, _, rfl, ?_⟩
          refine ite2 (fun e24 => ?_) (fun e24 => ?_)
          · try simp only [decide_eq_true_eq, Bool.not_eq_true', decide_eq_false_iff_not, Bool.not_eq_false', Bool.not_eq_true, Decidable.not_not, V.int.injEq, V.bl.injEq, V.str.injEq] at e24
            refine ⟨_, rfl, _, _, rfl, rfl, _, rfl, _, _, rfl, rfl, _, rfl, _, rfl, (by show 2 ≤ sizeLine; decide), fun t25 nt25 => ?_⟩
            exact q _ _ _ _ _ _ (by omega) (by omega) (by omega) (by omega) (((((((((((((SameX.refl p H).trans X1).trans X2).trans X4).trans X6).trans X8).trans X11).trans X13).trans X16).trans X18).trans X21).trans X23).trans (SameX.of (same_upd nt25))) (Prl.same (same_upd nt25) hp23) SqT.new
          · try simp only [decide_eq_true_eq, Bool.not_eq_true', decide_eq_false_iff_not, Bool.not_eq_false', Bool.not_eq_true, Decidable.not_not, V.int.injEq, V.bl.injEq, V.str.injEq] at e24
            refine ⟨_, rfl, _, rfl, (by show 2 ≤ sizeLine; decide), fun t26 nt26 => ?_⟩
            exact q _ _ _ _ _ _ (by omega) (by omega) (by omega) (by omega) (((((((((((((SameX.refl p H).trans X1).trans X2).trans X4).trans X6).trans X8).trans X11).trans X13).trans X16).trans X18).trans X21).trans X23).trans (SameX.of (same_upd nt26))) (Prl.same (same_upd nt26) hp23) SqT.new
        · try simp only [decide_eq_true_eq, Bool.not_eq_true', decide_eq_false_iff_not, Bool.not_eq_false', Bool.not_eq_true, Decidable.not_not, V.int.injEq, V.bl.injEq, V.str.injEq] at e20
          refine ⟨_, rfl, _, _, _, _, rfl, hp18, (by walk_at "ob"), (by walk_at "ob"), fun d27 m27 o27 H27 da27 db27 X27 hp27 => ?_⟩
          refine ⟨rfl, _, rfl, ?_⟩
          refine ite2 (fun e28 => ?_) (fun e28 => ?_)
          · try simp only [decide_eq_true_eq, Bool.not_eq_true', decide_eq_false_iff_not, Bool.not_eq_false', Bool.not_eq_true, Decidable.not_not, V.int.injEq, V.bl.injEq, V.str.injEq] at e28
            refine ⟨_, rfl, _, _, rfl, rfl, _, rfl, _, _, rfl, rfl, _, rfl, _, rfl, (by show 2 ≤ sizeLine; decide), fun t29 nt29 => ?_⟩
            exact q _ _ _ _ _ _ (by omega) (by omega) (by omega) (by omega) ((((((((((((SameX.refl p H).trans X1).trans X2).trans X4).trans X6).trans X8).trans X11).trans X13).trans X16).trans X18).trans X27).trans (SameX.of (same_upd nt29))) (Prl.same (same_upd nt29) hp27) SqT.new
          · try simp only [decide_eq_true_eq, Bool.not_eq_true', decide_eq_false_iff_not, Bool.not_eq_false', Bool.not_eq_true, Decidable.not_not, V.int.injEq, V.bl.injEq, V.str.injEq] at e28
            refine ⟨_, rfl, _, rfl, (by show 2 ≤ sizeLine; decide), fun t30 nt30 => ?_⟩
            exact q _ _ _ _ _ _ (by omega) (by omega) (by omega) (by omega) ((((((((((((SameX.refl p H).trans X1).trans X2).trans X4).trans X6).trans X8).trans X11).trans X13).trans X16).trans X18).trans X27).trans (SameX.of (same_upd nt30))) (Prl.same (same_upd nt30) hp27) SqT.new
      · try simp only [decide_eq_true_eq, Bool.not_eq_true', decide_eq_false_iff_not, Bool.not_eq_false', Bool.not_eq_true, Decidable.not_not, V.int.injEq, V.bl.injEq, V.str.injEq] at e15
        refine ⟨_, rfl, rfl, _, rfl, ?_⟩
        refine ite2 (fun e31 => ?_) (fun e31 => ?_)
        · try simp only [decide_eq_true_eq, Bool.not_eq_true', decide_eq_false_iff_not, Bool.not_eq_false', Bool.not_eq_true, Decidable.not_not, V.int.injEq, V.bl.injEq, V.str.injEq] at e31
          refine ⟨_, rfl, _, rfl, _, _, _, _, rfl, hp13, (by walk_at "ob"), (by walk_at "ob"), fun d32 m32 o32 H32 da32 db32 X32 hp32 => ?_⟩
          refine ⟨_, _, rfl, rfl, .inl ⟨_, rfl, _, rfl, _, _, rfl, rfl, (by walk_at "ob"), fun y33 y33a y33b => ?_⟩⟩
          refine ⟨_, rfl, _, _, _, _, rfl, hp32, (by walk_at "ob"), (by walk_at "ob"), fun d34 m34 o34 H34 da34 db34 X34 hp34 => ?_⟩
          refine ⟨rfl, _, rfl, ?_⟩
          refine ite2 (fun e35 => ?_) (fun e35 => ?_)
          · try simp only [decide_eq_true_eq, Bool.not_eq_true', decide_eq_false_iff_not, Bool.not_eq_false', Bool.not_eq_true, Decidable.not_not, V.int.injEq, V.bl.injEq, V.str.injEq] at e35
            refine ⟨_, rfl, _, _, rfl, rfl, _, rfl, _, _, rfl, rfl, _, rfl, _, rfl, (by show 2 ≤ sizeLine; decide), fun t36 nt36 => ?_⟩
            exact q _ _ _ _ _ _ (by omega) (by omega) (by omega) (by omega) (((((((((((SameX.refl p H).trans X1).trans X2).trans X4).trans X6).trans X8).trans X11).trans X13).trans X32).trans X34).trans (SameX.of (same_upd nt36))) (Prl.same (same_upd nt36) hp34) SqT.new
          · try simp only [decide_eq_true_eq, Bool.not_eq_true', decide_eq_false_iff_not, Bool.not_eq_false', Bool.not_eq_true, Decidable.not_not, V.int.injEq, V.bl.injEq, V.str.injEq] at e35
            refine ⟨_, rfl, _, rfl, (by show 2 ≤ sizeLine; decide), fun t37 nt37 => ?_⟩
            exact q _ _ _ _ _ _ (by omega) (by omega) (by omega) (by omega) (((((((((((SameX.refl p H).trans X1).trans X2).trans X4).trans X6).trans X8).trans X11).trans X13).trans X32).trans X34).trans (SameX.of (same_upd nt37))) (Prl.same (same_upd nt37) hp34) SqT.new
        · try simp only [decide_eq_true_eq, Bool.not_eq_true', decide_eq_false_iff_not, Bool.not_eq_false', Bool.not_eq_true, Decidable.not_not, V.int.injEq, V.bl.injEq, V.str.injEq] at e31
          refine ⟨_, rfl, _, _, _, _, rfl, hp13, (by walk_at "ob"), (by walk_at "ob"), fun d38 m38 o38 H38 da38 db38 X38 hp38 => ?_⟩
          refine ⟨rfl, _, rfl, ?_⟩
          refine ite2 (fun e39 => ?_) (fun e39 => ?_)
          · try simp only [decide_eq_true_eq, Bool.not_eq_true', decide_eq_false_iff_not, Bool.not_eq_false', Bool.not_eq_true, Decidable.not_not, V.int.injEq, V.bl.injEq, V.str.injEq] at e39
            refine ⟨_, rfl, _, _, rfl, rfl, _, rfl, _, _, rfl, rfl, _, rfl, _, rfl, (by show 2 ≤ sizeLine; decide), fun t40 nt40 => ?_⟩
            exact q _ _ _ _ _ _ (by omega) (by omega) (by omega) (by omega) ((((((((((SameX.refl p H).trans X1).trans X2).trans X4).trans X6).trans X8).trans X11).trans X13).trans X38).trans (SameX.of (same_upd nt40))) (Prl.same (same_upd nt40) hp38) SqT.new
          · try simp only [decide_eq_true_eq, Bool.not_eq_true', decide_eq_false_iff_not, Bool.not_eq_false', Bool.not_eq_true, Decidable.not_not, V.int.injEq, V.bl.injEq, V.str.injEq] at e39
            refine ⟨_, rfl, _, rfl, (by show 2 ≤ sizeLine; decide), fun t41 nt41 => ?_⟩
            exact q _ _ _ _ _ _ (by omega) (by omega) (by omega) (by omega) ((((((((((SameX.refl p H).trans X1).trans X2).trans X4).trans X6).trans X8).trans X11).trans X13).trans X38).trans (SameX.of (same_upd nt41))) (Prl.same (same_upd nt41) hp38) SqT.new
    · try simp only [decide_eq_true_eq, Bool.not_eq_true', decide_eq_false_iff_not, Bool.not_eq_false', Bool.not_eq_true, Decidable.not_not, V.int.injEq, V.bl.injEq, V.str.injEq] at e10
      refine ⟨_, rfl, rfl, _, rfl, ?_⟩
      refine ite2 (fun e42 => ?_) (fun e42 => ?_)
      · try simp only [decide_eq_true_eq, Bool.not_eq_true', decide_eq_false_iff_not, Bool.not_eq_false', Bool.not_eq_true, Decidable.not_not, V.int.injEq, V.bl.injEq, V.str.injEq] at e42
        refine ⟨_, rfl, _, _, rfl, rfl, (by walk_at "ob"), _, rfl, _, _, _, _, rfl, hp8, (by walk_at "ob"), (by walk_at "ob"), fun d43 m43 o43 H43 da43 db43 X43 hp43 => ?_⟩
        refine ⟨_, _, rfl, rfl, .inl ⟨_, rfl, _, rfl, _, _, rfl, rfl, (by walk_at "ob"), fun y44 y44a y44b => ?_⟩⟩
        refine ⟨_, rfl, _, _, rfl, rfl, (by walk_at "ob"), _, rfl, _, _, _, _, rfl, hp43, (by walk_at "ob"), (by walk_at "ob"), fun d45 m45 o45 H45 da45 db45 X45 hp45 => ?_⟩
        refine ⟨_, _, rfl, rfl, .inl ⟨_, rfl, _, rfl, _, _, rfl, rfl, (by walk_at "ob"), fun y46 y46a y46b => ?_⟩⟩
        refine ⟨_, rfl, rfl, _, rfl, ?_⟩
        refine ite2 (fun e47 => ?_) (fun e47 => ?_)
        · try simp only [decide_eq_true_eq, Bool.not_eq_true', decide_eq_false_iff_not, Bool.not_eq_false', Bool.not_eq_true, Decidable.not_not, V.int.injEq, V.bl.injEq, V.str.injEq] at e47
          refine ⟨_, rfl, _, rfl, _, _, _, _, rfl, hp45, (by walk_at "ob"), (by walk_at "ob"), fun d48 m48 o48 H48 da48 db48 X48 hp48 => ?_⟩
          refine ⟨_, _, rfl, rfl, .inl ⟨_, rfl, _, rfl, _, _, rfl, rfl, (by walk_at "ob"), fun y49 y49a y49b => ?_⟩⟩
          refine ⟨_, rfl, _, _, _, _, rfl, hp48, (by walk_at "ob"), (by walk_at "ob"), fun d50 m50 o50 H50 da50 db50 X50 hp50 => ?_⟩
          refine ⟨rfl, _, rfl, ?_⟩
          refine ite2 (fun e51 => ?_) (fun e51 => ?_)
          · try simp only [decide_eq_true_eq, Bool.not_eq_true', decide_eq_false_iff_not, Bool.not_eq_false', Bool.not_eq_true, Decidable.not_not, V.int.injEq, V.bl.injEq, V.str.injEq] at e51
            refine ⟨_, rfl, _, _, rfl, rfl, _, rfl, _, _, rfl, rfl, _, rfl, _, rfl, (by show 2 ≤ sizeLine; decide), fun t52 nt52 => ?_⟩
            exact q _ _ _ _ _ _ (by omega) (by omega) (by omega) (by omega) (((((((((((SameX.refl p H).trans X1).trans X2).trans X4).trans X6).trans X8).trans X43).trans X45).trans X48).trans X50).trans (SameX.of (same_upd nt52))) (Prl.same (same_upd nt52) hp50) SqT.new
          · try simp only [decide_eq_true_eq, Bool.not_eq_true', decide_eq_false_iff_not, Bool.not_eq_false', Bool.not_eq_true, Decidable.not_not, V.int.injEq, V.bl.injEq, V.str.injEq] at e51
            refine ⟨_, rfl, _, rfl, (by show 2 ≤ sizeLine; decide), fun t53 nt53 => ?_⟩
            exact q _ _ _ _ _ _ (by omega) (by omega) (by omega) (by omega) (((((((((((SameX.refl p H).trans X1).trans X2).trans X4).trans X6).trans X8).trans X43).trans X45).trans X48).trans X50).trans (SameX.of (same_upd nt53))) (Prl.same (same_upd nt53) hp50) SqT.new
        · try simp only [decide_eq_true_eq, Bool.not_eq_true', decide_eq_false_iff_not, Bool.not_eq_false', Bool.not_eq_true, Decidable.not_not, V.int.injEq, V.bl.injEq, V.str.injEq] at e47
          refine ⟨_, rfl, _, _, _, _, rfl, hp45, (by walk_at "ob"), (by walk_at "ob"), fun d54 m54 o54 H54 da54 db54 X54 hp54 => ?_⟩
          refine ⟨rfl, _, rfl, ?_⟩
          refine ite2 (fun e55 => ?_) (fun e55 => ?_)
          · try simp only [decide_eq_true_eq, Bool.not_eq_true', decide_eq_false_iff_not, Bool.not_eq_false', Bool.not_eq_true, Decidable.not_not, V.int.injEq, V.bl.injEq, V.str.injEq] at e55
            refine ⟨_, rfl, _, _, rfl, rfl, _, rfl, _, _, rfl, rfl, _, rfl, _, rfl, (by show 2 ≤ sizeLine; decide), fun t56 nt56 => ?_⟩
            exact q _ _ _ _ _ _ (by omega) (by omega) (by omega) (by omega) ((((((((((SameX.refl p H).trans X1).trans X2).trans X4).trans X6).trans X8).trans X43).trans X45).trans X54).trans (SameX.of (same_upd nt56))) (Prl.same (same_upd nt56) hp54) SqT.new
          · try simp only [decide_eq_true_eq, Bool.not_eq_true', decide_eq_false_iff_not, Bool.not_eq_false', Bool.not_eq_true, Decidable.not_not, V.int.injEq, V.bl.injEq, V.str.injEq] at e55
            refine ⟨_, rfl, _, rfl, (by show 2 ≤ sizeLine; decide), fun t57 nt57 => ?_⟩
            exact q _ _ _ _ _ _ (by omega) (by omega) (by omega) (by omega) ((((((((((SameX.refl p H).trans X1).trans X2).trans X4).trans X6).trans X8).trans X43).trans X45).trans X54).trans (SameX.of (same_upd nt57))) (Prl.same (same_upd nt57) hp54) SqT.new
      · try simp only [decide_eq_true_eq, Bool.not_eq_true', decide_eq_false_iff_not, Bool.not_eq_false', Bool.not_eq_true, Decidable.not_not, V.int.injEq, V.bl.injEq, V.str.injEq] at e42
        refine ⟨_, rfl, rfl, _, rfl, ?_⟩
        refine ite2 (fun e58 => ?_) (fun e58 => ?_)
        · try simp only [decide_eq_true_eq, Bool.not_eq_true', decide_eq_false_iff_not, Bool.not_eq_false', Bool.not_eq_true, Decidable.not_not, V.int.injEq, V.bl.injEq, V.str.injEq] at e58
          refine ⟨_, rfl, _, rfl, _, _, _, _, rfl, hp8, (by walk_at "ob"), (by walk_at "ob"), fun d59 m59 o59 H59 da59 db59 X59 hp59 => ?_⟩
          refine ⟨_, _, rfl, rfl, .inl ⟨_, rfl, _, rfl, _, _, rfl, rfl, (by walk_at "ob"), fun y60 y60a y60b => ?_⟩⟩
          refine ⟨_, rfl, _, _, _, _, rfl, hp59, (by walk_at "ob"), (by walk_at "ob"), fun d61 m61 o61 H61 da61 db61 X61 hp61 => ?_⟩
          refine ⟨rfl, _, rfl, ?_⟩
          refine ite2 (fun e62 => ?_) (fun e62 => ?_)
          · try simp only [decide_eq_true_eq, Bool.not_eq_true', decide_eq_false_iff_not, Bool.not_eq_false', Bool.not_eq_true, Decidable.not_not, V.int.injEq, V.bl.injEq, V.str.injEq] at e62
            refine ⟨_, rfl, _, _, rfl, rfl, _, rfl, _, _, rfl, rfl, _, rfl, _, rfl, (by show 2 ≤ sizeLine; decide), fun t63 nt63 => ?_⟩
            exact q _ _ _ _ _ _ (by omega) (by omega) (by omega) (by omega) (((((((((SameX.refl p H).trans X1).trans X2).trans X4).trans X6).trans X8).trans X59).trans X61).trans (SameX.of (same_upd nt63))) (Prl.same (same_upd nt63) hp61) SqT.new
          · try simp only [decide_eq_true_eq, Bool.not_eq_true', decide_eq_false_iff_not, Bool.not_eq_false', Bool.not_eq_true, Decidable.not_not, V.int.injEq, V.bl.injEq, V.str.injEq] at e62
            refine ⟨_, rfl, _, rfl, (by show 2 ≤ sizeLine; decide), fun t64 nt64 => ?_⟩
            exact q _ _ _ _ _ _ (by omega) (by omega) (by omega) (by omega) (((((((((SameX.refl p H).trans X1).trans X2).trans X4).trans X6).trans X8).trans X59).trans X61).trans (SameX.of (same_upd nt64))) (Prl.same (same_upd nt64) hp61) SqT.new
        · try simp only [decide_eq_true_eq, Bool.not_eq_true', decide_eq_false_iff_not, Bool.not_eq_false', Bool.not_eq_true, Decidable.not_not, V.int.injEq, V.bl.injEq, V.str.injEq] at e58
          refine ⟨_, rfl, _, _, _, _, rfl, hp8, (by walk_at "ob"), (by walk_at "ob"), fun d65 m65 o65 H65 da65 db65 X65 hp65 => ?_⟩
          refine ⟨rfl, _, rfl, ?_⟩
          refine ite2 (fun e66 => ?_) (fun e66 => ?_)
          · try simp only [decide_eq_true_eq, Bool.not_eq_true', decide_eq_false_iff_not, Bool.not_eq_false', Bool.not_eq_true, Decidable.not_not, V.int.injEq, V.bl.injEq, V.str.injEq] at e66
            refine ⟨_, rfl, _, _, rfl, rfl, _, rfl, _, _, rfl, rfl, _, rfl, _, rfl, (by show 2 ≤ sizeLine; decide), fun t67 nt67 => ?_⟩
            exact q _ _ _ _ _ _ (by omega) (by omega) (by omega) (by omega) ((((((((SameX.refl p H).trans X1).trans X2).trans X4).trans X6).trans X8).trans X65).trans (SameX.of (same_upd nt67))) (Prl.same (same_upd nt67) hp65) SqT.new
          · try simp only [decide_eq_true_eq, Bool.not_eq_true', decide_eq_false_iff_not, Bool.not_eq_false', Bool.not_eq_true, Decidable.not_not, V.int.injEq, V.bl.injEq, V.str.injEq] at e66
            refine ⟨_, rfl, _, rfl, (by show 2 ≤ sizeLine; decide), fun t68 nt68 => ?_⟩
            exact q _ _ _ _ _ _ (by omega) (by omega) (by omega) (by omega) ((((((((SameX.refl p H).trans X1).trans X2).trans X4).trans X6).trans X8).trans X65).trans (SameX.of (same_upd nt68))) (Prl.same (same_upd nt68) hp65) SqT.new

theorem sc_law_cells : FnScope ["_law_size", "_law_row", "_law_column", "_law_far_here", "_law_off", "_law_found"] ["_law_size", "_law_row", "_law_column"] (defScope s_law_cells) := ⟨rfl, rfl, rfl, by decide +kernel, rfl, by decide +kernel, by decide +kernel⟩
abbrev sc_law_cellsN : List Str := ["_law_size", "_law_row", "_law_column", "_law_far_here", "_law_off", "_law_found"]
def sp_law_cells (K : PySem.W.Frag) : Sp := fun vs H Q _ => ∃ n r c, vs = [.int n, .int r, .int c] ∧ ∀ l ts H', Same H H' → H l = none → H' l = some (.lst ts) → DpAll K H' ts ((cells8 n r c).map cD) → Q (.ref l) H'
theorem ok_law_cells (B : Blt mg) (G : Glb K mg) (D : DefAt K mg "_law_cells" s_law_cells ["_law_size", "_law_row", "_law_column"]) : DefOk P w K mg base 1 "_law_cells" ["_law_size", "_law_row", "_law_column"] (sp_law_cells K) := by
  refine def_ok D sc_law_cells (fun vs H Q E h => ?_) (fun f cdv A outer s H vs Q E hr h => ?_)
  · obtain ⟨_, _, _, rfl, _⟩ := h
    rfl
  · obtain ⟨n, r, c, rfl, q⟩ := h
    refine ⟨_, (pss_cons (ps_par (i := 3) (j := 4) rfl sc_law_cells.nd rfl rfl (by decide) rfl rfl (pa_cons (pe_op op_sub (pe_op op_sub (pv 0) pe_int) (pv 1)) (pa_cons (pe_op op_sub (pe_op op_sub (pv 0) pe_int) (pv 2)) pa_nil)) (by rfl))
      (pss_cons (ps_set (i := 5) sc_law_cells.nd rfl (.inl rfl) (pe_lst (pa_cons (pe_tup (pa_cons (pv 1) (pa_cons (pv 2) pa_nil))) (pa_cons (pe_tup (pa_cons (pv 2) (pa_cons (pv 1) pa_nil))) (pa_cons (pe_tup (pa_cons (pv 1) (pa_cons (pv 4) pa_nil))) (pa_cons (pe_tup (pa_cons (pv 4) (pa_cons (pv 1) pa_nil))) (pa_cons (pe_tup (pa_cons (pv 3) (pa_cons (pv 2) pa_nil))) (pa_cons (pe_tup (pa_cons (pv 2) (pa_cons (pv 3) pa_nil))) (pa_cons (pe_tup (pa_cons (pv 3) (pa_cons (pv 4) pa_nil))) pa_nil)))))))))
      (pss_one (ps_ret (pe_op op_cat (pv 5) (pe_lst (pa_cons (pe_tup (pa_cons (pv 4) (pa_cons (pv 3) pa_nil))) pa_nil))))))), ?_⟩
    refine ⟨_, rfl, _, _, rfl, rfl, _, rfl, _, _, rfl, rfl, _, rfl, _, _, rfl, rfl, _, rfl, _, _, rfl, rfl, _, _, rfl, _, rfl, _, rfl, (by show 2 ≤ sizeLine; decide), fun t1 nt1 => ?_⟩
    refine ⟨_, rfl, _, rfl, (by show 2 ≤ sizeLine; decide), fun t2 nt2 => ?_⟩
    refine ⟨_, rfl, _, rfl, (by show 2 ≤ sizeLine; decide), fun t3 nt3 => ?_⟩
    refine ⟨_, rfl, _, rfl, (by show 2 ≤ sizeLine; decide), fun t4 nt4 => ?_⟩
    refine ⟨_, rfl, _, rfl, (by show 2 ≤ sizeLine; decide), fun t5 nt5 => ?_⟩
    refine ⟨_, rfl, _, rfl, (by show 2 ≤ sizeLine; decide), fun t6 nt6 => ?_⟩
    refine ⟨_, rfl, _, rfl, (by show 2 ≤ sizeLine; decide), fun t7 nt7 => ?_⟩
    refine ⟨(by show 7 ≤ sizeLine; decide), fun l8 nl8 => ?_⟩
    refine ⟨_, rfl, _, rfl, _, rfl, (by show 2 ≤ sizeLine; decide), fun t9 nt9 => ?_⟩
    refine ⟨(by show 1 ≤ sizeLine; decide), fun l10 nl10 => ?_⟩
    refine ⟨_, _, _, _, rfl, rfl, ((same_upd nl10) _ _ ((same_upd nt9) _ _ upd_same)), upd_same, (by show 8 ≤ sizeLine; decide), fun l11 nl11 => ?_⟩
    exact q _ _ _ ((((((((((((Same.refl H).trans (same_upd nt1)).trans (same_upd nt2)).trans (same_upd nt3)).trans (same_upd nt4)).trans (same_upd nt5)).trans (same_upd nt6)).trans (same_upd nt7)).trans (same_upd nl8)).trans (same_upd nt9)).trans (same_upd nl10)).trans (same_upd nl11)) (Same.free (((((((((((Same.refl H).trans (same_upd nt1)).trans (same_upd nt2)).trans (same_upd nt3)).trans (same_upd nt4)).trans (same_upd nt5)).trans (same_upd nt6)).trans (same_upd nt7)).trans (same_upd nl8)).trans (same_upd nt9)).trans (same_upd nl10)) nl11) upd_same (.cons (cD_of (seqT (same_upd nl11) (seqT (same_upd nl10) (seqT (same_upd nt9) (seqT (same_upd nl8) (seqT (same_upd nt7) (seqT (same_upd nt6) (seqT (same_upd nt5) (seqT (same_upd nt4) (seqT (same_upd nt3) (seqT (same_upd nt2) SqT.new))))))))))) (.cons (cD_of (seqT (same_upd nl11) (seqT (same_upd nl10) (seqT (same_upd nt9) (seqT (same_upd nl8) (seqT (same_upd nt7) (seqT (same_upd nt6) (seqT (same_upd nt5) (seqT (same_upd nt4) (seqT (same_upd nt3) SqT.new)))))))))) (.cons (cD_of (seqT (same_upd nl11) (seqT (same_upd nl10) (seqT (same_upd nt9) (seqT (same_upd nl8) (seqT (same_upd nt7) (seqT (same_upd nt6) (seqT (same_upd nt5) (seqT (same_upd nt4) SqT.new))))))))) (.cons (cD_of (seqT (same_upd nl11) (seqT (same_upd nl10) (seqT (same_upd nt9) (seqT (same_upd nl8) (seqT (same_upd nt7) (seqT (same_upd nt6) (seqT (same_upd nt5) SqT.new)))))))) (.cons (cD_of (seqT (same_upd nl11) (seqT (same_upd nl10) (seqT (same_upd nt9) (seqT (same_upd nl8) (seqT (same_upd nt7) (seqT (same_upd nt6) SqT.new))))))) (.cons (cD_of (seqT (same_upd nl11) (seqT (same_upd nl10) (seqT (same_upd nt9) (seqT (same_upd nl8) (seqT (same_upd nt7) SqT.new)))))) (.cons (cD_of (seqT (same_upd nl11) (seqT (same_upd nl10) (seqT (same_upd nt9) (seqT (same_upd nl8) SqT.new))))) (.cons (cD_of (seqT (same_upd nl11) (seqT (same_upd nl10) SqT.new))) (.nil)))))))))

theorem sc_law_orbit : FnScope ["_law_size", "_law_row", "_law_column", "_law_found", "_law_cell"] ["_law_size", "_law_row", "_law_column"] (defScope s_law_orbit) := ⟨rfl, rfl, rfl, by decide +kernel, rfl, by decide +kernel, by decide +kernel⟩
abbrev sc_law_orbitN : List Str := ["_law_size", "_law_row", "_law_column", "_law_found", "_law_cell"]
def sp_law_orbit (K : PySem.W.Frag) : Sp := fun vs H Q _ => ∃ n r c, vs = [.int n, .int r, .int c] ∧ (0 ≤ r ∧ r < n ∧ 0 ≤ c ∧ c < n) ∧ n ≤ 10 ^ 30 ∧ ∀ (l : Addr) (ts : List V) (O : List (Int × Int)) (H' : Hp), Same H H' → H l = none → H' l = some (.lst ts) → DpAll K H' ts (O.map cD) → O.Pairwise ltC → (∀ z, z ∈ O ↔ z ∈ cells8 n r c) → O.length ≤ 8 → Q (.ref l) H'
theorem ok_law_orbit (B : Blt mg) (G : Glb K mg) (D : DefAt K mg "_law_orbit" s_law_orbit ["_law_size", "_law_row", "_law_column"]) (d_law_cells : DefOk P w K mg base 1 "_law_cells" ["_law_size", "_law_row", "_law_column"] (sp_law_cells K)) : DefOk P w K mg base 2 "_law_orbit" ["_law_size", "_law_row", "_law_column"] (sp_law_orbit K) := by
  refine def_ok D sc_law_orbit (fun vs H Q E h => ?_) (fun f cdv A outer s H vs Q E hr h => ?_)
  · obtain ⟨_, _, _, rfl, _⟩ := h
    rfl
  · obtain ⟨n, r, c, rfl, hb, hn, q⟩ := h
    refine ⟨_, (pss_cons (ps_set (i := 3) sc_law_orbit.nd rfl (.inl rfl) (pe_lst pa_nil))
      (pss_cons (ps_for PassesOwn.never rfl (pi_list (pe_callB cr_sortC (by rfl) B.sorted bt_sorted (pa_cons (pe_callD d_law_cells (hr.mono (by decide)) (by rfl) (pa_cons (pv 0) (pa_cons (pv 1) (pa_cons (pv 2) pa_nil)))) pa_nil))) (pg_name (i := 4) sc_law_orbit.nd rfl (.inl rfl)) (pss_one (ps_if (pt_cmpR (op_notInD (hu65 hr)) (pv 4) (pv 3) (by rfl)) (pss_one (ps_expr (pe_bm PySem.F.plainAttrs_list PySem.F.slot_list_append PySem.F.type_list_append mt_append (pv 3) (pa_cons (pv 4) pa_nil)))) pss_nil)))
      (pss_one (ps_ret (pv 3))))), ?_⟩
    refine ⟨(by show 0 ≤ sizeLine; decide), fun l nl => ?_⟩
    refine ⟨_, rfl, _, rfl, _, rfl, _, _, _, rfl, fun l2 ts H2 S2 nl2 hl2 hd2 => ?_⟩
    refine ⟨_, _, _, rfl, .inl (.inl hl2), hd2, (by show 8 < 64; decide), (fun z hz => ?_), fun p ts' L' hp hw np hd' => ?_⟩
    · have := cells8_in hz hb.1 hb.2.1 hb.2.2.1 hb.2.2.2
      unfold big
      omega
    have S0 : Same H H2 := (same_upd nl).trans S2
    have L8 : L'.length = 8 := hp.length_eq
    have T8 : ts'.length = 8 := by rw [dpAll_len hd', List.length_map, L8]
    refine ⟨p, rfl, ⟨_, SqL.new⟩, for_list (K := K) (xs := ts') (fun i σ H' => ∃ acc y, Same H H' ∧ SqL K H' p ts' ∧ DpAll K H' ts' (L'.map cD) ∧ H' l = some (.lst acc) ∧ DpAll K H' acc ((dd [] (L'.take i)).map cD) ∧ σ = [some (.int n), some (.int r), some (.int c), some (.ref l), y]) ⟨[], none, S0.trans (same_upd np), SqL.new, hd', same_upd np _ _ (S2 _ _ upd_same), .nil, rfl⟩ (fun i σ H' _ ⟨_, _, _, h, _⟩ => h) ?_ ?_⟩
    · rintro i x σ H' hx ⟨acc, y, S', hp', hdp, hl', ha', rfl⟩
      obtain ⟨z, ez, hz⟩ := dpAll_get hdp hx
      have hi : i < L'.length := (List.getElem?_eq_some_iff.mp ez).1
      have et : L'.take (i + 1) = L'.take i ++ [z] := by rw [List.take_add_one, ez]; rfl
      refine ⟨_, rfl, _, rfl, cD z, _, hz, .lst (.inl (.inl hl')) ha', cD_shaped z, cDs_shapedL _, _, rfl, ?_⟩
      rw [cD_any]
      refine ite2 (fun e => ?_) (fun e => ?_)
      · have e : z ∉ dd [] (L'.take i) := by simpa using e
        have la : acc.length ≤ 8 := by
          have h1 := dpAll_len ha'
          have h2 := dd_len (L'.take i) []
          rw [List.length_map] at h1
          rw [List.length_take, List.length_nil] at h2
          omega
        refine ⟨_, rfl, .inl ⟨rfl, _, .inl (.inl hl')⟩, _, rfl, l, _, _, rfl, rfl, hl', small1000 (by omega), ?_⟩
        have X1 : SameX l H' (upd H' l (.lst (acc ++ [x]))) := SameX.upd
        refine ⟨_, _, fun b o hbo => ?_, ?_, dpAllX X1 hl' hdp, upd_same, ?_, rfl⟩
        · exact X1 _ _ (ne_of_none hbo nl) (S' _ _ hbo)
        · exact xseqL X1 (fun ep => by subst ep; exact absurd (S2 _ _ upd_same) (by rw [np]; exact fun h => nomatch h)) hl' hp'
        · rw [et, dd_snoc, if_neg e, List.map_append]
          obtain ⟨a, rfl, hz2⟩ := cD_inv hz
          exact dpAll_snoc (dpAllX X1 hl' ha') (cD_of (xseqT X1 hl' hz2))
      · have e : z ∈ dd [] (L'.take i) := by simpa using e
        refine ⟨_, _, S', hp', hdp, hl', ?_, rfl⟩
        rw [et, dd_snoc, if_pos e]
        exact ha'
    · rintro σ H' ⟨acc, y, S', hp', hdp, hl', ha', rfl⟩
      rw [T8, List.take_of_length_le (by omega)] at ha'
      refine ⟨_, rfl, q _ _ _ _ S' nl hl' ha' (dd_asc _ _ .nil hw (fun _ h => nomatch h)) (fun z => ?_) ?_⟩
      · rw [dd_mem, hp.mem_iff]
        exact ⟨fun h => h.elim (fun h => nomatch h) id, .inr⟩
      · have := dd_len L' []
        rw [List.length_nil] at this
        omega

theorem sc_law_whole : FnScope ["_law_value"] ["_law_value"] (defScope s_law_whole) := ⟨rfl, rfl, rfl, by decide +kernel, rfl, by decide +kernel, by decide +kernel⟩
abbrev sc_law_wholeN : List Str := ["_law_value"]
def sp_law_whole (K : PySem.W.Frag) : Sp := fun vs H Q _ => ∃ v t, vs = [v] ∧ TyX K H v (.type t) ∧ t ∈ tyNames ∧ Q (.bl (decide (t = "int"))) H
theorem ok_law_whole (B : Blt mg) (G : Glb K mg) (D : DefAt K mg "_law_whole" s_law_whole ["_law_value"]) : DefOk P w K mg base 1 "_law_whole" ["_law_value"] (sp_law_whole K) := by
  refine def_ok D sc_law_whole (fun vs H Q E h => ?_) (fun f cdv A outer s H vs Q E hr h => ?_)
  · obtain ⟨_, _, rfl, _⟩ := h
    rfl
  · obtain ⟨v, t, rfl, ht, hm, q⟩ := h
    refine ⟨_, (pss_one (ps_ret (pe_and (pe_callB call_isi (by rfl) B.isinstance bt_isinstance (pa_cons (pv 0) (pa_cons (pe_bltn (v := .ty "int") (by rfl) B.int bt_int rfl) pa_nil))) (pe_one (pe_not (pe_callB call_isi (by rfl) B.isinstance bt_isinstance (pa_cons (pv 0) (pa_cons (pe_bltn (v := .ty "bool") (by rfl) B.bool bt_bool rfl) pa_nil)))))))), ?_⟩
    refine ⟨_, rfl, _, _, _, _, _, rfl, .ty _, ht, kI hm, _, rfl, ?_⟩
    refine ite2 (fun e1 => ?_) (fun e1 => ?_)
    · try simp only [decide_eq_true_eq, Bool.not_eq_true', decide_eq_false_iff_not, Bool.not_eq_false', Bool.not_eq_true, Decidable.not_not, V.int.injEq, V.bl.injEq, V.str.injEq] at e1
      refine ⟨_, rfl, _, _, _, _, _, rfl, .ty _, ht, kB hm, _, rfl, ?_⟩
      have e : (!decide (t = "bool")) = decide (t = "int") := by
        rcases e1 with rfl | rfl <;> rfl
      rw [e]
      exact q
    · try simp only [decide_eq_true_eq, Bool.not_eq_true', decide_eq_false_iff_not, Bool.not_eq_false', Bool.not_eq_true, Decidable.not_not, V.int.injEq, V.bl.injEq, V.str.injEq] at e1
      have e : decide (t = "int") = false := decide_eq_false (fun z => e1 (.inl z))
      rw [e] at q
      exact q

theorem sc_law_right : FnScope ["_law_purl_here", "_law_size", "_law_row", "_law_column", "_law_due", "_law_found", "_law_cell", "_law_parts", "_law_part"] ["_law_purl_here"] (defScope s_law_right) := ⟨rfl, rfl, rfl, by decide +kernel, rfl, by decide +kernel, by decide +kernel⟩
abbrev sc_law_rightN : List Str := ["_law_purl_here", "_law_size", "_law_row", "_law_column", "_law_due", "_law_found", "_law_cell", "_law_parts", "_law_part"]
def sp_law_right : Sp := fun vs H Q _ => ∃ p m o, vs = [.ref p] ∧ Prl H p m o ∧ ∀ H', SameX p H H' → Q (.bl true) H'
theorem ok_law_right (B : Blt mg) (G : Glb K mg) (D : DefAt K mg "_law_right" s_law_right ["_law_purl_here"]) (d_law_far : DefOk P w K mg base 2 "_law_far" ["_law_purl_here"] sp_law_far) (d_law_spot : DefOk P w K mg base 2 "_law_spot" ["_law_purl_here", "_law_size"] (sp_law_spot K)) (d_law_orbit : DefOk P w K mg base 2 "_law_orbit" ["_law_size", "_law_row", "_law_column"] (sp_law_orbit K)) (d_images : DefOk P w K mg base 5 "images" ["size", "cell"] (sp_images K)) (d_law_whole : DefOk P w K mg base 1 "_law_whole" ["_law_value"] (sp_law_whole K)) : DefOk P w K mg base 6 "_law_right" ["_law_purl_here"] sp_law_right := by
  refine def_ok D sc_law_right (fun vs H Q E h => ?_) (fun f cdv A outer s H vs Q E hr h => ?_)
  · obtain ⟨_, _, _, rfl, _⟩ := h
    rfl
  · obtain ⟨p, m, o, rfl, hp, q⟩ := h
    refine ⟨_, (pss_cons (ps_set (i := 1) sc_law_right.nd rfl (.inl rfl) (pe_callD d_law_far (hr.mono (by decide)) (by rfl) (pa_cons (pv 0) pa_nil)))
      (pss_cons (ps_asg (pe_callD d_law_spot (hr.mono (by decide)) (by rfl) (pa_cons (pv 0) (pa_cons (pv 1) pa_nil))) (pg_tup rfl (pgs_cons (pg_name (i := 2) sc_law_right.nd rfl (.inl rfl)) (pgs_cons (pg_name (i := 3) sc_law_right.nd rfl (.inl rfl)) pgs_nil))))
      (pss_cons (ps_set (i := 4) sc_law_right.nd rfl (.inl rfl) (pe_callTy call_tuple_of (by rfl) B.tuple bt_tuple (pa_cons (pe_callD d_law_orbit (hr.mono (by decide)) (by rfl) (pa_cons (pv 1) (pa_cons (pv 2) (pa_cons (pv 3) pa_nil)))) pa_nil)))
      (pss_cons (ps_set (i := 5) sc_law_right.nd rfl (.inl rfl) (pe_callD d_images (hr.mono (by decide)) (by rfl) (pa_cons (pv 1) (pa_cons (pe_tup (pa_cons (pv 2) (pa_cons (pv 3) pa_nil))) pa_nil))))
      (pss_cons (ps_if (PW.pt (pw_or (pt_not (pt_val (pe_callB call_isi (by rfl) B.isinstance bt_isinstance (pa_cons (pv 5) (pa_cons (pe_bltn (v := .ty "tuple") (by rfl) B.tuple bt_tuple rfl) pa_nil))))) (pw_or1 (pt_cmpR (op_neD (hu64 hr)) (pv 5) (pv 4) (nomark _))))) (pss_one (ps_ret pe_bl)) pss_nil)
      (pss_cons (ps_for PassesOwn.never rfl (pi_tup (pv 4)) (pg_name (i := 6) sc_law_right.nd rfl (.inl rfl)) (pss_one (ps_if (pt_cmpR (op_neD (hu64 hr)) (pe_callD d_images (hr.mono (by decide)) (by rfl) (pa_cons (pv 1) (pa_cons (pv 6) pa_nil))) (pv 4) (nomark _)) (pss_one (ps_ret pe_bl)) pss_nil)))
      (pss_cons (ps_set (i := 7) sc_law_right.nd rfl (.inl rfl) (pe_lst pa_nil))
      (pss_cons (ps_for PassesOwn.never rfl (pi_tup (pv 5)) (pg_name (i := 6) sc_law_right.nd rfl (.inl rfl)) (pss_cons (ps_if (pt_not (pt_val (pe_callB call_isi (by rfl) B.isinstance bt_isinstance (pa_cons (pv 6) (pa_cons (pe_bltn (v := .ty "tuple") (by rfl) B.tuple bt_tuple rfl) pa_nil))))) (pss_one (ps_ret pe_bl)) pss_nil)
      (pss_one (ps_set (i := 7) sc_law_right.nd rfl (.inl rfl) (pe_op op_cat (pv 7) (pe_callTy call_list_of (by rfl) B.list bt_list (pa_cons (pv 6) pa_nil)))))))
      (pss_one (ps_ret (pe_and (pe_cmpR (op_eqD (hu64 hr)) (pe_lc (own := [("_law_part", 8)]) (g := gName 8)  rfl sc_law_right.nd (pi_list (pv 7)) (blkOk_by (N := sc_law_rightN) (sc := defScope s_law_right) (by decide +kernel)) (fun _ _ _ _ _ => (pg_name (i := 8) sc_law_right.nd rfl (.inl rfl))) (fun _ _ _ _ _ => (pts_one (pt_not (pt_val (pe_callD d_law_whole (hr.mono (by decide)) (by rfl) (pa_cons (pv 8) pa_nil)))))) (fun _ _ _ _ _ => (pv 8))) (pe_lst pa_nil) (nomark _)) (pe_one (pe_cmpR (op_eqD (hu64 hr)) (pe_callD d_images (hr.mono (by decide)) (by rfl) (pa_cons (pv 1) (pa_cons (pe_tup (pa_cons (pv 2) (pa_cons (pv 3) pa_nil))) pa_nil))) (pv 4) (nomark _)))))))))))))), ?_⟩
    refine ⟨_, rfl, _, _, _, rfl, hp, fun n1 m1 o1 H1 na1 nb1 X1 hp1 => ?_⟩
    refine ⟨_, rfl, _, rfl, _, _, _, _, rfl, hp1, (by walk_at "ob"), (by walk_at "ob"), fun t2 r2 c2 m2 o2 H2 ra2 rb2 ca2 cb2 X2 hp2 ht2 => ?_⟩
    refine ⟨_, _, rfl, ht2, rfl, _, _, rfl, _, _, rfl, rfl, _, rfl, _, rfl, _, rfl, _, _, _, rfl, ⟨by walk_at "ob", by walk_at "ob", by walk_at "ob", by walk_at "ob"⟩, (by walk_at "ob"), fun l3 ts3 O3 H3 S3 nl3 hl3 hd3 ho3 hm3 h83 => ?_⟩
    refine ⟨_, _, rfl, .inl ⟨(.inl (.inl hl3)), fun t4 nt4 => ?_⟩⟩
    refine ⟨_, rfl, _, rfl, _, rfl, (by show 2 ≤ sizeLine; decide), fun t5 nt5 => ?_⟩
    refine ⟨_, _, _, _, rfl, SqT.new, ⟨by walk_at "ob", by walk_at "ob", by walk_at "ob", by walk_at "ob"⟩, (by walk_at "ob"), fun t6 ts6 O6 H6 S6 ht6 hd6 ho6 hm6 h86 => ?_⟩
    have eO : O6 = O3 := asc_unique ho6 ho3 (fun z => (hm6 z).trans (hm3 z).symm)
    subst eO
    refine ⟨_, rfl, _, _, _, _, _, rfl, .ty _, ty_tup ht6, kit_ty (r := true) (by decide +kernel), _, rfl, ?_⟩
    refine iteF' (rfl) ?_
    refine ⟨_, rfl, _, rfl, _, _, .tup ht6 hd6, .tup (seqT S6 (seqT (same_upd nt5) SqT.new)) (dpAllS S6 (dpAllS (same_upd nt5) (dpAllS (same_upd nt4) hd3))), cDs_shapedT _, cDs_shapedT _, _, rfl, ?_⟩
    refine iteF' ((by rw [cDs_eqv]; rfl)) ?_
    refine ⟨_, rfl, _, rfl, ⟨_, (seqT S6 (seqT (same_upd nt5) SqT.new))⟩, for_tup (K := K) (xs := ts3) (fun i σ H' => ∃ y, Same H6 H' ∧ σ = [some (.ref p), some (.int n1), some (.int r2), some (.int c2), some (.ref t4), some (.ref t6), y, none, none]) ⟨none, Same.refl _, rfl⟩ (fun i σ Hz _ ⟨_, Sz, _⟩ => seqT Sz (seqT S6 (seqT (same_upd nt5) SqT.new))) ?_ ?_⟩
    · rintro i x σ H' hx ⟨y, S', rfl⟩
      obtain ⟨z, ez, hz⟩ := dpAll_get (dpAllS S' (dpAllS S6 (dpAllS (same_upd nt5) (dpAllS (same_upd nt4) hd3)))) hx
      obtain ⟨tz, rfl, hzt⟩ := cD_inv hz
      have zc := (hm3 z).mp (List.mem_of_getElem? ez)
      have zb := cells8_in zc ra2 rb2 ca2 cb2
      refine ⟨_, rfl, _, rfl, _, _, _, _, rfl, hzt, ⟨by walk_at "ob", by walk_at "ob", by walk_at "ob", by walk_at "ob"⟩, (by walk_at "ob"), fun t7 ts7 O7 H7 S7 ht7 hd7 ho7 hm7 h87 => ?_⟩
      refine ⟨_, rfl, _, _, .tup ht7 hd7, .tup (seqT S7 (seqT S' (seqT S6 (seqT (same_upd nt5) SqT.new)))) (dpAllS S7 (dpAllS S' (dpAllS S6 (dpAllS (same_upd nt5) (dpAllS (same_upd nt4) hd3))))), cDs_shapedT _, cDs_shapedT _, _, rfl, ?_⟩
      refine iteF' ((by rw [asc_unique ho7 ho3 (fun w => ((hm7 w).trans (cells8_same zc w)).trans (hm3 w).symm), cDs_eqv]; rfl)) ?_
      exact ⟨_, S'.trans S7, rfl⟩
    · rintro σ H' ⟨y, S', rfl⟩
      refine ⟨(by show 0 ≤ sizeLine; decide), fun l8 nl8 => ?_⟩
      refine ⟨_, rfl, _, rfl, ⟨_, (seqT (same_upd nl8) (seqT S' ht6))⟩, for_tup (K := K) (xs := ts6) (fun i σ H'' => ∃ l ns y, Same (upd H' l8 (.lst [])) H'' ∧ H'' l = some (.lst (List.map V.int ns)) ∧ ns.length ≤ 2 * i ∧ σ = [some (.ref p), some (.int n1), some (.int r2), some (.int c2), some (.ref t4), some (.ref t6), y, some (.ref l), none]) ⟨_, [], _, Same.refl _, upd_same, Nat.zero_le _, rfl⟩ (fun i σ Hz _ ⟨_, _, _, Sz, _⟩ => seqT Sz (seqT (same_upd nl8) (seqT S' ht6))) ?_ ?_⟩
      · rintro i x σ H'' hx ⟨l, ns, y, S'', hl', hn', rfl⟩
        obtain ⟨z, ez, hz⟩ := dpAll_get (dpAllS S'' (dpAllS (same_upd nl8) (dpAllS S' hd6))) hx
        obtain ⟨tz, rfl, hzt⟩ := cD_inv hz
        have i8 : i < 64 := Nat.lt_trans (List.getElem?_eq_some_iff.mp ez).1 h86
        refine ⟨_, rfl, _, _, _, _, _, rfl, .ty _, ty_tup hzt, kit_ty (r := true) (by decide +kernel), _, rfl, ?_⟩
        refine iteF' (rfl) ?_
        refine ⟨_, rfl, _, rfl, _, _, rfl, .inr hzt, fun l9 nl9 => ?_⟩
        refine ⟨_, _, _, _, rfl, rfl, ((same_upd nl9) _ _ hl'), upd_same, (by rw [List.length_map]; exact Nat.le_of_lt (small1000 (by show _ + 2 ≤ 1000; omega))), fun l10 nl10 => ?_⟩
        exact ⟨_, ns ++ [z.1, z.2], _, (S''.trans (same_upd nl9)).trans (same_upd nl10), by rw [List.map_append]; exact upd_same, by rw [List.length_append]; exact Nat.add_le_add_right hn' 2, rfl⟩
      · rintro σ H'' ⟨l, ns, y, S'', hl', hn', rfl⟩
        refine ⟨_, rfl, _, rfl, ⟨_, .inl (.inl hl')⟩, fun D11 nD11 => ?_⟩
        refine lc_list (K := K) (xs := ns.map V.int) (fun i Hz => Same H'' Hz ∧ Hz D11 = some (.lst [])) ⟨same_upd nD11, upd_same⟩ (fun i Hz _ h => seqL h.1 (.inl (.inl hl'))) (fun i x Hz hx h => ?_) (fun Hz hD11 => ?_)
        · obtain ⟨z, _, rfl⟩ := List.mem_map.mp (List.mem_of_getElem? hx)
          refine ⟨rfl, _, rfl, _, _, rfl, ty_int _, by decide, _, rfl, ?_⟩
          refine iteF' rfl ?_
          exact h
        · skip
          refine ⟨(by show 0 ≤ sizeLine; decide), fun l12 nl12 => ?_⟩
          refine ⟨_, _, .lst (.inl (.inl ((same_upd nl12) _ _ hD11.2))) .nil, .lst (.inl (.inl upd_same)) .nil, rfl, rfl, _, rfl, ?_⟩
          refine iteT' (rfl) ?_
          refine ⟨_, rfl, _, rfl, _, rfl, (by show 2 ≤ sizeLine; decide), fun t13 nt13 => ?_⟩
          refine ⟨_, _, _, _, rfl, SqT.new, ⟨by walk_at "ob", by walk_at "ob", by walk_at "ob", by walk_at "ob"⟩, (by walk_at "ob"), fun t14 ts14 O14 H14 S14 ht14 hd14 ho14 hm14 h814 => ?_⟩
          refine ⟨_, rfl, _, _, .tup ht14 hd14, .tup (seqT S14 (seqT (same_upd nt13) (seqT (same_upd nl12) (seqT hD11.1 (seqT S'' (seqT (same_upd nl8) (seqT S' (seqT S6 (seqT (same_upd nt5) SqT.new))))))))) (dpAllS S14 (dpAllS (same_upd nt13) (dpAllS (same_upd nl12) (dpAllS hD11.1 (dpAllS S'' (dpAllS (same_upd nl8) (dpAllS S' (dpAllS S6 (dpAllS (same_upd nt5) (dpAllS (same_upd nt4) hd3)))))))))), cDs_shapedT _, cDs_shapedT _, ?_⟩
          exact qb (q _ ((((((((((((((SameX.refl p H).trans X1).trans X2).trans (SameX.of S3)).trans (SameX.of (same_upd nt4))).trans (SameX.of (same_upd nt5))).trans (SameX.of S6)).trans (SameX.of S')).trans (SameX.of (same_upd nl8))).trans (SameX.of S'')).trans (SameX.of hD11.1)).trans (SameX.of (same_upd nl12))).trans (SameX.of (same_upd nt13))).trans (SameX.of S14))) (by rw [asc_unique ho14 ho3 (fun w => (hm14 w).trans (hm3 w).symm), cDs_eqv])

theorem sc_law : FnScope ["_law_script", "_law_spot_here"] ["_law_script"] (defScope s_law) := ⟨rfl, rfl, rfl, by decide +kernel, rfl, by decide +kernel, by decide +kernel⟩
abbrev sc_lawN : List Str := ["_law_script", "_law_spot_here"]
def sp_law (K : PySem.W.Frag) : Sp := fun vs H Q _ => ∃ (a : Addr) (ns : List Int), vs = [.ref a] ∧ SqL K H a (ns.map V.int) ∧ ns.length ≤ 63 ∧ ∀ H', Q (.bl true) H'
theorem ok_law (B : Blt mg) (G : Glb K mg) {f : Addr} {fd : FuncData} (F : Fun K "law" "law" s_law f fd) (d_law_right : DefOk P w K mg base 6 "_law_right" ["_law_purl_here"] sp_law_right) (d_law_purl : DefOk P w K mg base 1 "_law_purl" ["_law_script", "_law_spot_here"] (sp_law_purl K)) : FnOk P w K mg base CX0 7 f fd ["_law_script"] (sp_law K) := by
  refine F.ok sc_law (fun vs H Q E h => ?_) (fun cdv A outer s H vs Q E hr h => ?_)
  · obtain ⟨_, _, rfl, _⟩ := h
    rfl
  · obtain ⟨a, ns, rfl, hS, hl, q⟩ := h
    refine ⟨_, (pss_one (ps_ret (pe_callB (cr_all rfl) (by rfl) B.all bt_all (pa_cons (pe_lc (own := [("_law_spot_here", 1)]) (g := gName 1) (tt := tYes) rfl sc_law.nd (pi_range1 (by rfl) B.range (pa_cons (pe_callB (call_max2N rfl) (by rfl) B.max bt_max (pa_cons pe_int (pa_cons (pe_callB (call_min2N rfl) (by rfl) B.min bt_min (pa_cons (pe_callB call_len_seq (by rfl) B.len bt_len (pa_cons (pv 0) pa_nil)) (pa_cons pe_int pa_nil))) pa_nil))) pa_nil)) (blkOk_by (N := sc_lawN) (sc := defScope s_law) (by decide +kernel)) (fun _ _ _ _ _ => (pg_name (i := 1) sc_law.nd rfl (.inl rfl))) (fun _ _ _ _ _ => pts_nil) (fun _ _ _ _ _ => (pe_callD d_law_right (hr.mono (by decide)) (by rfl) (pa_cons (pe_callD d_law_purl (hr.mono (by decide)) (by rfl) (pa_cons (pv 0) (pa_cons (pv 1) pa_nil))) pa_nil)))) pa_nil)))), ?_⟩
    refine ⟨_, rfl, _, _, rfl, .inl hS, _, _, rfl, fun r a1 a2 a3 => ?_⟩
    refine ⟨_, _, rfl, fun r' b1 b2 b3 => ?_⟩
    refine ⟨_, rfl, by omega, by omega, fun D nD => ?_⟩
    refine lc_range (fun i H' => Same H H' ∧ H' D = some (.lst (List.replicate i (V.bl true)))) ⟨same_upd nD, upd_same⟩ (fun i H' hi h => ?_) (fun H' h => ?_)
    · refine ⟨rfl, _, rfl, _, rfl, a, ns, _, rfl, seqL h.1 hS, hl, by omega, by omega, fun p m o H1 S1 np hp => ?_⟩
      refine ⟨_, _, _, rfl, hp, fun H2 X2 => ?_⟩
      refine ⟨_, X2 _ _ (ne_of_none h.2 np) (S1 _ _ h.2), by rw [List.length_replicate]; exact small1000 (by omega), ?_, ?_⟩
      · intro b o e
        rw [upd_ne (ne_of_none e nD)]
        exact X2 _ _ (ne_of_none (h.1 _ _ e) np) (S1 _ _ (h.1 _ _ e))
      · rw [upd_same, List.replicate_succ']
    · refine ⟨D, List.replicate r'.toNat true, rfl, .inl (.inl (by rw [List.map_replicate]; exact h.2)), ?_⟩
      exact qb (q _) (all_rep _)
end
theorem all_mk {l : PySem.W.OpenLaw} {w : World} {K : PySem.W.Frag} {h : Heap} {mg : Str → Option Value} {fa : Addr} (X : K.In h) (Gn : h.Ns mainGlobals mg) (hfa : mg "law" = some (.ref fa))
    {f0 : Addr} {od0 an0 : Option Addr} {sl0 : Array (Option Value)} {oc0 kV0 dc0 pm0 cd0 ct0 : Value}
    (a0 : PySem.W.nsIn K mainGlobals "is_integer" = some (some (.ref f0))) (l0 : K.lookup f0 = some ⟨oc0, od0, .func (PySem.W.fnOf "is_integer" "is_integer" (defArgs s_is_integer) (defBody s_is_integer) (defScope s_is_integer) .none kV0 dc0 pm0 an0 cd0 ct0), sl0⟩) (c0 : PySem.W.codeIn K cd0 "is_integer" = true) (k0 : PySem.W.keepIn K (.ref f0) = true)
    {f1 : Addr} {od1 an1 : Option Addr} {sl1 : Array (Option Value)} {oc1 kV1 dc1 pm1 cd1 ct1 : Value}
    (a1 : PySem.W.nsIn K mainGlobals "within" = some (some (.ref f1))) (l1 : K.lookup f1 = some ⟨oc1, od1, .func (PySem.W.fnOf "within" "within" (defArgs s_within) (defBody s_within) (defScope s_within) .none kV1 dc1 pm1 an1 cd1 ct1), sl1⟩) (c1 : PySem.W.codeIn K cd1 "within" = true) (k1 : PySem.W.keepIn K (.ref f1) = true)
    {f2 : Addr} {od2 an2 : Option Addr} {sl2 : Array (Option Value)} {oc2 kV2 dc2 pm2 cd2 ct2 : Value}
    (a2 : PySem.W.nsIn K mainGlobals "is_cell" = some (some (.ref f2))) (l2 : K.lookup f2 = some ⟨oc2, od2, .func (PySem.W.fnOf "is_cell" "is_cell" (defArgs s_is_cell) (defBody s_is_cell) (defScope s_is_cell) .none kV2 dc2 pm2 an2 cd2 ct2), sl2⟩) (c2 : PySem.W.codeIn K cd2 "is_cell" = true) (k2 : PySem.W.keepIn K (.ref f2) = true)
    {f3 : Addr} {od3 an3 : Option Addr} {sl3 : Array (Option Value)} {oc3 kV3 dc3 pm3 cd3 ct3 : Value}
    (a3 : PySem.W.nsIn K mainGlobals "check_size" = some (some (.ref f3))) (l3 : K.lookup f3 = some ⟨oc3, od3, .func (PySem.W.fnOf "check_size" "check_size" (defArgs s_check_size) (defBody s_check_size) (defScope s_check_size) .none kV3 dc3 pm3 an3 cd3 ct3), sl3⟩) (c3 : PySem.W.codeIn K cd3 "check_size" = true) (k3 : PySem.W.keepIn K (.ref f3) = true)
    {f4 : Addr} {od4 an4 : Option Addr} {sl4 : Array (Option Value)} {oc4 kV4 dc4 pm4 cd4 ct4 : Value}
    (a4 : PySem.W.nsIn K mainGlobals "check_cell" = some (some (.ref f4))) (l4 : K.lookup f4 = some ⟨oc4, od4, .func (PySem.W.fnOf "check_cell" "check_cell" (defArgs s_check_cell) (defBody s_check_cell) (defScope s_check_cell) .none kV4 dc4 pm4 an4 cd4 ct4), sl4⟩) (c4 : PySem.W.codeIn K cd4 "check_cell" = true) (k4 : PySem.W.keepIn K (.ref f4) = true)
    {f5 : Addr} {od5 an5 : Option Addr} {sl5 : Array (Option Value)} {oc5 kV5 dc5 pm5 cd5 ct5 : Value}
    (a5 : PySem.W.nsIn K mainGlobals "images_of" = some (some (.ref f5))) (l5 : K.lookup f5 = some ⟨oc5, od5, .func (PySem.W.fnOf "images_of" "images_of" (defArgs s_images_of) (defBody s_images_of) (defScope s_images_of) .none kV5 dc5 pm5 an5 cd5 ct5), sl5⟩) (c5 : PySem.W.codeIn K cd5 "images_of" = true) (k5 : PySem.W.keepIn K (.ref f5) = true)
    {f6 : Addr} {od6 an6 : Option Addr} {sl6 : Array (Option Value)} {oc6 kV6 dc6 pm6 cd6 ct6 : Value}
    (a6 : PySem.W.nsIn K mainGlobals "images" = some (some (.ref f6))) (l6 : K.lookup f6 = some ⟨oc6, od6, .func (PySem.W.fnOf "images" "images" (defArgs s_images) (defBody s_images) (defScope s_images) .none kV6 dc6 pm6 an6 cd6 ct6), sl6⟩) (c6 : PySem.W.codeIn K cd6 "images" = true) (k6 : PySem.W.keepIn K (.ref f6) = true)
    {f7 : Addr} {od7 an7 : Option Addr} {sl7 : Array (Option Value)} {oc7 kV7 dc7 pm7 cd7 ct7 : Value}
    (a7 : PySem.W.nsIn K mainGlobals "_law_purl" = some (some (.ref f7))) (l7 : K.lookup f7 = some ⟨oc7, od7, .func (PySem.W.fnOf "_law_purl" "_law_purl" (defArgs s_law_purl) (defBody s_law_purl) (defScope s_law_purl) .none kV7 dc7 pm7 an7 cd7 ct7), sl7⟩) (c7 : PySem.W.codeIn K cd7 "_law_purl" = true) (k7 : PySem.W.keepIn K (.ref f7) = true)
    {f8 : Addr} {od8 an8 : Option Addr} {sl8 : Array (Option Value)} {oc8 kV8 dc8 pm8 cd8 ct8 : Value}
    (a8 : PySem.W.nsIn K mainGlobals "_law_dig" = some (some (.ref f8))) (l8 : K.lookup f8 = some ⟨oc8, od8, .func (PySem.W.fnOf "_law_dig" "_law_dig" (defArgs s_law_dig) (defBody s_law_dig) (defScope s_law_dig) .none kV8 dc8 pm8 an8 cd8 ct8), sl8⟩) (c8 : PySem.W.codeIn K cd8 "_law_dig" = true) (k8 : PySem.W.keepIn K (.ref f8) = true)
    {f9 : Addr} {od9 an9 : Option Addr} {sl9 : Array (Option Value)} {oc9 kV9 dc9 pm9 cd9 ct9 : Value}
    (a9 : PySem.W.nsIn K mainGlobals "_law_far" = some (some (.ref f9))) (l9 : K.lookup f9 = some ⟨oc9, od9, .func (PySem.W.fnOf "_law_far" "_law_far" (defArgs s_law_far) (defBody s_law_far) (defScope s_law_far) .none kV9 dc9 pm9 an9 cd9 ct9), sl9⟩) (c9 : PySem.W.codeIn K cd9 "_law_far" = true) (k9 : PySem.W.keepIn K (.ref f9) = true)
    {f10 : Addr} {od10 an10 : Option Addr} {sl10 : Array (Option Value)} {oc10 kV10 dc10 pm10 cd10 ct10 : Value}
    (a10 : PySem.W.nsIn K mainGlobals "_law_spot" = some (some (.ref f10))) (l10 : K.lookup f10 = some ⟨oc10, od10, .func (PySem.W.fnOf "_law_spot" "_law_spot" (defArgs s_law_spot) (defBody s_law_spot) (defScope s_law_spot) .none kV10 dc10 pm10 an10 cd10 ct10), sl10⟩) (c10 : PySem.W.codeIn K cd10 "_law_spot" = true) (k10 : PySem.W.keepIn K (.ref f10) = true)
    {f11 : Addr} {od11 an11 : Option Addr} {sl11 : Array (Option Value)} {oc11 kV11 dc11 pm11 cd11 ct11 : Value}
    (a11 : PySem.W.nsIn K mainGlobals "_law_cells" = some (some (.ref f11))) (l11 : K.lookup f11 = some ⟨oc11, od11, .func (PySem.W.fnOf "_law_cells" "_law_cells" (defArgs s_law_cells) (defBody s_law_cells) (defScope s_law_cells) .none kV11 dc11 pm11 an11 cd11 ct11), sl11⟩) (c11 : PySem.W.codeIn K cd11 "_law_cells" = true) (k11 : PySem.W.keepIn K (.ref f11) = true)
    {f12 : Addr} {od12 an12 : Option Addr} {sl12 : Array (Option Value)} {oc12 kV12 dc12 pm12 cd12 ct12 : Value}
    (a12 : PySem.W.nsIn K mainGlobals "_law_orbit" = some (some (.ref f12))) (l12 : K.lookup f12 = some ⟨oc12, od12, .func (PySem.W.fnOf "_law_orbit" "_law_orbit" (defArgs s_law_orbit) (defBody s_law_orbit) (defScope s_law_orbit) .none kV12 dc12 pm12 an12 cd12 ct12), sl12⟩) (c12 : PySem.W.codeIn K cd12 "_law_orbit" = true) (k12 : PySem.W.keepIn K (.ref f12) = true)
    {f13 : Addr} {od13 an13 : Option Addr} {sl13 : Array (Option Value)} {oc13 kV13 dc13 pm13 cd13 ct13 : Value}
    (a13 : PySem.W.nsIn K mainGlobals "_law_whole" = some (some (.ref f13))) (l13 : K.lookup f13 = some ⟨oc13, od13, .func (PySem.W.fnOf "_law_whole" "_law_whole" (defArgs s_law_whole) (defBody s_law_whole) (defScope s_law_whole) .none kV13 dc13 pm13 an13 cd13 ct13), sl13⟩) (c13 : PySem.W.codeIn K cd13 "_law_whole" = true) (k13 : PySem.W.keepIn K (.ref f13) = true)
    {f14 : Addr} {od14 an14 : Option Addr} {sl14 : Array (Option Value)} {oc14 kV14 dc14 pm14 cd14 ct14 : Value}
    (a14 : PySem.W.nsIn K mainGlobals "_law_right" = some (some (.ref f14))) (l14 : K.lookup f14 = some ⟨oc14, od14, .func (PySem.W.fnOf "_law_right" "_law_right" (defArgs s_law_right) (defBody s_law_right) (defScope s_law_right) .none kV14 dc14 pm14 an14 cd14 ct14), sl14⟩) (c14 : PySem.W.codeIn K cd14 "_law_right" = true) (k14 : PySem.W.keepIn K (.ref f14) = true)
    {f15 : Addr} {od15 an15 : Option Addr} {sl15 : Array (Option Value)} {oc15 kV15 dc15 pm15 cd15 ct15 : Value}
    (a15 : PySem.W.nsIn K mainGlobals "law" = some (some (.ref f15))) (l15 : K.lookup f15 = some ⟨oc15, od15, .func (PySem.W.fnOf "law" "law" (defArgs s_law) (defBody s_law) (defScope s_law) .none kV15 dc15 pm15 an15 cd15 ct15), sl15⟩) (c15 : PySem.W.codeIn K cd15 "law" = true) (k15 : PySem.W.keepIn K (.ref f15) = true)
    (z0 : PySem.W.nsIn K mainGlobals "len" = some none)
    (z1 : PySem.W.nsIn K mainGlobals "isinstance" = some none)
    (z2 : PySem.W.nsIn K mainGlobals "abs" = some none)
    (z3 : PySem.W.nsIn K mainGlobals "min" = some none)
    (z4 : PySem.W.nsIn K mainGlobals "max" = some none)
    (z5 : PySem.W.nsIn K mainGlobals "all" = some none)
    (z6 : PySem.W.nsIn K mainGlobals "sorted" = some none)
    (z7 : PySem.W.nsIn K mainGlobals "divmod" = some none)
    (z8 : PySem.W.nsIn K mainGlobals "int" = some none)
    (z9 : PySem.W.nsIn K mainGlobals "bool" = some none)
    (z10 : PySem.W.nsIn K mainGlobals "tuple" = some none)
    (z11 : PySem.W.nsIn K mainGlobals "list" = some none)
    (z12 : PySem.W.nsIn K mainGlobals "set" = some none)
    (z13 : PySem.W.nsIn K mainGlobals "range" = some none)
    {tM : Tok} (gM : PySem.W.nsIn K mainGlobals "MOST_SIZE" = some (some (.int (10 ^ 30) tM))) :
    ∃ fd : FuncData, (∀ (s : Shared) (v : Value), BindsTo s fd ⟨[v], []⟩ [("_law_script", v)]) ∧ ∀ base : Heap, K.In base → base.Ns mainGlobals mg → FnOk l.prog w K mg base CX0 7 fa fd ["_law_script"] (sp_law K) := by
  have e := hfa.symm.trans (PySem.W.mg_of X Gn a15)
  cases e
  have F0 := fun_mk (st := s_is_integer) l0 c0 k0
  have b0 := F0.binds (ps := ["value"]) fun _ _ _ _ _ _ us hl => match us, hl with | [_], _ => rfl
  have F1 := fun_mk (st := s_within) l1 c1 k1
  have b1 := F1.binds (ps := ["value", "least", "most"]) fun _ _ _ _ _ _ us hl => match us, hl with | [_, _, _], _ => rfl
  have F2 := fun_mk (st := s_is_cell) l2 c2 k2
  have b2 := F2.binds (ps := ["value", "size"]) fun _ _ _ _ _ _ us hl => match us, hl with | [_, _], _ => rfl
  have F3 := fun_mk (st := s_check_size) l3 c3 k3
  have b3 := F3.binds (ps := ["value"]) fun _ _ _ _ _ _ us hl => match us, hl with | [_], _ => rfl
  have F4 := fun_mk (st := s_check_cell) l4 c4 k4
  have b4 := F4.binds (ps := ["size", "value"]) fun _ _ _ _ _ _ us hl => match us, hl with | [_, _], _ => rfl
  have F5 := fun_mk (st := s_images_of) l5 c5 k5
  have b5 := F5.binds (ps := ["size", "cell"]) fun _ _ _ _ _ _ us hl => match us, hl with | [_, _], _ => rfl
  have F6 := fun_mk (st := s_images) l6 c6 k6
  have b6 := F6.binds (ps := ["size", "cell"]) fun _ _ _ _ _ _ us hl => match us, hl with | [_, _], _ => rfl
  have F7 := fun_mk (st := s_law_purl) l7 c7 k7
  have b7 := F7.binds (ps := ["_law_script", "_law_spot_here"]) fun _ _ _ _ _ _ us hl => match us, hl with | [_, _], _ => rfl
  have F8 := fun_mk (st := s_law_dig) l8 c8 k8
  have b8 := F8.binds (ps := ["_law_purl_here", "_law_many"]) fun _ _ _ _ _ _ us hl => match us, hl with | [_, _], _ => rfl
  have F9 := fun_mk (st := s_law_far) l9 c9 k9
  have b9 := F9.binds (ps := ["_law_purl_here"]) fun _ _ _ _ _ _ us hl => match us, hl with | [_], _ => rfl
  have F10 := fun_mk (st := s_law_spot) l10 c10 k10
  have b10 := F10.binds (ps := ["_law_purl_here", "_law_size"]) fun _ _ _ _ _ _ us hl => match us, hl with | [_, _], _ => rfl
  have F11 := fun_mk (st := s_law_cells) l11 c11 k11
  have b11 := F11.binds (ps := ["_law_size", "_law_row", "_law_column"]) fun _ _ _ _ _ _ us hl => match us, hl with | [_, _, _], _ => rfl
  have F12 := fun_mk (st := s_law_orbit) l12 c12 k12
  have b12 := F12.binds (ps := ["_law_size", "_law_row", "_law_column"]) fun _ _ _ _ _ _ us hl => match us, hl with | [_, _, _], _ => rfl
  have F13 := fun_mk (st := s_law_whole) l13 c13 k13
  have b13 := F13.binds (ps := ["_law_value"]) fun _ _ _ _ _ _ us hl => match us, hl with | [_], _ => rfl
  have F14 := fun_mk (st := s_law_right) l14 c14 k14
  have b14 := F14.binds (ps := ["_law_purl_here"]) fun _ _ _ _ _ _ us hl => match us, hl with | [_], _ => rfl
  have F15 := fun_mk (st := s_law) l15 c15 k15
  have B : Blt mg := ⟨PySem.W.mg_none_of X Gn z0, PySem.W.mg_none_of X Gn z1, PySem.W.mg_none_of X Gn z2, PySem.W.mg_none_of X Gn z3, PySem.W.mg_none_of X Gn z4, PySem.W.mg_none_of X Gn z5, PySem.W.mg_none_of X Gn z6, PySem.W.mg_none_of X Gn z7, PySem.W.mg_none_of X Gn z8, PySem.W.mg_none_of X Gn z9, PySem.W.mg_none_of X Gn z10, PySem.W.mg_none_of X Gn z11, PySem.W.mg_none_of X Gn z12, PySem.W.mg_none_of X Gn z13⟩
  have G : Glb K mg := ⟨⟨_, PySem.W.mg_of X Gn gM⟩⟩
  refine ⟨PySem.W.fnOf "law" "law" (defArgs s_law) (defBody s_law) (defScope s_law) .none kV15 dc15 pm15 an15 cd15 ct15, fun s v => .of_eq rfl, fun base _ _ => ?_⟩
  have d_is_integer : DefOk l.prog w K mg base 1 "is_integer" ["value"] (sp_is_integer K) := ok_is_integer B G ⟨f0, _, F0, b0, PySem.W.mg_of X Gn a0⟩ 
  have d_within : DefOk l.prog w K mg base 2 "within" ["value", "least", "most"] (sp_within K) := ok_within B G ⟨f1, _, F1, b1, PySem.W.mg_of X Gn a1⟩ d_is_integer
  have d_is_cell : DefOk l.prog w K mg base 3 "is_cell" ["value", "size"] (sp_is_cell K) := ok_is_cell B G ⟨f2, _, F2, b2, PySem.W.mg_of X Gn a2⟩ d_within
  have d_check_size : DefOk l.prog w K mg base 3 "check_size" ["value"] sp_check_size := ok_check_size B G ⟨f3, _, F3, b3, PySem.W.mg_of X Gn a3⟩ d_within
  have d_check_cell : DefOk l.prog w K mg base 4 "check_cell" ["size", "value"] (sp_check_cell K) := ok_check_cell B G ⟨f4, _, F4, b4, PySem.W.mg_of X Gn a4⟩ d_is_cell
  have d_images_of : DefOk l.prog w K mg base 1 "images_of" ["size", "cell"] (sp_images_of K) := ok_images_of B G ⟨f5, _, F5, b5, PySem.W.mg_of X Gn a5⟩ 
  have d_images : DefOk l.prog w K mg base 5 "images" ["size", "cell"] (sp_images K) := ok_images B G ⟨f6, _, F6, b6, PySem.W.mg_of X Gn a6⟩ d_check_size d_check_cell d_images_of
  have d_law_purl : DefOk l.prog w K mg base 1 "_law_purl" ["_law_script", "_law_spot_here"] (sp_law_purl K) := ok_law_purl B G ⟨f7, _, F7, b7, PySem.W.mg_of X Gn a7⟩ 
  have d_law_dig : DefOk l.prog w K mg base 1 "_law_dig" ["_law_purl_here", "_law_many"] sp_law_dig := ok_law_dig B G ⟨f8, _, F8, b8, PySem.W.mg_of X Gn a8⟩ 
  have d_law_far : DefOk l.prog w K mg base 2 "_law_far" ["_law_purl_here"] sp_law_far := ok_law_far B G ⟨f9, _, F9, b9, PySem.W.mg_of X Gn a9⟩ d_law_dig
  have d_law_spot : DefOk l.prog w K mg base 2 "_law_spot" ["_law_purl_here", "_law_size"] (sp_law_spot K) := ok_law_spot B G ⟨f10, _, F10, b10, PySem.W.mg_of X Gn a10⟩ d_law_dig
  have d_law_cells : DefOk l.prog w K mg base 1 "_law_cells" ["_law_size", "_law_row", "_law_column"] (sp_law_cells K) := ok_law_cells B G ⟨f11, _, F11, b11, PySem.W.mg_of X Gn a11⟩ 
  have d_law_orbit : DefOk l.prog w K mg base 2 "_law_orbit" ["_law_size", "_law_row", "_law_column"] (sp_law_orbit K) := ok_law_orbit B G ⟨f12, _, F12, b12, PySem.W.mg_of X Gn a12⟩ d_law_cells
  have d_law_whole : DefOk l.prog w K mg base 1 "_law_whole" ["_law_value"] (sp_law_whole K) := ok_law_whole B G ⟨f13, _, F13, b13, PySem.W.mg_of X Gn a13⟩ 
  have d_law_right : DefOk l.prog w K mg base 6 "_law_right" ["_law_purl_here"] sp_law_right := ok_law_right B G ⟨f14, _, F14, b14, PySem.W.mg_of X Gn a14⟩ d_law_far d_law_spot d_law_orbit d_images d_law_whole
  exact ok_law B G F15 d_law_right d_law_purl
end Sq
open PySem PySem.W PyProof.Rows
set_option maxRecDepth 100000 in
set_option maxHeartbeats 0 in
theorem PySem.Challenge.cw_squareloops_k23_images_of_cells_holds : PySem.Challenge.rw_squareloops_k23_images_of_cells.Holds := by
  w_on; o_law; k_head; (case hw => w_witness2)
  k_fill
  refine L2.walk_of (l := PySem.Challenge.rw_squareloops_k23_images_of_cells) (n := 63) (k := 7) (x := "_law_script") (CX := fun _ => L2.CX0) (sp := fun w => Sq.sp_law _) rfl (by decide) rfl ⟨rfl, by decide, by decide⟩ (fun w h Y => PySem.W.kIn_of Y) ?F (fun _ _ a ns hl _ hS => ⟨a, ns, rfl, hS, hl, fun _ => rfl⟩) (fun _ _ _ _ _ h => h)
  case F =>
    intro w mg fa h KX G hmg
    refine' Sq.all_mk KX G hmg ?a0 ?l0 ?c0 ?k0 ?a1 ?l1 ?c1 ?k1 ?a2 ?l2 ?c2 ?k2 ?a3 ?l3 ?c3 ?k3 ?a4 ?l4 ?c4 ?k4 ?a5 ?l5 ?c5 ?k5 ?a6 ?l6 ?c6 ?k6 ?a7 ?l7 ?c7 ?k7 ?a8 ?l8 ?c8 ?k8 ?a9 ?l9 ?c9 ?k9 ?a10 ?l10 ?c10 ?k10 ?a11 ?l11 ?c11 ?k11 ?a12 ?l12 ?c12 ?k12 ?a13 ?l13 ?c13 ?k13 ?a14 ?l14 ?c14 ?k14 ?a15 ?l15 ?c15 ?k15 ?z0 ?z1 ?z2 ?z3 ?z4 ?z5 ?z6 ?z7 ?z8 ?z9 ?z10 ?z11 ?z12 ?z13 ?gM
    (case a0 => k_is); (case l0 => k_is); (case c0 => k_is); (case k0 => k_is)
    (case a1 => k_is); (case l1 => k_is); (case c1 => k_is); (case k1 => k_is)
    (case a2 => k_is); (case l2 => k_is); (case c2 => k_is); (case k2 => k_is)
    (case a3 => k_is); (case l3 => k_is); (case c3 => k_is); (case k3 => k_is)
    (case a4 => k_is); (case l4 => k_is); (case c4 => k_is); (case k4 => k_is)
    (case a5 => k_is); (case l5 => k_is); (case c5 => k_is); (case k5 => k_is)
    (case a6 => k_is); (case l6 => k_is); (case c6 => k_is); (case k6 => k_is)
    (case a7 => k_is); (case l7 => k_is); (case c7 => k_is); (case k7 => k_is)
    (case a8 => k_is); (case l8 => k_is); (case c8 => k_is); (case k8 => k_is)
    (case a9 => k_is); (case l9 => k_is); (case c9 => k_is); (case k9 => k_is)
    (case a10 => k_is); (case l10 => k_is); (case c10 => k_is); (case k10 => k_is)
    (case a11 => k_is); (case l11 => k_is); (case c11 => k_is); (case k11 => k_is)
    (case a12 => k_is); (case l12 => k_is); (case c12 => k_is); (case k12 => k_is)
    (case a13 => k_is); (case l13 => k_is); (case c13 => k_is); (case k13 => k_is)
    (case a14 => k_is); (case l14 => k_is); (case c14 => k_is); (case k14 => k_is)
    (case a15 => k_is); (case l15 => k_is); (case c15 => k_is); (case k15 => k_is)
    (case z0 => k_is)
    (case z1 => k_is)
    (case z2 => k_is)
    (case z3 => k_is)
    (case z4 => k_is)
    (case z5 => k_is)
    (case z6 => k_is)
    (case z7 => k_is)
    (case z8 => k_is)
    (case z9 => k_is)
    (case z10 => k_is)
    (case z11 => k_is)
    (case z12 => k_is)
    (case z13 => k_is)
    (case gM => k_is)
