import PyProof.Rows.All
import Wide.All
import OpenK.AllK
import Wide.FinOn
import HandS.ForMost
import HandS.IsInst
import HandS.Wide
import HandS.Deep
import HandS.RaiseMore
import HandS.Star
import HandS.MakeKw
import HandS.Property
import HandS.Codes
import PyProof.ReprRoads
import PyProof.InstNe
import PyProof.EnumMake
import KE.GoesEnum
import KE.GoesMore
import PySem.Challenge.RW_squareloops_k02_loops_of_nests
set_option Elab.async false
set_option linter.all false
set_option maxRecDepth 100000
set_option maxHeartbeats 4000000
local macro_rules | `(tactic| walk_at "ob") => `(tactic| first | omega | decide | exact ⟨by omega, by omega⟩ | exact ⟨by decide, by decide⟩ | exact Or.inl ⟨by omega, by omega⟩ | exact Or.inr ⟨by omega, by omega⟩ | exact ⟨by decide, by decide, by decide⟩ | (show (0 : Int) < _; decide))
namespace Sq
open PySem PySem.Spec PyProof.Rows L2
/-! ### common words -/
theorem bt_len : bootBuiltins "len" = some (.builtin "len") := by decide +kernel
theorem bt_isinstance : bootBuiltins "isinstance" = some (.builtin "isinstance") := by decide +kernel
theorem bt_abs : bootBuiltins "abs" = some (.builtin "abs") := by decide +kernel
theorem bt_min : bootBuiltins "min" = some (.builtin "min") := by decide +kernel
theorem bt_max : bootBuiltins "max" = some (.builtin "max") := by decide +kernel
theorem bt_all : bootBuiltins "all" = some (.builtin "all") := by decide +kernel
theorem bt_any : bootBuiltins "any" = some (.builtin "any") := by decide +kernel
theorem bt_sum : bootBuiltins "sum" = some (.builtin "sum") := by decide +kernel
theorem bt_sorted : bootBuiltins "sorted" = some (.builtin "sorted") := by decide +kernel
theorem bt_divmod : bootBuiltins "divmod" = some (.builtin "divmod") := by decide +kernel
theorem bt_repr : bootBuiltins "repr" = some (.builtin "repr") := by decide +kernel
theorem bt_int : bootBuiltins "int" = some (.type "int") := by decide +kernel
theorem bt_bool : bootBuiltins "bool" = some (.type "bool") := by decide +kernel
theorem bt_tuple : bootBuiltins "tuple" = some (.type "tuple") := by decide +kernel
theorem bt_list : bootBuiltins "list" = some (.type "list") := by decide +kernel
theorem bt_set : bootBuiltins "set" = some (.type "set") := by decide +kernel
theorem bt_dict : bootBuiltins "dict" = some (.type "dict") := by decide +kernel
theorem bt_str : bootBuiltins "str" = some (.type "str") := by decide +kernel

theorem same_upd {H : Hp} {p : Addr} {o : HO} (h : H p = none) : Same H (upd H p o) := fun b x e => by
  rw [upd_ne (ne_of_none e h)]
  exact e
theorem seqT {K : PySem.W.Frag} {H H' : Hp} {a : Addr} {xs : List V} (e : Same H H') (h : SqT K H a xs) : SqT K H' a xs := by
  rcases h with (h | ⟨o, h⟩) | h
  · exact .inl (.inl (e _ _ h))
  · exact .inl (.inr ⟨o, e _ _ h⟩)
  · exact .inr h
theorem seqL {K : PySem.W.Frag} {H H' : Hp} {a : Addr} {xs : List V} (e : Same H H') (h : SqL K H a xs) : SqL K H' a xs := e.seq h
theorem SqT.new {K : PySem.W.Frag} {H : Hp} {p : Addr} {xs : List V} : SqT K (upd H p (.tup xs)) p xs := .inl (.inl upd_same)
theorem SqL.new {K : PySem.W.Frag} {H : Hp} {p : Addr} {xs : List V} : SqL K (upd H p (.lst xs)) p xs := .inl (.inl upd_same)
/-- all stands but the list at p -/
def SameX (p : Addr) (H H' : Hp) : Prop := ∀ b o, b ≠ p → H b = some o → H' b = some o
theorem SameX.of {p : Addr} {H H' : Hp} (e : Same H H') : SameX p H H' := fun b o _ h => e b o h
theorem SameX.refl (p : Addr) (H : Hp) : SameX p H H := fun _ _ _ h => h
theorem SameX.trans {p : Addr} {H H1 H2 : Hp} (a : SameX p H H1) (b : SameX p H1 H2) : SameX p H H2 := fun c o n h => b c o n (a c o n h)
theorem SameX.upd {p : Addr} {H : Hp} {o : HO} : SameX p H (upd H p o) := fun b x n e => by
  rw [upd_ne n]
  exact e
theorem SameX.same {p : Addr} {H H1 H' : Hp} (n : H p = none) (a : Same H H1) (e : SameX p H1 H') : Same H H' := fun b o h =>
  e b o (ne_of_none h n) (a b o h)
theorem SameX.newL {p : Addr} {H H' : Hp} {o : HO} (n : H p = none) (e : SameX p (L2.upd H p o) H') : Same H H' := e.same n (same_upd n)
theorem xseqT {K : PySem.W.Frag} {p : Addr} {H H' : Hp} {a : Addr} {xs ys : List V} (e : SameX p H H') (hp : H p = some (.lst ys)) (h : SqT K H a xs) : SqT K H' a xs := by
  rcases h with (h | ⟨o, h⟩) | h
  · exact .inl (.inl (e _ _ (ne_of h hp (by intro z; cases z)) h))
  · exact .inl (.inr ⟨o, e _ _ (ne_of h hp (by intro z; cases z)) h⟩)
  · exact .inr h
theorem xseqL {K : PySem.W.Frag} {p : Addr} {H H' : Hp} {a : Addr} {xs ys : List V} (e : SameX p H H') (n : a ≠ p) (hp : H p = some (.lst ys)) (h : SqL K H a xs) : SqL K H' a xs := by
  rcases h with (h | ⟨o, h⟩) | h
  · exact .inl (.inl (e _ _ n h))
  · exact .inl (.inr ⟨o, e _ _ n h⟩)
  · exact .inr h
theorem iteT' {c : Bool} {A B : Prop} (e : c = true) (h : A) : if c = true then A else B := by
  rw [if_pos e]
  exact h
theorem iteF' {c : Bool} {A B : Prop} (e : c = false) (h : B) : if c = true then A else B := by
  rw [if_neg (by rw [e]; decide)]
  exact h

theorem qi {Q : VK} {H : Hp} {x y : Int} (q : Q (.int x) H) (e : y = x) : Q (.int y) H := e ▸ q
theorem qb {Q : VK} {H : Hp} {x y : Bool} (q : Q (.bl x) H) (e : y = x) : Q (.bl y) H := e ▸ q
/-- a def of the top that keeps a promise -/
def DefOk (P : Program) (w : World) (K : PySem.W.Frag) (mg : Str → Option Value) (base : Heap) (k : Nat) (x : Str) (ps : List Str) (sp : Sp) : Prop :=
  ∃ (f : Addr) (fd : FuncData), PySem.W.keepIn K (.ref f) = true ∧ Binds K fd ps [] ∧ mg x = some (.ref f) ∧ FnOk P w K mg base CX0 k f fd ps sp
/-- a def of the top, where it stands -/
def DefAt (K : PySem.W.Frag) (mg : Str → Option Value) (x : Str) (st : Stmt) (ps : List Str) : Prop :=
  ∃ (f : Addr) (fd : FuncData), Fun K x x st f fd ∧ Binds K fd ps [] ∧ mg x = some (.ref f)
section
variable {X : Cx} {k : Nat} {x : Str} {ps : List Str} {sp : Sp}
theorem pe_callD {e : Expr} {es : List Expr} {t : TA} {p pos : Pos} (D : DefOk X.prog X.w X.K X.mg X.base k x ps sp) (hr : Room k X.A) (hg : Gl X x)
    (ha : PA X (e :: es) t) (hdb : (x == ("__debug__" : Str)) = false := by decide) (he : starEach (e :: es) X.env = (false, eval e X.env) :: starEach es X.env := by rfl) (hpl : (backTo pos (starEach es X.env)).any (·.1) = false := by rfl) :
    PE X (.Call (.Name x p) (e :: es) [] pos) (tCall sp [] E0 t) := by
  obtain ⟨f, fd, hk, hb, hm, F⟩ := D
  exact pe_call F hr hg hm hk hb .nil pass0 ha hdb he hpl
theorem pe_callD0 {p pos : Pos} (D : DefOk X.prog X.w X.K X.mg X.base k x ps sp) (hr : Room k X.A) (hg : Gl X x) (hdb : (x == ("__debug__" : Str)) = false := by decide) :
    PE X (.Call (.Name x p) [] [] pos) (tCall sp [] E0 tNil) := by
  obtain ⟨f, fd, hk, hb, hm, F⟩ := D
  exact pe_call0 F hr hg hm hk hb .nil pass0 hdb
end
section
variable {P : Program} {w : World} {K : PySem.W.Frag} {mg : Str → Option Value} {base : Heap}
/-- the rule for a def of the top -/
theorem def_ok {x : Str} {st : Stmt} {N ps : List Str} {k : Nat} {sp : Sp} (D : DefAt K mg x st ps) (S : FnScope N ps (defScope st)) (len : ∀ vs H Q E, sp vs H Q E → vs.length = ps.length)
    (hbody : ∀ (f : Addr) (cdv : Value) (A : Around) (outer : List Env) (s : Shared) (H : Hp) (vs : List V) (Q : VK) (E : XK), Room k (A.deeper (envOfC x (defScope st) s.heap.objs.size f cdv)) → sp vs H Q E →
      ∃ t, PSs (cxOf CX0 P w K mg base N x (defScope st) f cdv A outer s H E).nox (defBody st) t ∧ t { nx := fun _ H' => Q .non H', rt := Q } (start N vs) H) : DefOk P w K mg base (k + 1) x ps sp := by
  obtain ⟨f, fd, F, b, g⟩ := D
  exact ⟨f, fd, F.kp, b, g, F.ok S len (hbody f)⟩
end
/-! ### kinds of values -/
def tyNames : List String := ["NoneType", "bool", "int", "str", "list", "tuple", "dict", "set"]
theorem kI {K : PySem.W.Frag} {t : String} (h : t ∈ tyNames) : PySem.W.kitOne K (.type t) (.type "int") = some (decide (t = "int" ∨ t = "bool")) := by
  simp only [tyNames, List.mem_cons, List.not_mem_nil, or_false] at h
  rcases h with rfl | rfl | rfl | rfl | rfl | rfl | rfl | rfl <;> exact kit_ty (by decide +kernel)
theorem kB {K : PySem.W.Frag} {t : String} (h : t ∈ tyNames) : PySem.W.kitOne K (.type t) (.type "bool") = some (decide (t = "bool")) := by
  simp only [tyNames, List.mem_cons, List.not_mem_nil, or_false] at h
  rcases h with rfl | rfl | rfl | rfl | rfl | rfl | rfl | rfl <;> exact kit_ty (by decide +kernel)
theorem kT {K : PySem.W.Frag} {t : String} (h : t ∈ tyNames) : PySem.W.kitOne K (.type t) (.type "tuple") = some (decide (t = "tuple")) := by
  simp only [tyNames, List.mem_cons, List.not_mem_nil, or_false] at h
  rcases h with rfl | rfl | rfl | rfl | rfl | rfl | rfl | rfl <;> exact kit_ty (by decide +kernel)
theorem kS {K : PySem.W.Frag} {t : String} (h : t ∈ tyNames) : PySem.W.kitOne K (.type t) (.type "str") = some (decide (t = "str")) := by
  simp only [tyNames, List.mem_cons, List.not_mem_nil, or_false] at h
  rcases h with rfl | rfl | rfl | rfl | rfl | rfl | rfl | rfl <;> exact kit_ty (by decide +kernel)
theorem ty_int {K : PySem.W.Frag} {H : Hp} (i : Int) : TyX K H (.int i) (.type "int") := .base (.int i)
theorem ty_bl {K : PySem.W.Frag} {H : Hp} (i : Bool) : TyX K H (.bl i) (.type "bool") := .base (.bl i)
theorem ty_tup {K : PySem.W.Frag} {H : Hp} {a : Addr} {xs : List V} (h : SqT K H a xs) : TyX K H (.ref a) (.type "tuple") := by
  rcases h with (h | ⟨o, h⟩) | ⟨o, its, n, h, c, _⟩
  · exact .base (.tup h)
  · exact .fTuple h
  · exact .kTuple h c
/-! ### data that the top has written -/
def kRead (K : PySem.W.Frag) : Nat → Value → Option PyData
  | 0, _ => none
  | _ + 1, .none => some .none
  | _ + 1, .bool b => some (.bool b)
  | _ + 1, .int i _ => some (.int i)
  | _ + 1, .str x _ => some (.str x)
  | n + 1, .ref a => match K.lookup a with
    | some o => match o.cls, o.data with
      | .type c, .seq its _ => if c = "tuple" ∧ its.size ≤ sizeLine then (its.toList.mapM (kRead K n)).map .tuple else none
      | _, _ => none
    | none => none
  | _ + 1, _ => none
theorem kRead_list {K : PySem.W.Frag} {n : Nat} (ih : ∀ v d, kRead K n v = some d → ∃ x, RelV x v ∧ ∀ H, Dp K H x d) :
    ∀ (us : List Value) (ds : List PyData), us.mapM (kRead K n) = some ds → ∃ xs, Vals xs us ∧ ∀ H, DpAll K H xs ds
  | [], ds, h => by
    simp only [List.mapM_nil] at h
    cases h
    exact ⟨[], .nil, fun H => .nil⟩
  | u :: us, ds, h => by
    simp only [List.mapM_cons] at h
    cases e : kRead K n u with
    | none => rw [e] at h; cases h
    | some d =>
      rw [e] at h
      cases e2 : us.mapM (kRead K n) with
      | none => rw [e2] at h; cases h
      | some ds2 =>
        rw [e2] at h
        cases h
        obtain ⟨x, r, p⟩ := ih u d e
        obtain ⟨xs, rs, ps⟩ := kRead_list ih us ds2 e2
        exact ⟨x :: xs, .cons r rs, fun H => .cons (p H) (ps H)⟩
theorem kRead_ok {K : PySem.W.Frag} : ∀ (n : Nat) (v : Value) (d : PyData), kRead K n v = some d → ∃ x, RelV x v ∧ ∀ H, Dp K H x d
  | 0, _, _, h => by cases h
  | n + 1, v, d, h => by
    cases v with
    | none => cases h; exact ⟨.non, rfl, fun H => .non⟩
    | bool b => cases h; exact ⟨.bl b, rfl, fun H => .bl b⟩
    | int i t => cases h; exact ⟨.int i, ⟨t, rfl⟩, fun H => .int i⟩
    | str x t => cases h; exact ⟨.str x, ⟨t, rfl⟩, fun H => .str x⟩
    | ref a =>
      unfold kRead at h
      split at h
      · rename_i o ho
        split at h
        · rename_i c its m hc hd
          split at h
          · rename_i hz
            obtain ⟨hz1, hz2⟩ := hz
            subst hz1
            cases e : its.toList.mapM (kRead K n) with
            | none => rw [e] at h; cases h
            | some ds =>
              rw [e] at h
              cases h
              obtain ⟨xs, rs, ps⟩ := kRead_list (kRead_ok n) _ _ e
              exact ⟨.ref a, rfl, fun H => .tup (.inr ⟨o, its, m, ho, hc, hd, hz2, rs⟩) (ps H)⟩
          · cases h
        · cases h
      · cases h
    | _ => cases h
theorem kRead_ref {K : PySem.W.Frag} {n : Nat} {a : Addr} {d : PyData} (h : kRead K n (.ref a) = some d) (H : Hp) : Dp K H (.ref a) d := by
  obtain ⟨x, r, p⟩ := kRead_ok n _ _ h
  cases x <;> simp only [L2.RelV, reduceCtorEq, exists_false, Value.ref.injEq] at r
  subst r
  exact p H
/-! ### the law's purl -/
def Prl (H : Hp) (p : Addr) (m o : Int) : Prop := H p = some (.lst [.int m, .int o]) ∧ 0 ≤ m ∧ m < 2147483629 ∧ 0 ≤ o
theorem Prl.same {H H' : Hp} {p : Addr} {m o : Int} (e : Same H H') (h : Prl H p m o) : Prl H' p m o := ⟨e _ _ h.1, h.2⟩
theorem neF {x y : V} (e : x = y) : (!decide (x = y)) = false := by rw [decide_eq_true e]; rfl
theorem eqF {x y : V} (e : x ≠ y) : decide (x = y) = false := decide_eq_false e
theorem all_rep (n : Nat) : (List.replicate n true).all id = true := by
  rw [List.all_eq_true]
  intro x hx
  rw [List.eq_of_mem_replicate hx]
  rfl
section
variable {X : Cx}
theorem call_min2N (hc : X.calm = true) : CallR X (.builtin "min") (fun xs H Q => ∃ i j, xs = [.int i, .int j] ∧ ∀ r, r ≤ i → r ≤ j → (r = i ∨ r = j) → Q (.int r) H) := by
  intro pins s σ H vs us Q I r ⟨i, j, e, h⟩
  refine call_min2 hc pins s σ H vs us Q I r ⟨i, j, e, h _ ?_ ?_ ?_⟩ <;> split <;> omega
theorem call_max2N (hc : X.calm = true) : CallR X (.builtin "max") (fun xs H Q => ∃ i j, xs = [.int i, .int j] ∧ ∀ r, i ≤ r → j ≤ r → (r = i ∨ r = j) → Q (.int r) H) := by
  intro pins s σ H vs us Q I r ⟨i, j, e, h⟩
  refine call_max2 hc pins s σ H vs us Q I r ⟨i, j, e, h _ ?_ ?_ ?_⟩ <;> split <;> omega
theorem op_powN : OpR X (binaryOp .Pow) (fun x y H Q => ∃ i j, x = .int i ∧ y = .int j ∧ CPow i j ∧ ∀ r, r = i ^ j.toNat → Q (.int r) H) := by
  intro pins s σ H x y v u Q I rx ry ⟨i, j, e1, e2, hc, h⟩
  exact op_pow pins s σ H x y v u Q I rx ry ⟨i, j, e1, e2, hc, h _ rfl⟩
def rInDT (K : PySem.W.Frag) : R2 := fun x y H Q => ∃ d ds, Dp K H x d ∧ Dp K H y (.tuple ds) ∧ SeqAt.shaped d = true ∧ SeqAt.shaped (.tuple ds) = true ∧ Q (.bl (ds.any fun z => PyData.eqv z d)) H
theorem op_inDT (hu : X.A.units + 65 < cLine) : OpR X (compareOp .In) (rInDT X.K) := by
  intro pins s σ H x y v u Q I rx ry h
  obtain ⟨d, ds, hd, he, sd, se, q⟩ := h
  obtain ⟨as, r1⟩ := Dp.reads I d x v hd rx
  obtain ⟨bs, r2⟩ := Dp.reads I (.tuple ds) y u he ry
  exact SeqAt.in_tuple_reads r2 r1 (SeqAt.canLay_of_shaped se) (SeqAt.canLay_of_shaped sd) (room_in_shaped sd hu) ⟨.bl _, H, I, rfl, q⟩
end
theorem hu65 {A : Around} {k : Nat} (hr : Room k A) : A.units + 65 < cLine := by
  have := hr.un
  omega
/-! ### promises of defs where no container's text is being made (for repr) -/
structure FnG (P : Program) (w : World) (K : PySem.W.Frag) (mg : Str → Option Value) (base : Heap) (k : Nat) (f : Addr) (fd : FuncData) (ps : List Str) (sp : Sp) : Prop where
  size : ∀ vs H Q E, sp vs H Q E → vs.length = ps.length
  go : ∀ (A : Around) (fr : List Env) (s : Shared) (H : Hp) (ar : Args) (us : List Value) (vs : List V) (Q : VK) (E : XK), A.guards = some [] → Room k A → Env0 P w K mg base A fr s H →
    BindsTo s fd ar (ps.zip us) → Vals vs us → sp vs H Q E → codeAny (model P w) A (.call (.ref f) ar) (CR CX0 fr P w H s Q E) s
theorem FnG.of {P : Program} {w : World} {K : PySem.W.Frag} {mg : Str → Option Value} {base : Heap} {k : Nat} {f : Addr} {fd : FuncData} {ps : List Str} {sp : Sp} (F : FnOk P w K mg base CX0 k f fd ps sp) : FnG P w K mg base k f fd ps sp :=
  ⟨F.len, fun A fr s H ar us vs Q E _ hr e b r h => F.run A fr s H ar us vs Q E hr e b r h⟩
section
variable {P : Program} {w : World} {K : PySem.W.Frag} {mg : Str → Option Value} {base : Heap}
theorem fnG_ok {x : Str} {st : Stmt} {f : Addr} {fd : FuncData} {N ps : List Str} {k : Nat} {sp : Sp} (F : Fun K x x st f fd) (Sc : FnScope N ps (defScope st)) (size : ∀ vs H Q E, sp vs H Q E → vs.length = ps.length)
    (walk : ∀ (cdv : Value) (A : Around) (fr : List Env) (s : Shared) (H : Hp) (vs : List V) (Q : VK) (E : XK), (A.deeper (envOfC x (defScope st) s.heap.objs.size f cdv)).guards = some [] → Room k (A.deeper (envOfC x (defScope st) s.heap.objs.size f cdv)) → sp vs H Q E →
      ∃ t, PSs (cxOf CX0 P w K mg base N x (defScope st) f cdv A fr s H E).nox (defBody st) t ∧ t { nx := fun _ H' => Q .non H', rt := Q } (start N vs) H) : FnG P w K mg base (k + 1) f fd ps sp := by
  obtain ⟨oc, od, kV, doc, pm, an, cdv, ct, osl, rfl, at_f, code⟩ := F.ex
  refine ⟨size, ?_⟩
  intro A fr s H ar us vs Q E quiet room env bd rel asks
  have still := fun (b : Addr) (o : Obj) (e : base.get? b = some o) => (env.bs b o e).1
  have inK : K.In s.heap := env.mod.kin.keeps still
  have free := env.mod.nolimit.keeps still
  have local_ : ∀ y ∈ ps.zip us, (defScope st).names.lookup y.1 = some .local ∨ ((defScope st).names.lookup y.1 = some .cell ∧ ((cellsFrom (s.heap.objs.size + 1) (defScope st).names []).lookup y.1).isSome = true) := by
    rintro ⟨n, v⟩ hy
    rcases Sc.par n (List.of_mem_zip hy).1 with q | q
    · exact Or.inl q
    · exact Or.inr ⟨q, PySem.W.cellsFrom_some _ _ _ (Or.inl q)⟩
  refine codeAny_call_function room.depth (inK _ _ at_f) rfl Sc.co Sc.gen rfl (PySem.W.codeRec_of inK code) (bd _ _ _ _ ?_)
  refine wpAny_newFunctionEnv_cells Sc.kind local_ ?_
  intro env1 he s1 new
  subst he
  refine ⟨free.keeps new.toInCall.keep, codeAny_func ?_⟩
  obtain ⟨t, ht, hq⟩ := walk cdv A fr s H vs Q E quiet (room.deeper _) asks
  have begins : Inv (cxOf CX0 P w K mg base N x (defScope st) f cdv A fr s H E) [] (start N vs) H s1 := inv_start Sc room.hd env (size _ _ _ _ asks) rel new
  refine wpAny_mono (ht.nox.run [] s1 (start N vs) H _ begins hq) (fun flow s' ends => ?_) fun e s' ends => ends
  cases flow with
  | ret u =>
    obtain ⟨v, σ', H', J, rv, q⟩ := ends
    exact ⟨v, H', J.os, J.bare, J.base, J.hok, rv, q⟩
  | next =>
    obtain ⟨σ', H', J, q⟩ := ends
    exact ⟨V.non, H', J.os, J.bare, J.base, J.hok, rfl, q⟩
  | brk => exact ends.elim fun _ z => z.elim fun _ z => z.2.elim
  | cont => exact ends.elim fun _ z => z.elim fun _ z => z.2.elim
end
def DefG (P : Program) (w : World) (K : PySem.W.Frag) (mg : Str → Option Value) (base : Heap) (k : Nat) (x : Str) (ps : List Str) (sp : Sp) : Prop :=
  ∃ (f : Addr) (fd : FuncData), PySem.W.keepIn K (.ref f) = true ∧ Binds K fd ps [] ∧ mg x = some (.ref f) ∧ FnG P w K mg base k f fd ps sp
section
variable {X : Cx} {k : Nat} {x : Str} {ps : List Str} {sp : Sp}
theorem pe_callG {e : Expr} {es : List Expr} {t : TA} {p pos : Pos} (D : DefG X.prog X.w X.K X.mg X.base k x ps sp) (quiet : X.A.guards = some []) (room : Room k X.A) (glob : Gl X x)
    (ha : PA X (e :: es) t) (hdb : (x == ("__debug__" : Str)) = false := by decide) (he : starEach (e :: es) X.env = (false, eval e X.env) :: starEach es X.env := by rfl) (hpl : (backTo pos (starEach es X.env)).any (·.1) = false := by rfl) :
    PE X (.Call (.Name x p) (e :: es) [] pos) (tCall sp [] E0 t) := by
  obtain ⟨f, fd, kept, bd, at_x, F⟩ := D
  refine ⟨?_⟩
  intro pins s σ H Q I h
  refine wpAny_Call_Name_kw (ld_glob I glob at_x ?_ hdb)
  refine PySem.W.callWith_K (h₀ := X.base) I.ok.mod.kin kept (thn (ha.run pos pins s σ H _ I h) ?_) he hpl
  rintro us s1 ⟨vs, H1, I1, r, q⟩
  refine ⟨I1.kIn, ?_⟩
  have q0 : sp vs H1 Q E0 := by
    have z : sp (vs ++ []) H1 Q E0 := q
    rwa [List.append_nil] at z
  have len : (us ++ []).length = ps.length := by rw [List.append_nil, ← r.length]; exact F.size _ _ _ _ q0
  have bind1 := bd s1 us I1.kIn len
  rw [List.append_nil] at bind1
  refine wpAny_call (codeAny_mono (F.go X.A X.stack s1 H1 ⟨us, []⟩ us vs Q E0 quiet room I1.env0 bind1 r q0) ?_)
  intro res s' out
  cases res with
  | error e => exact (pass0 (X := X)) pins σ H1 s1 e s' I1 out
  | ok flow =>
    cases flow with
    | ret u => exact I1.after out
    | next => exact out.elim
    | brk => exact out.elim
    | cont => exact out.elim
/-- repr(x) of data -/
theorem call_reprD (quiet : X.A.guards = some []) (hu : X.A.units + 65 < cLine) : CallR X (.builtin "repr") (fun xs H Q => ∃ v d, xs = [v] ∧ Dp X.K H v d ∧ SeqAt.shaped d = true ∧ d.showable = true ∧ d.shown.length ≤ sizeLine ∧ Q (.str d.shown) H) := by
  intro pins s σ H xs us Q I r ⟨v, d, e, hd, sh, hs, hz, q⟩
  subst e
  obtain ⟨u, rfl, ru⟩ := vals1 r
  obtain ⟨as, rd⟩ := Dp.reads I d v u hd ru
  have hdep : d.depth ≤ 64 := by
    have z := sh
    unfold SeqAt.shaped at z
    rw [Bool.and_eq_true] at z
    exact of_decide_eq_true z.2
  have hcan : d.canLay0 = true := SeqAt.canLay_of_shaped sh
  have nod : d.hasDict = true → sysModules ∉ as := fun z => absurd z (by rw [PyData.hasDict_of_canLay d hcan]; decide)
  have big : ∀ a, u = .ref a → wpAny (model X.prog X.w) X.A (call (.builtin "repr") [u]) (EP X pins σ Q) X.xe s := by
    intro a ea
    subst ea
    exact repr_of_reads' rd hs nod quiet (by omega) (fun _ _ z => z) (fun h' u' tk hk => ⟨.str _, H, I.kept hk, ⟨_, rfl⟩, q⟩) hz
  cases hd with
  | non =>
    cases ru
    rw [PyData.shown_none] at q
    exact P.repr_of_none ⟨.str _, H, I.tok _, ⟨_, rfl⟩, q⟩
  | bl b =>
    cases ru
    rw [PyData.shown_bool] at q
    refine P.repr_of_bool ⟨.str _, H, I.tok _, ⟨_, rfl⟩, ?_⟩
    cases b <;> exact q
  | int i =>
    obtain ⟨t, rfl⟩ := ru
    rw [PyData.shown_int] at q
    exact P.repr_of_int (of_decide_eq_true hs) ⟨.str _, H, I.tok _, ⟨_, rfl⟩, q⟩
  | str x =>
    obtain ⟨t, rfl⟩ := ru
    rw [PyData.shown_str] at q hz
    exact P.repr_of_str ⟨.str _, H, I.tok _, ⟨_, rfl⟩, q⟩ hz
  | lst h a => exact big _ ru
  | tup h a => exact big _ ru
end
/-- the law's call, from its promise where nothing is being shown -/
theorem law_goes {P : Program} {w : World} {K : PySem.W.Frag} {mg mb : Str → Option Value} {k : Nat} {fa a : Addr} {fd : FuncData} {x : Str} {sp : Sp} {s : Shared} {us : List Value} {ns : List Int}
    (inK : K.In s.heap) (glob : s.heap.Ns mainGlobals mg) (blt : s.heap.Ns builtinsNs mb) (boot : ∀ x : Str, x ≠ "__name__" → mb x = bootBuiltins x) (lim : s.heap.NoLimit) (gens : s.gens = #[])
    (at_a : s.heap.get? a = some { cls := .type "list", data := .seq us.toArray }) (nums : IntsAre us ns) (few : ns.length ≤ sizeLine) (room : Room k callerA)
    (F : ∀ base : Heap, K.In base → base.Ns mainGlobals mg → FnG P w K mg base k fa fd [x] sp) (bind : ∀ (s : Shared) (u : Value), BindsTo s fd ⟨[u], []⟩ [(x, u)])
    (asks : ∀ H : Hp, Only H → SqL K H a (ns.map V.int) → sp [.ref a] H (fun v _ => v = .bl true) fun _ _ _ => False) :
    codeAny (model P w) callerA (.call (.ref fa) ⟨[.ref a], []⟩) (fun r s' => r = .ok (.ret (.bool true)) ∧ OldK s.heap s'.heap ∧ s'.os = s.os ∧ AllBare s'.gens) s := by
  have main : ∀ H : Hp, Only H → SqL K H a (ns.map V.int) → HOk P w H s.heap → (∀ b, H b ≠ none → b = a ∧ K.lookup a = none) →
      codeAny (model P w) callerA (.call (.ref fa) ⟨[.ref a], []⟩) (fun r s' => r = .ok (.ret (.bool true)) ∧ OldK s.heap s'.heap ∧ s'.os = s.os ∧ AllBare s'.gens) s := by
    intro H only hS hok just
    have free : ∀ {b : Addr}, (∀ z, b = a → ¬ z) → H b = none := by
      intro b hb
      cases e : H b with
      | none => rfl
      | some u => exact absurd trivial (hb True (just b (by rw [e]; exact fun z => nomatch z)).1)
    have stays : ∀ {b : Addr} {o : Obj}, s.heap.get? b = some o → H b = none → (hidT s.heap H).get? b = some o := fun e n => hidT_get e n
    have nsS : ∀ {b : Addr} {m : Str → Option Value}, s.heap.Ns b m → (hidT s.heap H).Ns b m := by
      rintro b m ⟨o, es, ep, e, d, r⟩
      refine ⟨o, es, ep, stays e (free fun z eb _ => ?_), d, r⟩
      rw [eb, at_a] at e
      cases e
      cases d
    have inB : K.In (hidT s.heap H) := by
      intro b o e
      refine stays (inK b o e) ?_
      cases eh : H b with
      | none => rfl
      | some u =>
        obtain ⟨eb, en⟩ := just b (by rw [eh]; exact fun z => nomatch z)
        rw [eb, en] at e
        cases e
    have nolim : (hidT s.heap H).NoLimit := by
      obtain ⟨mc, h1, h2⟩ := lim
      exact ⟨mc, nsS h1, h2⟩
    have start0 : Env0 P w K mg (hidT s.heap H) callerA [] s H :=
      ⟨rfl, ⟨inB, nsS glob, ⟨mb, nsS blt, boot⟩, nolim⟩, fun b o e => of_hidT e, Nat.le_of_eq (hidT_size _ _), trivial, (fun b hb => nomatch hb), hok, .of_eq gens⟩
    have run := (F _ inB (nsS glob)).go callerA [] s H ⟨[.ref a], []⟩ [.ref a] [.ref a] _ _ rfl room start0 (bind s (.ref a)) (.cons rfl .nil) (asks H only hS)
    refine codeAny_mono run ?_
    intro res s' out
    cases res with
    | error e => exact out.elim
    | ok flow =>
      cases flow with
      | next => exact out.elim
      | brk => exact out.elim
      | cont => exact out.elim
      | ret u =>
        obtain ⟨v, H', os, bare, un, hok', rel, ev⟩ := out
        have ev : v = .bl true := ev
        subst ev
        have eu : u = Value.bool true := rel
        subst eu
        refine ⟨rfl, OldK.of_keep ?_, os, bare⟩
        intro b o e
        cases eh : H b with
        | none => exact un.keep b o e eh (fun z => nomatch z) (by simp)
        | some u =>
          rcases only b with z | ⟨ob, xs, z⟩
          · rw [eh] at z; cases z
          · have old := (hok b _ z).1
            rw [e] at old
            cases old
            exact (hok' b _ (un.frzs b _ _ z)).1
  have rv := vals_ints nums
  have len := nums.length
  cases ek : K.lookup a with
  | some o =>
    have e := inK a o ek
    rw [at_a] at e
    cases e
    refine main (fun _ => none) (fun _ => .inl rfl) (.inr ⟨_, us.toArray, _, ek, rfl, rfl, rfl, by rw [List.size_toArray, len]; exact few, by simpa using rv⟩) (fun b u z => nomatch z) (fun b z => absurd rfl z)
  | none =>
    let o0 : Obj := { cls := .type "list", data := .seq us.toArray }
    refine main (fun b => if b = a then some (.frz o0 (.lst (ns.map V.int))) else none) (fun b => ?_) (.inl (.inr ⟨o0, if_pos rfl⟩)) (fun b u z => ?_) (fun b z => ?_)
    · by_cases eb : b = a
      · exact .inr ⟨_, _, if_pos eb⟩
      · exact .inl (if_neg eb)
    · by_cases eb : b = a
      · subst eb
        have z' := (if_pos rfl).symm.trans z
        cases z'
        exact ⟨at_a, by rw [List.length_map]; exact few, us, _, rv, at_a⟩
      · have z' := (if_neg eb).symm.trans z
        cases z'
    · by_cases eb : b = a
      · exact ⟨eb, ek⟩
      · exact absurd (if_neg eb) z
theorem walk_goes {l : PySem.W.OpenLaw} {n k : Nat} {q : Program} {loose : List Str} {XP : (Str → Option Value) → Heap → Prop} {YP : World → Heap → Prop} {d : DefRec} {K : Params → PySem.W.Frag} {sp : World → Sp} {x : Str}
    (hn : l.most = some n) (few : n ≤ sizeLine) (nod : d.params.defaults = []) (room : Room k callerA) (hY : ∀ (w : World) (h : Heap), YP w h → (K w.params).In h)
    (F : ∀ (w : World) (mg : Str → Option Value) (fa : Addr) (h : Heap), (K w.params).In h → h.Ns mainGlobals mg → mg d.name = some (.ref fa) →
      ∃ fd : FuncData, (∀ (s : Shared) (u : Value), BindsTo s fd ⟨[u], []⟩ [(x, u)]) ∧ ∀ base : Heap, (K w.params).In base → base.Ns mainGlobals mg → FnG l.prog w (K w.params) mg base k fa fd [x] (sp w))
    (asks : ∀ (w : World) (H : Hp) (a : Addr) (ns : List Int), ns.length ≤ n → Only H → SqL (K w.params) H a (ns.map V.int) → sp w [.ref a] H (fun v _ => v = .bl true) fun _ _ _ => False) :
    PySem.W.WalkO q loose XP YP l.row.toRowW d [] (fun f vs => PySem.call f vs) := by
  refine Att.attach_call hn nod ?_
  intro w s₀ s₁ mg mb fa o pm cd doc a us ns G Y ho hd hcd hmg hobj hints hlen hg
  obtain ⟨fd, hb, hF⟩ := F w mg fa _ (hY w _ Y) G.T.g hmg
  exact law_goes (hY w _ Y) G.T.g G.T.b G.T.builtins G.T.nolimit hg hobj hints (Nat.le_trans hlen few) room hF hb fun H h1 h2 => asks w H a ns hlen h1 h2
/-! ### enumerate over a tuple -/
section
open AutoSeq1 (wpAny_loadPart')
set_option maxHeartbeats 4000000 in
theorem enum_tup_new (t : Addr) (o : Obj) (items : Array Value) (n : Nat) (hc : o.cls = .type "tuple") (hd : o.data = .seq items n) :
    Meets (Builtin.«enumerate.__new__» ⟨[.type "enumerate", .ref t], []⟩) (fun _ R s => s.heap.get? t = some o ∧
      R (.ok (.ret (.ref (s.heap.push { cls := .type "tuple_iterator", data := .fields #[.ref t, .int 0 0] }).objs.size)))
        { s with heap := (s.heap.push { cls := .type "tuple_iterator", data := .fields #[.ref t, .int 0 0] }).push { cls := .type "enumerate", data := .fields #[.none, .bool false, .ref s.heap.objs.size, rawInt 0, .none, .none] } }) := by
  refine .of_wp ?_
  intro prog w A R s h
  obtain ⟨hp, g, d, tk, os⟩ := s
  obtain ⟨ht, h⟩ := h
  have sub0 := sub_enumerate
  have isT : Heap.IsTuple (Shared.heap ⟨hp, g, d, tk, os⟩) t items := ⟨_, ht, hc, n, hd⟩
  wp_walk using wpAny_loadPart' ht
  refine wpAny_stack_any (fun st => wpAny_pure ?_)
  split
  · rename_i c _ _ _ _ _
    cases (c == Value.type "enumerate") <;> (wp_walk using wpAny_loadPart' ht, wpAny_pyIter_tuple isT) <;> exact ⟨_, rfl, h⟩
  · wp_walk using wpAny_loadPart' ht, wpAny_pyIter_tuple isT
    exact ⟨_, rfl, h⟩
theorem call_enum_tup {prog : Program} {w : World} {A : Around} {E : Value → Shared → Prop} {s : Shared} {t : Addr} {items : Array Value} {Q : Value → Shared → Prop} (hT : s.heap.IsTuple t items)
    (h : ∀ h', IsEnum h' (s.heap.objs.size + 1) s.heap.objs.size 0 .none → h'.IsTupleIter s.heap.objs.size t 0 → (∀ b o, s.heap.get? b = some o → h'.get? b = some o) → Q (.ref (s.heap.objs.size + 1)) { s with heap := h' }) :
    wpAny (model prog w) A (call (.type "enumerate") [.ref t]) Q E s := by
  obtain ⟨o, ho, hc, n, hd⟩ := hT
  refine callType_new F.called_enumerate (by decide) (F.typeCall_enumerate_1 _) (F.newCall_enumerate_1 _) (fun obj => F.args_object_init_2 obj _) F.entry_enumerate_new (enum_tup_new t o items n hc hd) ⟨ho, ?_⟩
  let i0 : Obj := { cls := .type "tuple_iterator", data := .fields #[.ref t, .int 0 0] }
  let e0 : Obj := { cls := .type "enumerate", data := .fields #[.none, .bool false, .ref s.heap.objs.size, rawInt 0, .none, .none] }
  have size1 : (s.heap.push i0).objs.size = s.heap.objs.size + 1 := Heap.size_push ..
  have he : IsEnum ((s.heap.push i0).push e0) (s.heap.objs.size + 1) s.heap.objs.size 0 .none := by
    have z := Heap.get?_push_size (s.heap.push i0) (o := e0) rfl
    rw [size1] at z
    exact z
  show _ ∧ _
  rw [show (s.heap.push { cls := .type "tuple_iterator", data := .fields #[.ref t, .int 0 0] }).objs.size = s.heap.objs.size + 1 from size1]
  exact ⟨⟨_, he, rfl⟩, h _ he ⟨_, Heap.get?_push_of_some _ (Heap.get?_push_size _ rfl), rfl, rfl⟩ fun b o x => Heap.get?_push_of_some _ (Heap.get?_push_of_some _ x)⟩
end
/-- the tuple at a, each item in a new pair with its place -/
def IteT (K : PySem.W.Frag) (a : Addr) : It :=
  ⟨fun i H => ∃ (xs : List V) (x : V), SqT K H a xs ∧ xs[i]? = some x, fun i H v H' => ∃ T x, v = .ref T ∧ H T = none ∧ H' = upd H T (.tup [.int (i : Nat), x]) ∧ ∀ xs, SqT K H a xs → xs[i]? = some x, fun i H => ∃ xs : List V, SqT K H a xs ∧ xs.length = i⟩
theorem turn_enumT {P : Program} {w : World} {K : PySem.W.Frag} {elts : List Expr} {kk : Nat} {tpos : Pos} (a e it : Addr) :
    Turn P w K (.Tuple elts kk tpos) (IteT K a) [e, it] e (fun i h => (∃ old, IsEnum h e it ((i : Nat) : Int) old) ∧ h.IsTupleIter it a i ∧ e ≠ it) where
  mem := by simp
  obj := fun i h st b hb => by
    obtain ⟨⟨old, he⟩, ⟨o, ho, hc, hd⟩, _⟩ := st
    rcases (show b = e ∨ b = it by simpa using hb) with rfl | rfl
    · exact ⟨_, he, fun v q => nomatch q⟩
    · exact ⟨o, ho, fun v q => by rw [hd] at q; cases q⟩
  keep := fun i h h' st k => by
    obtain ⟨⟨old, he⟩, hi, ne⟩ := st
    exact ⟨⟨old, k e (by simp) _ he⟩, hi.at fun o q => k it (by simp) o q, ne⟩
  item := by
    intro X hP hw hK hc i pins s σ H E I own st go
    subst hP hw hK
    obtain ⟨⟨old, he⟩, hit, ne⟩ := st
    obtain ⟨xs, x, hq, hx⟩ := go
    obtain ⟨its, rv, isT, hz⟩ := I.tuple hq
    obtain ⟨u, hu, ru⟩ := rv.get hx
    have nea : a ≠ it := by
      obtain ⟨o1, h1, c1, _⟩ := isT
      obtain ⟨o2, h2, c2, _⟩ := hit
      intro z
      subst z
      rw [h1] at h2
      cases h2
      rw [c1] at c2
      exact absurd c2 (by decide)
    have D := Draws.tuple (prog := X.prog) (w := X.w) (A := X.A.in1) (I.ok.hd hc) it a nea its.toArray
    have below : e < s.heap.objs.size := Heap.lt_size he
    have below2 : it < s.heap.objs.size := by obtain ⟨_, q, _⟩ := hit; exact Heap.lt_size q
    have nea2 : e ≠ a := by
      obtain ⟨o1, h1, c1, _⟩ := isT
      intro z
      have he1 : s.heap.get? e = some _ := he
      rw [z, h1] at he1
      cases he1
      have c3 : Value.type "enumerate" = Value.type "tuple" := c1
      exact absurd c3 (by decide)
    have ii : i < its.toArray.size := by
      have := (List.getElem?_eq_some_iff.mp hu).1
      simpa using this
    refine wpAny_pyNext_enum_itemC D he ⟨hit, isT⟩ ii ne (by simp only [List.mem_cons, List.not_mem_nil, or_false]; rintro (z | z); exact ne z; exact nea2 z) ?_
    intro y h' tk hy out st' hT size1 stays
    have ey : y = u := by
      have hy : its.toArray[i]? = some y := hy
      rw [List.getElem?_toArray, hu] at hy
      exact (Option.some.inj hy).symm
    subst ey
    refine ⟨_, rfl, wpAny_letOwnedTupleGo_enum (s := { s with heap := h', toks := tk + 1 }) out ?_⟩
    intro h'' he' sb
    have hT2 : h''.get? s.heap.objs.size = some { cls := .type "tuple", data := .seq #[.int i tk, y] } := (sb.2 _ (Nat.ne_of_gt below)).trans hT
    have new : ObjOk X.prog X.w (upd H s.heap.objs.size (.tup [.int (i : Nat), x])) h'' s.heap.objs.size (.tup [.int (i : Nat), x]) :=
      ⟨by show 2 ≤ sizeLine; decide, [.int i tk, y], .cons ⟨_, rfl⟩ (.cons ru .nil), ⟨_, hT2, rfl, _, rfl⟩⟩
    have I1 : Inv X pins σ (upd H s.heap.objs.size (.tup [.int (i : Nat), x])) { s with heap := h'', toks := tk + 1 } :=
      I.turnedNew (ch := [e, it]) (fun b ob hb q => (sb.2 b (fun z => hb (by simp [z]))).trans (stays b ob (fun z => hb (by simp [z])) (fun z => hb (by simp [z])) q)) own (Nat.le_refl _) new
    refine ⟨.ref s.heap.objs.size, _, I1, rfl, ⟨_, x, rfl, I.hok.fresh (Nat.le_refl _), rfl, fun ys hy => by rw [I.tuple_inj hy hq]; exact hx⟩, ⟨⟨y, ?_⟩, st'.1.at fun o q => (sb.2 it (Ne.symm ne)).trans q, ne⟩, fun b hb => ?_⟩
    · rw [show ((i + 1 : Nat) : Int) = (i : Int) + 1 by omega]
      exact he'
    · have low : b < s.heap.objs.size := by
        rcases (show b = e ∨ b = it by simpa using hb) with z | z
        · rw [z]; exact below
        · rw [z]; exact below2
      rw [upd_ne (Nat.ne_of_lt low)]
      exact (own b hb).1
  done := by
    intro X hP hw hK hc i pins s σ H E I own st stop
    subst hP hw hK
    obtain ⟨⟨old, he⟩, hit, ne⟩ := st
    obtain ⟨xs, hq, hx⟩ := stop
    obtain ⟨its, rv, isT, hz⟩ := I.tuple hq
    obtain ⟨f0, f1, f2, f3, f4, f5⟩ := own it (by simp)
    have nea : a ≠ it := by
      obtain ⟨o1, h1, c1, _⟩ := isT
      obtain ⟨o2, h2, c2, _⟩ := hit
      intro z
      subst z
      rw [h1] at h2
      cases h2
      rw [c1] at c2
      exact absurd c2 (by decide)
    have len : i = its.toArray.size := by rw [List.size_toArray, ← rv.length, hx]
    have D := Draws.tuple (prog := X.prog) (w := X.w) (A := X.A.in1) (I.ok.hd hc) it a nea its.toArray
    subst len
    exact wpAny_pyNext_enum_endD D he ⟨hit, isT⟩ fun h' eb => ⟨rfl, I.turned (t' := s.toks) (fun b o hb q => eb b o hb q) f0 f1 f3 f4 f5⟩
  self := fun A i s Q E st h => by
    obtain ⟨⟨_, he⟩, _⟩ := st
    exact wpAny_pyIter_enum he h
def iEnumT (K : PySem.W.Frag) (ta : TA) : TI := fun σ H R => ta σ H fun vs H1 => ∃ a xs, vs = [.ref a] ∧ SqT K H1 a xs ∧ R (IteT K a) H1
theorem pi_enumT {X : Cx} {e : Expr} {ta : TA} {p pos tpos : Pos} {elts : List Expr} {kk : Nat} (hg : Gl X "enumerate") (hm : X.mg "enumerate" = none) (ha : PA X [e] ta) (hs : starEach [e] X.env = [(false, eval e X.env)] := by rfl) :
    PI X (.Tuple elts kk tpos) (.Call (.Name "enumerate" p) [e] [] pos) (iEnumT X.K ta) := by
  refine ⟨?_⟩
  intro pins s σ H R I h
  refine Call_ (ld_blt I hg hm boot_enumerate (PyProof.Rows.callWith_type1 (thn (ha.run pos pins s σ H _ I h) ?_) hs rfl))
  rintro us s1 ⟨vs, H1, I1, r1, a, xs, ex, hq, q⟩
  subst ex
  obtain ⟨u, rfl, ru⟩ := vals1 r1
  cases ru
  obtain ⟨its, rv, isT, hz⟩ := I1.tuple hq
  refine call_enum_tup isT ?_
  intro h' he hit stays
  refine wpAny_pyIter_enum he ?_
  have I2 : Inv X pins σ H1 { s1 with heap := h' } := I1.kept (t' := s1.toks) stays
  refine ⟨s1.heap.objs.size + 1, [s1.heap.objs.size + 1, s1.heap.objs.size], _, _, H1, rfl, I2, turn_enumT a (s1.heap.objs.size + 1) s1.heap.objs.size, ⟨⟨.none, he⟩, hit, Nat.succ_ne_self _⟩, fun b hb => ?_, q⟩
  have up : s1.heap.objs.size ≤ b := by
    rcases (show b = s1.heap.objs.size + 1 ∨ b = s1.heap.objs.size by simpa using hb) with z | z
    · rw [z]; exact Nat.le_add_right _ _
    · rw [z]; exact Nat.le_refl _
  exact I1.fpOk up (I1.hok.fresh up)
theorem for_enumT {K : PySem.W.Frag} {a : Addr} {xs : List V} {g : TG} {tb : TS} {D : Ends} {σ : L2.St} {H : Hp} (Pv : Nat → L2.St → Hp → Prop) (h0 : Pv 0 σ H) (hl : ∀ i σ H, i ≤ xs.length → Pv i σ H → SqT K H a xs)
    (turn : ∀ i x T σ H, xs[i]? = some x → Pv i σ H → H T = none → g (.ref T) σ (upd H T (.tup [.int (i : Nat), x])) fun σ2 H2 => tb { D with nx := Pv (i + 1), ct := Pv (i + 1), bk := D.nx } σ2 H2) (hd : ∀ σ H, Pv xs.length σ H → D.nx σ H) :
    ∃ W : Nat → Nat → L2.St → Hp → Prop, (∃ m, W 0 m σ H) ∧ ∀ i m σ H, W i m σ H →
      ((IteT K a).stop i H ∧ D.nx σ H) ∨ ((IteT K a).go i H ∧ ∃ N : L2.St → Hp → Prop, (∀ σ' H', N σ' H' → ∃ m', m' < m ∧ W (i + 1) m' σ' H') ∧ ∀ x H', (IteT K a).yld i H x H' → g x σ H' fun σ2 H2 => tb { D with nx := N, ct := N, bk := D.nx } σ2 H2) := by
  refine ⟨fun i m σ H => m = xs.length - i ∧ i ≤ xs.length ∧ Pv i σ H, ⟨xs.length, by simp, Nat.zero_le _, h0⟩, ?_⟩
  rintro i m σ H ⟨rfl, hi, p⟩
  have q := hl i σ H hi p
  by_cases lt : i < xs.length
  · refine .inr ⟨⟨xs, xs[i], q, by simp [lt]⟩, Pv (i + 1), fun σ' H' p' => ⟨xs.length - (i + 1), by omega, rfl, lt, p'⟩, ?_⟩
    rintro v H' ⟨T, x, rfl, nT, rfl, hx⟩
    exact turn i x T σ H (hx xs q) p nT
  · have e : i = xs.length := by omega
    subst e
    exact .inl ⟨⟨xs, q, rfl⟩, hd σ H p⟩
/-! ### own special methods of instances -/
def MetOk (P : Program) (w : World) (K : PySem.W.Frag) (mg : Str → Option Value) (base : Heap) (k : Nat) (C : Addr) (m : Str) (ps : List Str) (sp : Sp) : Prop :=
  ∃ (f : Addr) (fd : FuncData), PySem.W.findIn K (.ref C) m = some (some (.ref f)) ∧ PySem.W.isFn K (.ref f) = true ∧ Binds K fd ps [] ∧ FnOk P w K mg base CX0 k f fd ps sp
section
variable {X : Cx} {k : Nat} {C : Addr} {ps : List Str} {sp : Sp}
/-- a def run in another place of the same frames -/
theorem run_at {A : Around} {f : Addr} {fd : FuncData} {pins : List (Addr × Obj)} {σ : L2.St} {H : Hp} {s : Shared} {Q : VK} {us : List Value} {vs : List V} (same : A.frames = X.A.frames) (room : Room k A)
    (F : FnOk X.prog X.w X.K X.mg X.base CX0 k f fd ps sp) (bd : Binds X.K fd ps []) (I : L2.Inv X pins σ H s) (r : Vals vs us) (h : sp vs H Q E0) :
    wpAny (model X.prog X.w) A (call (.ref f) us) (EP X pins σ Q) X.xe s := by
  have len : (us ++ []).length = ps.length := by rw [List.append_nil, ← r.length]; exact F.len _ _ _ _ h
  have b1 := bd s us I.kIn len
  rw [List.append_nil] at b1
  have e := I.env0
  have e1 : Env0 X.prog X.w X.K X.mg X.base A X.stack s H := ⟨same.trans e.frames, e.mod, e.bs, e.bsz, e.funs, e.frf, e.hok, e.bare⟩
  refine wpAny_call (codeAny_mono (F.run A X.stack s H ⟨us, []⟩ us vs Q E0 room e1 b1 r h) ?_)
  intro res s' out
  cases res with
  | error e => exact (pass0 (X := X)) pins σ H s e s' I out
  | ok flow =>
    cases flow with
    | ret u => exact I.after out
    | next => exact out.elim
    | brk => exact out.elim
    | cont => exact out.elim
theorem inst_at {pins : List (Addr × Obj)} {σ : L2.St} {H : Hp} {s : Shared} {a dx : Addr} {fs : List (Str × V)} (I : L2.Inv X pins σ H s) (ha : H a = some (.ins C dx fs)) :
    ∃ od, PySem.W.InstAt s.heap a (PySem.W.instObj C dx) C (some od) := by
  obtain ⟨mA, J, _⟩ := ins_get I.hok ha
  obtain ⟨od, J, _⟩ := J.look
  exact ⟨od, J⟩
/-- len(o) -/
theorem call_lenO (M : MetOk X.prog X.w X.K X.mg X.base k C "__len__" ps sp) (room : Room (k + 1) X.A) :
    CallR X (.builtin "len") (fun xs H Q => ∃ a dx fs, xs = [.ref a] ∧ H a = some (.ins C dx fs) ∧ sp [.ref a] H (fun v H' => ∃ n : Nat, v = .int n ∧ n ≤ sizeLine ∧ Q (.int n) H') E0) := by
  intro pins s σ H xs us Q I r ⟨a, dx, fs, e, ha, h⟩
  subst e
  obtain ⟨u, rfl, ru⟩ := vals1 r
  cases ru
  obtain ⟨od, J⟩ := inst_at I ha
  obtain ⟨m, hF⟩ := I.fr
  obtain ⟨f, fd, hs, hf, hb, Fn⟩ := M
  refine PySem.W.len_K hF I.ok.mod.kin J hs hf (wpAny_mono (run_at (vs := [.ref a]) rfl room.in1 Fn hb I (.cons rfl .nil) h) ?_ fun _ _ z => z)
  rintro v s' ⟨w, H', I', rw, n, rfl, hn, q⟩
  obtain ⟨t, rfl⟩ := rw
  have := sizeLine_eq
  exact ⟨⟨by omega, by omega⟩, .int n, H', I'.tok _, ⟨_, rfl⟩, q⟩
/-- bool(o) -/
theorem call_boolO (M : MetOk X.prog X.w X.K X.mg X.base k C "__bool__" ps sp) (room : Room (k + 2) X.A) :
    CallR X (.type "bool") (fun xs H Q => ∃ a dx fs, xs = [.ref a] ∧ H a = some (.ins C dx fs) ∧ sp [.ref a] H (fun v H' => ∃ b, v = .bl b ∧ Q (.bl b) H') E0) := by
  intro pins s σ H xs us Q I r ⟨a, dx, fs, e, ha, h⟩
  subst e
  obtain ⟨u, rfl, ru⟩ := vals1 r
  cases ru
  obtain ⟨od, J⟩ := inst_at I ha
  obtain ⟨m, hF⟩ := I.fr
  obtain ⟨f, fd, hs, hf, hb, Fn⟩ := M
  have meets : MeetsIn X.prog X.w (Builtin.«bool.__new__» ⟨[.type "bool", .ref a], []⟩) (fun A R s => wpAny (model X.prog X.w) A.in1 (truthy (.ref a)) (fun b s' => R (.ok (.ret (.bool b))) s') (fun e s' => R (.error e) s') s) := by
    refine MeetsIn.of_wp ?_
    intro A R s h
    have f1 := F.conv_sub_bool
    repeat (any_goals (first | with_reducible assumption | (with_reducible refine wpAny_mono h (fun b s' z => ?_) fun _ _ z => z) | wp_step))
    all_goals first | exact ⟨_, rfl, z⟩ | exact z | skip
  refine callType_newIn F.called_bool F.newNe_bool (F.typeCall_bool_1 _) (F.newCall_bool_1 _) (fun obj => F.args_object_init_2 obj _) F.entry_bool_new meets ?_
  refine PySem.W.truthy_K hF I.ok.mod.kin J hs hf (wpAny_mono (run_at (vs := [.ref a]) rfl room.in1.in1 Fn hb I (.cons rfl .nil) h) ?_ fun _ _ z => z)
  rintro v s' ⟨w, H', I', rw, b, rfl, q⟩
  cases rw
  exact ⟨rfl, .bl b, H', I', rfl, q⟩
/-- o == o' of one class -/
theorem op_eqO (M : MetOk X.prog X.w X.K X.mg X.base k C "__eq__" ps sp) (room : Room k X.A) :
    OpR X (compareOp .Eq) (fun x y H Q => ∃ a b dx dy fs gs, x = .ref a ∧ y = .ref b ∧ H a = some (.ins C dx fs) ∧ H b = some (.ins C dy gs) ∧ sp [.ref a, .ref b] H (fun v H' => ∃ c, v = .bl c ∧ Q (.bl c) H') E0) := by
  intro pins s σ H x y v u Q I rx ry ⟨a, b, dx, dy, fs, gs, e1, e2, ha, hb', h⟩
  subst e1 e2
  cases rx
  cases ry
  obtain ⟨od, J⟩ := inst_at I ha
  obtain ⟨od', J'⟩ := inst_at I hb'
  obtain ⟨m, hF⟩ := I.fr
  obtain ⟨f, fd, hs, hf, hb, Fn⟩ := M
  show wpAny (model X.prog X.w) X.A (richCompare .Eq _ _) (EP X pins σ Q) X.xe s
  refine PySem.W.cmp_K (op := .Eq) (tb := .ref C) (by have := room.un; omega) hF I.ok.mod.kin J J'.type (by simp [PySem.W.notFirst]) hs hf (wpAny_mono (run_at (vs := [.ref a, .ref b]) rfl room Fn hb I (.cons rfl (.cons rfl .nil)) h) ?_ fun _ _ z => z)
  rintro v s' ⟨w, H', I', rw, c, rfl, q⟩
  cases rw
  exact ⟨.bl c, H', I', rfl, q⟩
theorem bound_ne {Md : Model} {A : Around} {E : Value → Shared → Prop} {s : Shared} {K : PySem.W.Frag} {x : Addr} {ox : Obj} {od : Option Obj} {ar : List Value} {Q : Option Value → Shared → Prop} (inK : K.In s.heap) (J : PySem.W.InstAt s.heap x ox C od)
    (hn : PySem.W.findIn K (.ref C) "__ne__" = some (some (.builtin "object.__ne__"))) (h : wpAny Md A (call (.builtin "object.__ne__") (.ref x :: ar)) (fun v => Q (some v)) E s) : wpAny Md A (callSpecialIfBound? (.ref x) "__ne__" ar) Q E s := by
  have fin : wpAny Md A (call (.builtin "object.__ne__") ([.ref x] ++ ar) >>= fun v => pure (some v)) Q E s :=
    wpAny_bind (wpAny_mono h (fun v s' z => wpAny_pure z) fun _ _ z => z)
  simp only [callSpecialIfBound?, bindSpecialIfBound?]
  refine wpAny_holding (wpAny_bind (wpAny_bind (wpAny_bind (J.type.here ((PySem.W.looks_findIn inK hn).here (wpAny_bind (wpAny_askSetting (wpAny_ite ?_))))))))
  split
  · exact wpAny_bind (wpAny_of_eq (F.cmp_object.ne.bind _) (wpAny_pure (by exact fin)))
  · exact wpAny_tryCatch (wpAny_bind (wpAny_of_eq (F.cmp_object.ne.bind _) (wpAny_pure (by exact fin))))
set_option maxHeartbeats 4000000 in
/-- o != o' of one class, by its own == -/
theorem op_neO (M : MetOk X.prog X.w X.K X.mg X.base k C "__eq__" ps sp) (hn : PySem.W.findIn X.K (.ref C) "__ne__" = some (some (.builtin "object.__ne__"))) (hm : PySem.W.mroIn X.K C (.type "object") = some true) (room : Room (k + 1) X.A) :
    OpR X (compareOp .NotEq) (fun x y H Q => ∃ a b dx dy fs gs, x = .ref a ∧ y = .ref b ∧ H a = some (.ins C dx fs) ∧ H b = some (.ins C dy gs) ∧ sp [.ref a, .ref b] H (fun v H' => ∃ c, v = .bl c ∧ Q (.bl (!c)) H') E0) := by
  intro pins s σ H x y v u Q I rx ry ⟨a, b, dx, dy, fs, gs, e1, e2, ha, hb', h⟩
  subst e1 e2
  cases rx
  cases ry
  obtain ⟨od, J⟩ := inst_at I ha
  obtain ⟨od', J'⟩ := inst_at I hb'
  obtain ⟨f, fd, hs, hf, hb, Fn⟩ := M
  have inK : X.K.In s.heap := I.kIn
  have un := room.un
  have own : wpAny (model X.prog X.w) X.A.in1 (callSpecialIfBound? (.ref a) "__eq__" [.ref b]) (fun r s' => ∃ c, r = some (.bool c) ∧ EP X pins σ Q (.bool (!c)) s') X.xe s := by
    refine PySem.W.ifBound_K inK J hs hf (wpAny_mono (run_at (vs := [.ref a, .ref b]) rfl room.in1 Fn hb I (.cons rfl (.cons rfl .nil)) h) ?_ fun _ _ z => z)
    rintro v s' ⟨w, H', I', rw, c, rfl, q⟩
    cases rw
    exact ⟨c, rfl, .bl (!c), H', I', rfl, q⟩
  have inner : wpAny (model X.prog X.w) X.A.in1 (Builtin.«object.__ne__» ⟨[.ref a, .ref b], []⟩) (fun r s' => ∃ c, r = .done (.ret (.bool c)) ∧ EP X pins σ Q (.bool c) s') X.xe s := by
    unfold Builtin.«object.__ne__»
    repeat (first
      | with_reducible refine wpAny_cRoomFor (show X.A.in1.units < cLine by show X.A.units + 1 < cLine; omega) ?_
      | (refine wpAny_bind (m := callSpecialIfBound? (.ref a) (Str.ofString "__eq__") [.ref b]) (wpAny_mono own (fun r s' hr => by
          obtain ⟨c, rfl, hq⟩ := hr
          repeat (first | exact ⟨_, rfl, hq⟩ | (refine wpAny_bind (m := truthy (.bool _)) (wpAny_truthy_bool ?_)) | wp_step)) fun _ _ e => e))
      | wp_step)
  have tried : wpAny (model X.prog X.w) X.A (tryCompare (.ref a) "__ne__" (.ref b)) (fun r s' => ∃ c, r = some (.bool c) ∧ EP X pins σ Q (.bool c) s') X.xe s := by
    unfold tryCompare
    refine wpAny_bind (bound_ne inK J hn (wpAny_call (codeAny_call_builtin F.cmp_object.ne.plain F.cmpEntry_ne (PySem.W.check_slot F.cmpKind_ne F.cmpSplit_ne (J.type.andThen (PySem.W.looks_mroIn inK hm)) (F.cmpArgs_ne _ _) (wpAny_mono inner ?_ fun _ _ z => z)))))
    rintro r s' ⟨c, rfl, z⟩
    exact wpAny_pure ⟨c, rfl, z⟩
  show wpAny (model X.prog X.w) X.A (richCompare .NotEq _ _) (EP X pins σ Q) X.xe s
  unfold richCompare
  simp only [oneThing_ref]
  refine wpAny_holding (wpAny_bind (wpAny_cRoomFor (by omega) ?_))
  rw [cmpInfo_NotEq]
  dsimp only
  refine wpAny_bind (J.type.here (wpAny_bind (J'.type.here ?_)))
  rw [show (Value.ref C != Value.ref C) = false by simp]
  simp only [Bool.false_eq_true, if_false]
  refine wpAny_bind (wpAny_pure ?_)
  simp only [Bool.false_eq_true, if_false]
  refine wpAny_bind (wpAny_mono tried ?_ fun _ _ z => z)
  rintro r s' ⟨c, rfl, z⟩
  exact wpAny_pure z
end
/-! ### instances of a class whose __init__ takes *rest -/
open StX
section
variable {P : Program} {w : World} {K : PySem.W.Frag} {mg : Str → Option Value} {base : Heap} {x qual : Str} {st : Stmt} {f : Addr} {fd : FuncData} {N ps : List Str} {pv : Str} {k : Nat} {sp : Sp}
/-- what a body walked gives of a def with *rest -/
def Body (P : Program) (w : World) (K : PySem.W.Frag) (mg : Str → Option Value) (base : Heap) (qual : Str) (st : Stmt) (f : Addr) (N : List Str) (k : Nat) (sp : Sp) : Prop :=
  ∀ (cdv : Value) (A : Around) (fr : List Env) (s : Shared) (H : Hp) (vs : List V) (Q : VK) (E : XK), Room k (A.deeper (envOfC qual (defScope st) s.heap.objs.size f cdv)) → sp vs H Q E →
    ∃ t, PSs (cxOf CX0 P w K mg base N qual (defScope st) f cdv A fr s H E).nox (defBody st) t ∧ t { nx := fun _ H' => Q .non H', rt := Q } (start N vs) H
theorem star_pos (F : Fun K x qual st f fd) (Sc : FnScope N (ps ++ [pv]) (defScope st))
    (hb : ∀ (kV doc pm : Value) (an : Option Addr) (cdv ct : Value) (us rest : List Value), us.length = ps.length → bindArgs (PySem.W.fnOf x qual (defArgs st) (defBody st) (defScope st) .none kV doc pm an cdv ct) ⟨us ++ rest, []⟩ = (newTuple rest >>= fun t => pure (ps.zip us ++ [(pv, t)])))
    (walk : Body P w K mg base qual st f N k sp) :
    FnR P w K mg base CX0 (k + 1) f (fun vs H Q E => ∃ ws rest, vs = ws ++ rest ∧ ws.length = ps.length ∧ rest.length ≤ sizeLine ∧ ∀ p, H p = none → sp (ws ++ [.ref p]) (upd H p (.tup rest)) Q E) := by
  obtain ⟨oc, od, kV, doc, pm, an, cdv, ct, osl, rfl, at_f, code⟩ := F.ex
  refine fn_star at_f code Sc cxUp_none (hb kV doc pm an cdv ct) ?_
  intro A fr s H vs Q E room asks
  obtain ⟨t, h1, h2⟩ := walk cdv A fr s H vs Q E room asks
  exact ⟨t, h1.nox, h2⟩
/-- by two keywords, told the other way round -/
theorem star_kw2 {p0 p1 p2 : Str} (F : Fun K x qual st f fd) (Sc : FnScope N ([p0, p1, p2] ++ [pv]) (defScope st))
    (hb : ∀ (kV doc pm : Value) (an : Option Addr) (cdv ct : Value) (a b c : Value), bindArgs (PySem.W.fnOf x qual (defArgs st) (defBody st) (defScope st) .none kV doc pm an cdv ct) ⟨[a], [(p2, c), (p1, b)]⟩ = (newTuple [] >>= fun t => pure [(p0, a), (p1, b), (p2, c), (pv, t)]))
    (walk : Body P w K mg base qual st f N k sp) {A : Around} {fr : List Env} {s : Shared} {H : Hp} {a b c : V} {ua ub uc : Value} {Q : VK} {E : XK} (room : Room (k + 1) A) (e0 : Env0 P w K mg base A fr s H)
    (ra : L2.RelV a ua) (rb : L2.RelV b ub) (rc : L2.RelV c uc) (h : ∀ p, H p = none → sp [a, b, c, .ref p] (upd H p (.tup [])) Q E) :
    codeAny (model P w) A (.call (.ref f) ⟨[ua], [(p2, uc), (p1, ub)]⟩) (CR CX0 fr P w H s Q E) s := by
  obtain ⟨oc, od, kV, doc, pm, an, cdv, ct, osl, rfl, at_f, code⟩ := F.ex
  have hn : H s.heap.objs.size = none := e0.hok.fresh (Nat.le_refl _)
  refine run_bnd at_f code Sc room e0 (G := fun xs H2 => ∃ p, H p = none ∧ xs = [a, b, c, .ref p] ∧ H2 = upd H p (.tup [])) ?_ ?_
  · intro A' Ex Q' hQ
    rw [hb]
    refine wpAny_bind (wpAny_newTuple (wpAny_pure ?_) (by decide))
    let t0 : Obj := { cls := .type "tuple", data := .seq #[] }
    have new : ObjOk P w (upd H s.heap.objs.size (.tup [])) (s.heap.push t0) s.heap.objs.size (.tup []) := ⟨by decide, [], .nil, ⟨_, Heap.get?_push_size _ rfl, rfl, _, rfl⟩⟩
    have un := un_laid (fs := frs fr) (s := s) (o := t0) (u := .tup []) hn
    exact hQ _ _ [a, b, c, .ref s.heap.objs.size] [ua, ub, uc, .ref s.heap.objs.size] (env0_laid e0 new) un rfl (fun e s' z => z.elim) (.cons ra (.cons rb (.cons rc (.cons rfl .nil)))) rfl ⟨_, hn, rfl, rfl⟩
  · rintro s2 H2 xs ⟨p, hp, rfl, rfl⟩ room'
    obtain ⟨t, h1, h2⟩ := walk cdv A fr s2 _ _ Q E room' (h p hp)
    exact ⟨t, h1.nox, h2⟩
end
section
variable {X : Cx} {k : Nat} {f C : Addr} {sp : Sp} {x : Str} {p pos : Pos} {kws : List Keyword} {tk : TA} {ks : List Str}
/-- C(k = v, ..) -/
theorem pe_makeKw (M : Mk X.K C f)
    (Fn : ∀ (A : Around) (fr : List Env) (s : Shared) (H : Hp) (y : Addr) (ws : List Value) (zs : List V) (Q : VK), Room k A → Env0 X.prog X.w X.K X.mg X.base A fr s H → Vals zs ws → sp (.ref y :: zs) H Q E0 →
      codeAny (model X.prog X.w) A (.call (.ref f) ⟨[.ref y], ks.zip ws⟩) (CR CX0 fr X.prog X.w H s Q E0) s)
    (room : Room (k + 1) X.A) (glob : Gl X x) (at_x : X.mg x = some (.ref C)) (hkw : PK X kws tk) (hall : (backToKw pos (keywordEach kws X.env)).all (·.1.isSome) = true := by rfl)
    (hks : (backToKw pos (keywordEach kws X.env)).filterMap (·.1) = ks := by rfl) (hdb : (x == ("__debug__" : Str)) = false := by decide)
    (hpl : ((backTo pos (starEach [] X.env)).any (·.1) || (backToKw pos (keywordEach kws X.env)).any (·.1.isNone)) = false := by rfl) :
    PE X (.Call (.Name x p) [] kws pos) (fun σ H Q => tk σ H fun zs H2 => ∀ y dy, H2 y = none → H2 dy = none → dy ≠ y →
      sp (.ref y :: zs) (upd (upd H2 dy (.own y)) y (.ins C dy [])) (fun v H3 => v = .non ∧ Q (.ref y) H3) E0) := by
  refine ⟨?_⟩
  intro pins s σ H Q I h
  refine wpAny_Call_Name_kw (ld_glob I glob at_x ?_ hdb)
  refine PySem.W.callWith_KW0 (h₀ := X.base) I.ok.mod.kin M.kp hall (thn (hkw.run pos pins s σ H _ I h) ?_) hpl
  rintro ws s2 ⟨zs, H2, I2, rz, q2⟩
  refine ⟨I2.kIn, ?_⟩
  rw [hks]
  have hq := q2 (s2.heap.objs.size + 1) s2.heap.objs.size (I2.hok.fresh (Nat.le_succ _)) (I2.hok.fresh (Nat.le_refl _)) (Nat.ne_of_lt (Nat.lt_succ_self _))
  have I3 := Inv.made (C := C) I2
  refine wpAny_call (make_map (f := f) I2.kIn M.makes M.init (beq_iff_eq.mp M.fn) (codeAny_mono (Fn _ X.stack _ _ (s2.heap.objs.size + 1) ws zs _ (room.make C [] (ks.zip ws)) (I3.env0.make C [] (ks.zip ws)) rz hq) ?_))
  intro res s' out
  cases res with
  | error e => exact out.elim
  | ok flow =>
    cases flow with
    | ret u =>
      obtain ⟨v, H', I4, rv, ev, q3⟩ := I3.after out
      subst ev
      exact ⟨rv, ⟨V.ref (s2.heap.objs.size + 1), H', I4, rfl, q3⟩⟩
    | next => exact out.elim
    | brk => exact out.elim
    | cont => exact out.elim
end
def outerW : List Str := ["-1", "0", "1", "n-1", "n", "n+1", "n//2-1", "n//2", "n//2+1", "(n+1)//2-1", "(n+1)//2", "(n+1)//2+1"]
def innerW : List Str := ["i-1", "i", "i+1", "n-i-1", "n-i", "n-i+1"]
def isB (z : Str) (i : Bool) : Bool := decide (z ∈ outerW) || (i && decide (z ∈ innerW))
def keysOf (l : List DictEntry) : List Str := l.filterMap fun e => match e.key with | .str x _ => some x | _ => none
theorem keys_find {P : Params} (z : Str) : ∀ l : List DictEntry, PySem.W.KeysLit P l → (l.find? (·.key.isStr z)).isSome = decide (z ∈ keysOf l) ∧ l.any (·.refKey) = false
  | [], _ => ⟨by simp [keysOf], rfl⟩
  | e :: r, h => by
    obtain ⟨⟨x, t, ek, _⟩, hr⟩ := h
    obtain ⟨h1, h2⟩ := keys_find z r hr
    have e1 : keysOf (e :: r) = x :: keysOf r := by simp [keysOf, ek]
    have e2 : e.key.isStr z = decide (z = x) := by
      rw [PySem.W.isStr_of, ek]
      simp only [Value.isStrOf]
      rw [Bool.eq_iff_iff]
      simp
      exact eq_comm
    have e3 : e.refKey = false := by
      unfold DictEntry.refKey
      rw [ek]
    refine ⟨?_, by rw [List.any_cons, e3, h2]; rfl⟩
    rw [List.find?_cons, e1, e2]
    by_cases hz : z = x
    · rw [decide_eq_true hz, hz]
      simp
    · rw [decide_eq_false hz]
      simp only [h1, List.mem_cons, hz, false_or]
theorem nsIn_keys {K : PySem.W.Frag} {d : Addr} {es : Array DictEntry} {n : Nat} {P : Params} (z : Str) (at_ : K.lookup d = some ⟨.type "dict", none, .dict es n, #[]⟩) (lit : PySem.W.KeysLit P es.toList) :
    ∃ r, PySem.W.nsIn K d z = some r ∧ r.isSome = decide (z ∈ keysOf es.toList) := by
  obtain ⟨h1, h2⟩ := keys_find z es.toList lit
  unfold PySem.W.nsIn
  rw [at_]
  dsimp only
  cases e : es.toList.find? (·.key.isStr z) with
  | some en =>
    rw [e] at h1
    exact ⟨_, rfl, h1⟩
  | none =>
    rw [e] at h1
    rw [h2]
    exact ⟨_, rfl, h1⟩
def e0 : List Str := ["-1", "0", "1"]
def e1 : List Str := ["n", "n//2", "(n+1)//2", "i", "n-i"]
def e2 : List Str := ["-1", "", "+1"]
def edge (b : Int) : Str := if b < 3 then e0.getD b.toNat "" else e1.getD (b / 3 - 1).toNat "" ++ e2.getD (b % 3).toNat ""
def row (a b d : Int) : Str := edge a ++ " to " ++ edge b ++ (if d = 1 then (" down" : Str) else "")
def LoopT (z : Str) (i : Bool) : Prop := ∃ a b : Str, (Txt.split z " " = [a, "to", b] ∨ Txt.split z " " = [a, "to", b, "down"]) ∧ isB a i = true ∧ isB b i = true ∧ z.length ≤ 60 ∧ z.cps.toList.all (fun c => decide (c < 16 ^ 8)) = true ∧ PyData.canLay0 (.str z) = true
def okZ (z : Str) (i : Bool) : Bool := (match Txt.split z " " with
  | [a, t, b] => decide (t = "to") && isB a i && isB b i
  | [a, t, b, u] => decide (t = "to") && decide (u = "down") && isB a i && isB b i
  | _ => false) && decide (z.length ≤ 60 ∧ z.cps.toList.all (fun c => decide (c < 16 ^ 8)) = true ∧ PyData.canLay0 (.str z) = true)
theorem okZ_T {z : Str} {i : Bool} (h : okZ z i = true) : LoopT z i := by
  unfold okZ at h
  rw [Bool.and_eq_true] at h
  obtain ⟨h, hl⟩ := h
  split at h
  · rename_i a t b e
    simp only [Bool.and_eq_true, decide_eq_true_eq] at h
    obtain ⟨⟨rfl, h1⟩, h2⟩ := h
    exact ⟨a, b, .inl e, h1, h2, of_decide_eq_true hl⟩
  · rename_i a t b u e
    simp only [Bool.and_eq_true, decide_eq_true_eq] at h
    obtain ⟨⟨⟨rfl, rfl⟩, h1⟩, h2⟩ := h
    exact ⟨a, b, .inr e, h1, h2, of_decide_eq_true hl⟩
  · cases h
def rowsOk (n : Nat) (i : Bool) : Bool := (List.range n).all fun a => (List.range n).all fun b => (List.range 2).all fun d => okZ (row a b d) i
theorem rows12 : rowsOk 12 false = true := by decide +kernel
theorem rows18 : rowsOk 18 true = true := by decide +kernel
theorem row_T {n : Nat} {i : Bool} (h : rowsOk n i = true) {a b d : Int} (a0 : 0 ≤ a) (an : a < n) (b0 : 0 ≤ b) (bn : b < n) (d0 : 0 ≤ d) (d2 : d < 2) : LoopT (row a b d) i := by
  unfold rowsOk at h
  rw [List.all_eq_true] at h
  have h1 := h a.toNat (by rw [List.mem_range]; omega)
  rw [List.all_eq_true] at h1
  have h2 := h1 b.toNat (by rw [List.mem_range]; omega)
  rw [List.all_eq_true] at h2
  have h3 := h2 d.toNat (by rw [List.mem_range]; omega)
  rw [Int.toNat_of_nonneg a0, Int.toNat_of_nonneg b0, Int.toNat_of_nonneg d0] at h3
  exact okZ_T h3
def edgeOk : Bool := (List.range 18).all fun b => decide ((edge b).length ≤ 12)
theorem edge_le {b : Int} (b0 : 0 ≤ b) (b9 : b < 18) : (edge b).length ≤ 12 := by
  have h : edgeOk = true := by decide +kernel
  unfold edgeOk at h
  rw [List.all_eq_true] at h
  have h1 := h b.toNat (by rw [List.mem_range]; omega)
  rw [Int.toNat_of_nonneg b0] at h1
  exact of_decide_eq_true h1
theorem edge_sum {b : Int} (b0 : 0 ≤ b) (b9 : b < 18) : (e1.getD (b / 3 - 1).toNat "").length + (e2.getD (b % 3).toNat "").length ≤ sizeLine := by
  have h : ((List.range 18).all fun b : Nat => decide ((e1.getD ((b : Int) / 3 - 1).toNat "").length + (e2.getD ((b : Int) % 3).toNat "").length ≤ 100)) = true := by decide +kernel
  rw [List.all_eq_true] at h
  have h1 := of_decide_eq_true (h b.toNat (by rw [List.mem_range]; omega))
  rw [Int.toNat_of_nonneg b0] at h1
  have := sizeLine_eq
  omega
/-! ### the law's bag: [a number to mix, digits, how many draws] -/
def Bag (H : Hp) (p : Addr) : Prop := ∃ m d c : Int, H p = some (.lst [.int m, .int d, .int c]) ∧ 0 ≤ m ∧ m < 2147483629 ∧ 0 ≤ d ∧ 0 ≤ c
theorem Bag.same {H H' : Hp} {p : Addr} (e : Same H H') (h : Bag H p) : Bag H' p := by
  obtain ⟨m, d, c, h, r⟩ := h
  exact ⟨m, d, c, e _ _ h, r⟩
theorem Bag.xT {K : PySem.W.Frag} {p : Addr} {H H' : Hp} {a : Addr} {xs : List V} (e : SameX p H H') (b : Bag H p) (h : SqT K H a xs) : SqT K H' a xs := by
  obtain ⟨m, d, c, hp, _⟩ := b
  exact xseqT e hp h
theorem qs {Q : VK} {H : Hp} {x y : Str} (q : Q (.str x) H) (e : y = x) : Q (.str y) H := e ▸ q
theorem at_nat {ns : List Int} {k : Int} (h0 : 0 ≤ k) (h : k < ns.length) : atI (ns.map V.int) k = some (.int (ns.getD k.toNat 0)) := by
  have hk : k.toNat < ns.length := by omega
  have := atI_nat (xs := ns.map V.int) (j := k.toNat) (v := .int (ns.getD k.toNat 0)) (by rw [List.getElem?_map, List.getD_eq_getElem?_getD, List.getElem?_eq_getElem hk]; rfl)
  rwa [Int.toNat_of_nonneg h0] at this
theorem cutV_map (ns : List Int) (lo hi : Option Int) : ∃ ms : List Int, cutV (ns.map V.int) lo hi = ms.map V.int ∧ ms.length ≤ ns.length := by
  unfold cutV
  refine ⟨(ns.drop (HT.sIx (ns.map V.int).length 0 lo)).take (HT.sIx (ns.map V.int).length (ns.map V.int).length hi - HT.sIx (ns.map V.int).length 0 lo), ?_, ?_⟩
  · rw [List.map_take, List.map_drop]
  · rw [List.length_take, List.length_drop]
    omega
theorem atStr {l : List Str} {k : Int} (h0 : 0 ≤ k) (h : k < l.length) : atI (l.map V.str) k = some (.str (l.getD k.toNat "")) := by
  have hk : k.toNat < l.length := by omega
  have := atI_nat (xs := l.map V.str) (j := k.toNat) (v := .str (l.getD k.toNat "")) (by rw [List.getElem?_map, List.getD_eq_getElem?_getD, List.getElem?_eq_getElem hk]; rfl)
  rwa [Int.toNat_of_nonneg h0] at this
theorem str_le {x y : Str} (h : x.length + y.length ≤ 1000) : x.length + y.length ≤ sizeLine := by
  have := sizeLine_eq
  omega
structure Blt (mg : Str → Option Value) : Prop where
  len : mg "len" = none
  isinstance : mg "isinstance" = none
  abs : mg "abs" = none
  min : mg "min" = none
  max : mg "max" = none
  all : mg "all" = none
  divmod : mg "divmod" = none
  repr : mg "repr" = none
  int : mg "int" = none
  bool : mg "bool" = none
  set : mg "set" = none
  str : mg "str" = none
  range : mg "range" = none
  enumerate : mg "enumerate" = none
structure Glb (w : World) (K : PySem.W.Frag) (mg : Str → Option Value) : Prop where
  OUTER : ∃ d es n, mg "OUTER" = some (.ref d) ∧ KDict K w d es n ∧ keysOf es.toList = outerW
  INNER : ∃ d es n, mg "INNER" = some (.ref d) ∧ KDict K w d es n ∧ keysOf es.toList = innerW
def topS (i : Nat) : Stmt := PySem.Challenge.pw_squareloops_k02_loops_of_nests.main.body.getD i (.Pass ⟨0, 0, 0, 0⟩)
abbrev s_is_bound : Stmt := topS 3
abbrev s_is_loop : Stmt := topS 4
abbrev s_is_guard : Stmt := topS 13
abbrev s_parsed_deed : Stmt := topS 14
abbrev s_law_number : Stmt := topS 22
abbrev s_law_bag : Stmt := topS 23
abbrev s_law_take : Stmt := topS 24
abbrev s_law_edge_row : Stmt := topS 25
abbrev s_law_walk_row : Stmt := topS 26
abbrev s_law_taken : Stmt := topS 27
abbrev s_law_any_right : Stmt := topS 28
abbrev s_law : Stmt := topS 29
section
variable {P : Program} {w : World} {K : PySem.W.Frag} {mg : Str → Option Value} {base : Heap}
theorem sc_is_bound : FnScope ["word", "inner"] ["word", "inner"] (defScope s_is_bound) := ⟨rfl, rfl, rfl, by decide +kernel, rfl, by decide +kernel, by decide +kernel⟩
abbrev sc_is_boundN : List Str := ["word", "inner"]
def sp_is_bound : Sp := fun vs H Q _ => ∃ z i, vs = [.str z, .bl i] ∧ Q (.bl (isB z i)) H
theorem ok_is_bound (B : Blt mg) (G : Glb w K mg) (D : DefAt K mg "is_bound" s_is_bound ["word", "inner"]) : DefOk P w K mg base 1 "is_bound" ["word", "inner"] sp_is_bound := by
  refine def_ok D sc_is_bound (fun vs H Q E h => ?_) (fun f cdv A outer s H vs Q E hr h => ?_)
  · obtain ⟨_, _, rfl, _⟩ := h
    rfl
  · obtain ⟨z, i, rfl, q⟩ := h
    obtain ⟨dO, eO, nO, gO, DO, kO⟩ := G.OUTER
    obtain ⟨dI, eI, nI, gI, DI, kI⟩ := G.INNER
    obtain ⟨rO, hO, iO⟩ := nsIn_keys z DO.at_ DO.lit
    obtain ⟨rI, hI, iI⟩ := nsIn_keys z DI.at_ DI.lit
    rw [kO] at iO
    rw [kI] at iI
    refine ⟨_, (pss_one (ps_ret (pe_or (pe_cmpR (op_in_kd DO) (pv 0) (pe_glob (v := .ref dO) (by rfl) gO rfl) (by rfl)) (pe_one (pe_and (pv 1) (pe_one (pe_cmpR (op_in_kd DI) (pv 0) (pe_glob (v := .ref dI) (by rfl) gI rfl) (by rfl)))))))), ?_⟩
    refine ⟨_, rfl, _, _, rfl, rfl, hO, _, rfl, ?_⟩
    rw [iO]
    refine ite2 (fun e => ?_) (fun e => ?_)
    · exact qb q (by unfold isB; rw [e]; rfl)
    · refine ⟨_, rfl, _, rfl, ?_⟩
      have e : decide (z ∈ outerW) = false := by simpa using e
      cases i with
      | false => exact qb q (by unfold isB; rw [e]; rfl)
      | true =>
        refine ⟨_, rfl, _, _, rfl, rfl, hI, ?_⟩
        rw [iI]
        exact qb q (by unfold isB; rw [e]; rfl)

theorem sc_is_loop : FnScope ["value", "inner", "words"] ["value", "inner"] (defScope s_is_loop) := ⟨rfl, rfl, rfl, by decide +kernel, rfl, by decide +kernel, by decide +kernel⟩
abbrev sc_is_loopN : List Str := ["value", "inner", "words"]
def sp_is_loop : Sp := fun vs H Q _ => ∃ z i, vs = [.str z, .bl i] ∧ LoopT z i ∧ ∀ H', Same H H' → Q (.bl true) H'
theorem ok_is_loop (B : Blt mg) (G : Glb w K mg) (D : DefAt K mg "is_loop" s_is_loop ["value", "inner"]) (d_is_bound : DefOk P w K mg base 1 "is_bound" ["word", "inner"] sp_is_bound) : DefOk P w K mg base 2 "is_loop" ["value", "inner"] sp_is_loop := by
  refine def_ok D sc_is_loop (fun vs H Q E h => ?_) (fun f cdv A outer s H vs Q E hr h => ?_)
  · obtain ⟨_, _, rfl, _⟩ := h
    rfl
  · obtain ⟨z, i, rfl, ⟨a, b, hW, h1, h2, hz, _, _⟩, q⟩ := h
    refine ⟨_, (pss_cons (ps_if (pt_not (pt_val (pe_callB call_isi (by rfl) B.isinstance bt_isinstance (pa_cons (pv 0) (pa_cons (pe_bltn (v := .ty "str") (by rfl) B.str bt_str rfl) pa_nil))))) (pss_one (ps_ret pe_bl)) pss_nil)
      (pss_cons (ps_set (i := 2) sc_is_loop.nd rfl (.inl rfl) (pe_bm PySem.F.plainAttrs_str PySem.F.slot_str_split PySem.F.type_str_split mt_split (pv 0) (pa_cons pe_str pa_nil)))
      (pss_cons (ps_if (PW.pt (pw_and (pt_cmpR op_eq (pe_callB call_len_seq (by rfl) B.len bt_len (pa_cons (pv 2) pa_nil)) pe_int (nomark _)) (pw_and1 (pt_cmpR op_eq (pe_ix ix_list (pv 2) pe_int (fun _ _ => rfl)) pe_str (nomark _))))) (pss_one (ps_set (i := 2) sc_is_loop.nd rfl (.inl rfl) (pe_slice sl_list (pv 2) po_none (po_some pe_int)))) pss_nil)
      (pss_cons (ps_if (PW.pt (pw_or (pt_cmpR op_ne (pe_callB call_len_seq (by rfl) B.len bt_len (pa_cons (pv 2) pa_nil)) pe_int (nomark _)) (pw_or1 (pt_cmpR op_ne (pe_ix ix_list (pv 2) pe_int (fun _ _ => rfl)) pe_str (nomark _))))) (pss_one (ps_ret pe_bl)) pss_nil)
      (pss_one (ps_ret (pe_and (pe_callD d_is_bound (hr.mono (by decide)) (by rfl) (pa_cons (pe_ix ix_list (pv 2) pe_int (fun _ _ => rfl)) (pa_cons (pv 1) pa_nil))) (pe_one (pe_callD d_is_bound (hr.mono (by decide)) (by rfl) (pa_cons (pe_ix ix_list (pv 2) pe_int (fun _ _ => rfl)) (pa_cons (pv 1) pa_nil))))))))))), ?_⟩
    refine ⟨_, rfl, _, _, _, _, _, rfl, .ty _, .base (.str _), kit_ty (r := true) (by decide +kernel), _, rfl, ?_⟩
    refine iteF' rfl ?_
    refine ⟨_, rfl, rfl, _, _, rfl, rfl, rfl, (by have := sizeLine_eq; omega), fun l nl => ?_⟩
    rcases hW with hW | hW
    · rw [hW]
      refine ⟨_, rfl, _, _, rfl, .inl SqL.new, rfl, _, rfl, ?_⟩
      refine iteF' rfl ?_
      refine iteF' rfl ?_
      refine ⟨_, rfl, _, _, rfl, .inl SqL.new, rfl, _, rfl, ?_⟩
      refine iteF' rfl ?_
      refine ⟨_, rfl, _, _, _, _, rfl, rfl, SqL.new, rfl, rfl, _, rfl, ?_⟩
      refine iteF' rfl ?_
      refine ⟨_, rfl, _, _, _, _, rfl, rfl, SqL.new, rfl, _, rfl, _, _, rfl, _, rfl, ?_⟩
      refine iteT' h1 ?_
      refine ⟨_, rfl, _, _, _, _, rfl, rfl, SqL.new, rfl, _, rfl, _, _, rfl, ?_⟩
      exact qb (q _ (same_upd nl)) h2
    · rw [hW]
      refine ⟨_, rfl, _, _, rfl, .inl SqL.new, rfl, _, rfl, ?_⟩
      refine iteT' rfl ?_
      refine ⟨_, rfl, _, _, _, _, rfl, rfl, SqL.new, rfl, rfl, _, rfl, ?_⟩
      refine iteT' rfl ?_
      refine ⟨_, rfl, _, rfl, _, _, rfl, SqL.new, fun l2 nl2 => ?_⟩
      have cut : cutV ([a, ("to" : Str), b, ("down" : Str)].map V.str) none (some 3) = [V.str a, V.str "to", V.str b] := rfl
      rw [cut]
      refine ⟨_, rfl, _, _, rfl, .inl SqL.new, rfl, _, rfl, ?_⟩
      refine iteF' rfl ?_
      refine ⟨_, rfl, _, _, _, _, rfl, rfl, SqL.new, rfl, rfl, _, rfl, ?_⟩
      refine iteF' rfl ?_
      refine ⟨_, rfl, _, _, _, _, rfl, rfl, SqL.new, rfl, _, rfl, _, _, rfl, _, rfl, ?_⟩
      refine iteT' h1 ?_
      refine ⟨_, rfl, _, _, _, _, rfl, rfl, SqL.new, rfl, _, rfl, _, _, rfl, ?_⟩
      exact qb (q _ ((same_upd nl).trans (same_upd nl2))) h2
end
/-! ### the class Nest -/
theorem hu64 {A : Around} {k : Nat} (hr : Room k A) : A.units + 64 < cLine := by
  have := hr.un
  omega
def nf (o i : Str) (t p : Addr) : List (Str × V) := [("over", .str o), ("below", .str i), ("texts", .ref t), ("parsed", .ref p)]
theorem nf_put (o i : Str) (t p : Addr) : putF "parsed" (.ref p) (putF "texts" (.ref t) (putF "below" (.str i) (putF "over" (.str o) []))) = nf o i t p := by
  have a1 : ¬ (("over" : Str) = "below") := by decide +kernel
  have a2 : ¬ (("over" : Str) = "texts") := by decide +kernel
  have a3 : ¬ (("below" : Str) = "texts") := by decide +kernel
  have a4 : ¬ (("over" : Str) = "parsed") := by decide +kernel
  have a5 : ¬ (("below" : Str) = "parsed") := by decide +kernel
  have a6 : ¬ (("texts" : Str) = "parsed") := by decide +kernel
  simp only [putF, if_neg a1, if_neg a2, if_neg a3, if_neg a4, if_neg a5, if_neg a6, nf]
theorem nf_over (o i : Str) (t p : Addr) : (nf o i t p).lookup ("over" : Str) = some (.str o) := by
  rw [← nf_put, lookup_putF, if_neg (by decide +kernel), lookup_putF, if_neg (by decide +kernel), lookup_putF, if_neg (by decide +kernel), lookup_putF, if_pos rfl]
theorem nf_below (o i : Str) (t p : Addr) : (nf o i t p).lookup ("below" : Str) = some (.str i) := by
  rw [← nf_put, lookup_putF, if_neg (by decide +kernel), lookup_putF, if_neg (by decide +kernel), lookup_putF, if_pos rfl]
theorem nf_texts (o i : Str) (t p : Addr) : (nf o i t p).lookup ("texts" : Str) = some (.ref t) := by
  rw [← nf_put, lookup_putF, if_neg (by decide +kernel), lookup_putF, if_pos rfl]
structure NestC (K : PySem.W.Frag) (mg : Str → Option Value) (C : Addr) : Prop where
  gl : mg "Nest" = some (.ref C)
  ic : C8.InsC K C
  nO : NoAttr K C "over"
  nB : NoAttr K C "below"
  nT : NoAttr K C "texts"
  nP : NoAttr K C "parsed"
abbrev sNest (j : Nat) : Stmt := inClass (topS 20) j
/-- a nest that stands at a -/
def NestAt (K : PySem.W.Frag) (C : Addr) (H : Hp) (a : Addr) (o i : Str) (ds : List Str) : Prop := ∃ dx t p, H a = some (.ins C dx (nf o i t p)) ∧ SqT K H t (ds.map V.str)
theorem NestAt.same {K : PySem.W.Frag} {C : Addr} {H H' : Hp} {a : Addr} {o i : Str} {ds : List Str} (e : Same H H') (h : NestAt K C H a o i ds) : NestAt K C H' a o i ds := by
  obtain ⟨dx, t, p, h1, h2⟩ := h
  exact ⟨dx, t, p, e _ _ h1, seqT e h2⟩
theorem xsT {K : PySem.W.Frag} {p : Addr} {H H' : Hp} {a : Addr} {xs : List V} (e : SameX p H H') (n : a ≠ p) (h : SqT K H a xs) : SqT K H' a xs := by
  rcases h with (h | ⟨o, h⟩) | h
  · exact .inl (.inl (e _ _ n h))
  · exact .inl (.inr ⟨o, e _ _ n h⟩)
  · exact .inr h
section
variable {P : Program} {w : World} {K : PySem.W.Frag} {mg : Str → Option Value} {base : Heap} {C : Addr}
def sp_nest0 (K : PySem.W.Frag) (C : Addr) : Sp := fun vs H Q _ => ∃ a dx o i t, vs = [.ref a, .str o, .str i, .ref t] ∧ H a = some (.ins C dx []) ∧ SqT K H t [] ∧ LoopT o false ∧ LoopT i true ∧
  ∀ H' p, SameX a H H' → H' a = some (.ins C dx (nf o i t p)) → Q .non H'
abbrev nestN : List Str := ["self", "outer", "inner", "deeds", "parsed", "index", "deed", "known"]
theorem sc_nest : FnScope nestN ["self", "outer", "inner", "deeds"] (defScope (sNest 0)) := ⟨rfl, rfl, rfl, by decide +kernel, rfl, by decide +kernel, by decide +kernel⟩
theorem body_nest0 {f : Addr} (B : Blt mg) (T : NestC K mg C) (d_is_loop : DefOk P w K mg base 2 "is_loop" ["value", "inner"] sp_is_loop) :
    Body P w K mg base "Nest.__init__" (sNest 0) f nestN 2 (sp_nest0 K C) := by
  intro cdv A fr s H vs Q E hr h
  obtain ⟨a, dx, o, i, t, rfl, ha, hT, lo, li, q⟩ := h
  refine ⟨_, (pss_cons (ps_if (pt_not (pt_val (pe_callD d_is_loop (hr.mono (by decide)) (by rfl) (pa_cons (pv 1) (pa_cons pe_bl pa_nil))))) (pss_one ps_never) pss_nil)
    (pss_cons (ps_if (pt_not (pt_val (pe_callD d_is_loop (hr.mono (by decide)) (by rfl) (pa_cons (pv 2) (pa_cons pe_bl pa_nil))))) (pss_one ps_never) pss_nil)
    (pss_cons (ps_set (i := 4) sc_nest.nd rfl (.inl rfl) (pe_lst pa_nil))
    (pss_cons (ps_for PassesOwn.never rfl (pi_enumT (by rfl) B.enumerate (pa_cons (pv 3) pa_nil)) (pg_tup rfl (pgs_cons (pg_name (i := 5) sc_nest.nd rfl (.inl rfl)) (pgs_cons (pg_name (i := 6) sc_nest.nd rfl (.inl rfl)) pgs_nil))) pss_never)
    (pss_cons (ps_fld (pv 0) (pv 1) rfl) (pss_cons (ps_fld (pv 0) (pv 2) rfl) (pss_cons (ps_fld (pv 0) (pv 3) rfl) (pss_one (ps_fld (pv 0) (pv 4) rfl))))))))), ?_⟩
  refine ⟨_, rfl, _, _, rfl, lo, fun H1 S1 => ?_⟩
  refine ⟨_, rfl, ?_⟩
  refine iteF' rfl ?_
  refine ⟨_, rfl, _, _, rfl, li, fun H2 S2 => ?_⟩
  refine ⟨_, rfl, ?_⟩
  refine iteF' rfl ?_
  refine ⟨Nat.zero_le _, fun l nl => ?_⟩
  have S3 : Same H (upd H2 l (.lst [])) := (S1.trans S2).trans (same_upd nl)
  have ha3 : upd H2 l (.lst []) a = some (.ins C dx []) := S3 _ _ ha
  refine ⟨_, rfl, t, [], rfl, seqT S3 hT, for_enumT (xs := []) (fun _ σ' H' => σ' = [some (.ref a), some (.str o), some (.str i), some (.ref t), some (.ref l), none, none, none] ∧ H' = upd H2 l (.lst [])) ⟨rfl, rfl⟩ ?_ ?_ ?_⟩
  · rintro _ _ _ _ ⟨_, rfl⟩
    exact seqT S3 hT
  · intro _ _ _ _ _ z
    cases z
  · rintro _ _ ⟨rfl, rfl⟩
    refine ⟨_, rfl, _, rfl, a, C, dx, _, rfl, ha3, T.ic.cl, T.nO, (by show 0 < 1000; decide), ?_⟩
    refine ⟨_, rfl, _, rfl, a, C, dx, _, rfl, upd_same, T.ic.cl, T.nB, (by show 1 < 1000; decide), ?_⟩
    refine ⟨_, rfl, _, rfl, a, C, dx, _, rfl, upd_same, T.ic.cl, T.nT, (by rw [show putF ("below" : Str) (V.str i) (putF ("over" : Str) (V.str o) []) = ([("over", V.str o), ("below", V.str i)] : List (Str × V)) from by simp only [putF, if_neg (show ¬ (("over" : Str) = "below") by decide +kernel)]]; show 2 < 1000; decide), ?_⟩
    refine ⟨_, rfl, _, rfl, a, C, dx, _, rfl, upd_same, T.ic.cl, T.nP, ?_, ?_⟩
    · rw [show putF ("texts" : Str) (V.ref t) (putF ("below" : Str) (V.str i) (putF ("over" : Str) (V.str o) [])) = ([("over", V.str o), ("below", V.str i), ("texts", V.ref t)] : List (Str × V)) from by simp only [putF, if_neg (show ¬ (("over" : Str) = "below") by decide +kernel), if_neg (show ¬ (("over" : Str) = "texts") by decide +kernel), if_neg (show ¬ (("below" : Str) = "texts") by decide +kernel)]]
      show 3 < 1000
      decide
    · rw [nf_put]
      exact q _ l ((((SameX.of S3).trans SameX.upd).trans SameX.upd).trans (SameX.upd.trans SameX.upd)) upd_same
theorem sc_ng1 : FnScope ["self"] ["self"] (defScope (sNest 1)) := ⟨rfl, rfl, rfl, by decide +kernel, rfl, by decide +kernel, by decide +kernel⟩
theorem sc_ng2 : FnScope ["self"] ["self"] (defScope (sNest 2)) := ⟨rfl, rfl, rfl, by decide +kernel, rfl, by decide +kernel, by decide +kernel⟩
theorem sc_ng3 : FnScope ["self"] ["self"] (defScope (sNest 3)) := ⟨rfl, rfl, rfl, by decide +kernel, rfl, by decide +kernel, by decide +kernel⟩
theorem sc_ng4 : FnScope ["self"] ["self"] (defScope (sNest 4)) := ⟨rfl, rfl, rfl, by decide +kernel, rfl, by decide +kernel, by decide +kernel⟩
theorem sc_ng5 : FnScope ["self"] ["self"] (defScope (sNest 5)) := ⟨rfl, rfl, rfl, by decide +kernel, rfl, by decide +kernel, by decide +kernel⟩
theorem sc_ng6 : FnScope ["self", "other"] ["self", "other"] (defScope (sNest 6)) := ⟨rfl, rfl, rfl, by decide +kernel, rfl, by decide +kernel, by decide +kernel⟩
theorem ok_nouter {f : Addr} {fd : FuncData} (T : NestC K mg C) (F : Fun K "outer" "Nest.outer" (sNest 1) f fd) : FnOk P w K mg base CX0 1 f fd ["self"] (getSp C "over") := by
  refine F.ok sc_ng1 (fun vs H Q E h => ?_) (fun cdv A outer s H vs Q E hr h => ?_)
  · obtain ⟨a, dx, fs, v, rfl, _⟩ := h
    rfl
  · obtain ⟨a, dx, fs, v, rfl, ea, l, q⟩ := h
    refine ⟨_, pss_one (ps_ret (pe_fld (pv 0) rfl)), ?_⟩
    exact ⟨.ref a, rfl, a, C, dx, fs, v, rfl, ea, T.ic.cl, T.nO, l, q⟩
theorem ok_ninner {f : Addr} {fd : FuncData} (T : NestC K mg C) (F : Fun K "inner" "Nest.inner" (sNest 2) f fd) : FnOk P w K mg base CX0 1 f fd ["self"] (getSp C "below") := by
  refine F.ok sc_ng2 (fun vs H Q E h => ?_) (fun cdv A outer s H vs Q E hr h => ?_)
  · obtain ⟨a, dx, fs, v, rfl, _⟩ := h
    rfl
  · obtain ⟨a, dx, fs, v, rfl, ea, l, q⟩ := h
    refine ⟨_, pss_one (ps_ret (pe_fld (pv 0) rfl)), ?_⟩
    exact ⟨.ref a, rfl, a, C, dx, fs, v, rfl, ea, T.ic.cl, T.nB, l, q⟩
theorem ok_ndeeds {f : Addr} {fd : FuncData} (T : NestC K mg C) (F : Fun K "deeds" "Nest.deeds" (sNest 3) f fd) : FnOk P w K mg base CX0 1 f fd ["self"] (getSp C "texts") := by
  refine F.ok sc_ng3 (fun vs H Q E h => ?_) (fun cdv A outer s H vs Q E hr h => ?_)
  · obtain ⟨a, dx, fs, v, rfl, _⟩ := h
    rfl
  · obtain ⟨a, dx, fs, v, rfl, ea, l, q⟩ := h
    refine ⟨_, pss_one (ps_ret (pe_fld (pv 0) rfl)), ?_⟩
    exact ⟨.ref a, rfl, a, C, dx, fs, v, rfl, ea, T.ic.cl, T.nT, l, q⟩
def sp_nlen (K : PySem.W.Frag) (C : Addr) : Sp := fun vs H Q _ => ∃ a o i ds, vs = [.ref a] ∧ NestAt K C H a o i ds ∧ Q (.int ds.length) H
theorem ok_nlen {f : Addr} {fd : FuncData} (B : Blt mg) (T : NestC K mg C) (F : Fun K "__len__" "Nest.__len__" (sNest 4) f fd) : FnOk P w K mg base CX0 1 f fd ["self"] (sp_nlen K C) := by
  refine F.ok sc_ng4 (fun vs H Q E h => ?_) (fun cdv A outer s H vs Q E hr h => ?_)
  · obtain ⟨a, o, i, ds, rfl, _⟩ := h
    rfl
  · obtain ⟨a, o, i, ds, rfl, ⟨dx, t, p, ha, hT⟩, q⟩ := h
    refine ⟨_, pss_one (ps_ret (pe_callB call_len_seq (by rfl) B.len bt_len (pa_cons (pe_fld (pv 0) rfl) pa_nil))), ?_⟩
    refine ⟨.ref a, rfl, a, C, dx, _, _, rfl, ha, T.ic.cl, T.nT, nf_texts _ _ _ _, t, _, rfl, .inr hT, ?_⟩
    rw [List.length_map]
    exact q
def sp_nbool : Sp := fun vs H Q _ => ∃ a, vs = [.ref a] ∧ Q (.bl true) H
theorem ok_nbool {f : Addr} {fd : FuncData} (F : Fun K "__bool__" "Nest.__bool__" (sNest 5) f fd) : FnOk P w K mg base CX0 1 f fd ["self"] sp_nbool := by
  refine F.ok sc_ng5 (fun vs H Q E h => ?_) (fun cdv A outer s H vs Q E hr h => ?_)
  · obtain ⟨a, rfl, _⟩ := h
    rfl
  · obtain ⟨a, rfl, q⟩ := h
    refine ⟨_, pss_one (ps_ret pe_bl), ?_⟩
    exact q
theorem dpAll_strs {H : Hp} : ∀ ds : List Str, DpAll K H (ds.map V.str) (ds.map PyData.str)
  | [] => .nil
  | d :: ds => .cons (.str d) (dpAll_strs ds)
def sp_neq (K : PySem.W.Frag) (C : Addr) : Sp := fun vs H Q _ => ∃ a b o i ds, vs = [.ref a, .ref b] ∧ NestAt K C H a o i ds ∧ NestAt K C H b o i ds ∧ SeqAt.shaped (.tuple (ds.map .str)) = true ∧ Q (.bl true) H
theorem ok_neq {f : Addr} {fd : FuncData} (B : Blt mg) (T : NestC K mg C) (F : Fun K "__eq__" "Nest.__eq__" (sNest 6) f fd) : FnOk P w K mg base CX0 1 f fd ["self", "other"] (sp_neq K C) := by
  refine F.ok sc_ng6 (fun vs H Q E h => ?_) (fun cdv A outer s H vs Q E hr h => ?_)
  · obtain ⟨a, b, o, i, ds, rfl, _⟩ := h
    rfl
  · obtain ⟨a, b, o, i, ds, rfl, ⟨dx, t, p, ha, hT⟩, ⟨dy, t', p', hb, hT'⟩, sh, q⟩ := h
    refine ⟨_, pss_cons (ps_if (pt_not (pt_val (pe_callB (C8.call_isC T.ic) (by rfl) B.isinstance bt_isinstance (pa_cons (pv 1) (pa_cons (pe_glob (v := .ref C) (by rfl) T.gl rfl) pa_nil))))) (pss_one (ps_ret pe_bl)) pss_nil)
      (pss_one (ps_ret (pe_and (pe_cmpR op_eq (pe_fld (pv 0) rfl) (pe_fld (pv 1) rfl) (nomark _)) (pe_and (pe_cmpR op_eq (pe_fld (pv 0) rfl) (pe_fld (pv 1) rfl) (nomark _)) (pe_one (pe_cmpR (op_eqD (hu64 hr)) (pe_fld (pv 0) rfl) (pe_fld (pv 1) rfl) (nomark _))))))), ?_⟩
    refine ⟨_, rfl, b, dy, _, rfl, hb, _, rfl, ?_⟩
    refine iteF' rfl ?_
    refine ⟨.ref a, rfl, a, C, dx, _, _, rfl, ha, T.ic.cl, T.nO, nf_over _ _ _ _, .ref b, rfl, b, C, dy, _, _, rfl, hb, T.ic.cl, T.nO, nf_over _ _ _ _, rfl, _, rfl, ?_⟩
    refine iteT' (decide_eq_true rfl) ?_
    refine ⟨.ref a, rfl, a, C, dx, _, _, rfl, ha, T.ic.cl, T.nB, nf_below _ _ _ _, .ref b, rfl, b, C, dy, _, _, rfl, hb, T.ic.cl, T.nB, nf_below _ _ _ _, rfl, _, rfl, ?_⟩
    refine iteT' (decide_eq_true rfl) ?_
    refine ⟨.ref a, rfl, a, C, dx, _, _, rfl, ha, T.ic.cl, T.nT, nf_texts _ _ _ _, .ref b, rfl, b, C, dy, _, _, rfl, hb, T.ic.cl, T.nT, nf_texts _ _ _ _, _, _, .tup hT (dpAll_strs ds), .tup hT' (dpAll_strs ds), sh, sh, ?_⟩
    rw [SeqAt.eqv_refl _ (SeqAt.canLay_of_shaped sh)]
    exact q
theorem defG_ok {x : Str} {st : Stmt} {N ps : List Str} {k : Nat} {sp : Sp} (D : DefAt K mg x st ps) (S : FnScope N ps (defScope st)) (len : ∀ vs H Q E, sp vs H Q E → vs.length = ps.length)
    (hbody : ∀ (f : Addr) (cdv : Value) (A : Around) (outer : List Env) (s : Shared) (H : Hp) (vs : List V) (Q : VK) (E : XK), (A.deeper (envOfC x (defScope st) s.heap.objs.size f cdv)).guards = some [] → Room k (A.deeper (envOfC x (defScope st) s.heap.objs.size f cdv)) → sp vs H Q E →
      ∃ t, PSs (cxOf CX0 P w K mg base N x (defScope st) f cdv A outer s H E).nox (defBody st) t ∧ t { nx := fun _ H' => Q .non H', rt := Q } (start N vs) H) : DefG P w K mg base (k + 1) x ps sp := by
  obtain ⟨f, fd, F, b, g⟩ := D
  exact ⟨f, fd, F.kp, b, g, fnG_ok F S len (hbody f)⟩
def spStar0 (K : PySem.W.Frag) (C : Addr) : Sp := fun vs H Q E => ∃ ws rest, vs = ws ++ rest ∧ ws.length = 3 ∧ rest.length ≤ sizeLine ∧ ∀ p, H p = none → sp_nest0 K C (ws ++ [.ref p]) (upd H p (.tup rest)) Q E
def spKw0 (K : PySem.W.Frag) (C : Addr) : Sp := fun vs H Q E => ∃ y i o, vs = [y, i, o] ∧ ∀ p, H p = none → sp_nest0 K C [y, o, i, .ref p] (upd H p (.tup [])) Q E
/-- what may be done with nests without deeds -/
structure NestOk (P : Program) (w : World) (K : PySem.W.Frag) (mg : Str → Option Value) (base : Heap) (C : Addr) : Prop where
  T : NestC K mg C
  made : ∃ f, Mk K C f ∧ FnR P w K mg base CX0 3 f (spStar0 K C) ∧ ∀ (A : Around) (fr : List Env) (s : Shared) (H : Hp) (y : Addr) (ws : List Value) (zs : List V) (Q : VK), Room 3 A → Env0 P w K mg base A fr s H → Vals zs ws → spKw0 K C (.ref y :: zs) H Q E0 →
      codeAny (model P w) A (.call (.ref f) ⟨[.ref y], [("inner" : Str), "outer"].zip ws⟩) (CR CX0 fr P w H s Q E0) s
  outer : ∃ p g fd, PropOf K C "outer" p g ∧ FnOk P w K mg base CX0 1 g fd ["self"] (getSp C "over") ∧ Binds K fd ["self"] []
  inner : ∃ p g fd, PropOf K C "inner" p g ∧ FnOk P w K mg base CX0 1 g fd ["self"] (getSp C "below") ∧ Binds K fd ["self"] []
  deeds : ∃ p g fd, PropOf K C "deeds" p g ∧ FnOk P w K mg base CX0 1 g fd ["self"] (getSp C "texts") ∧ Binds K fd ["self"] []
  len : MetOk P w K mg base 1 C "__len__" ["self"] (sp_nlen K C)
  bool : MetOk P w K mg base 1 C "__bool__" ["self"] sp_nbool
  eq : MetOk P w K mg base 1 C "__eq__" ["self", "other"] (sp_neq K C)
  ne : PySem.W.findIn K (.ref C) "__ne__" = some (some (.builtin "object.__ne__"))
theorem nest_made {H H' : Hp} {x dx t q : Addr} {o i : Str} (nx : H x = none) (nd : H dx = none) (np : (upd (upd H dx (.own x)) x (.ins C dx [])) t = none)
    (e : SameX x (upd (upd (upd H dx (.own x)) x (.ins C dx [])) t (.tup [])) H') (h : H' x = some (.ins C dx (nf o i t q))) : Same H H' ∧ NestAt K C H' x o i [] := by
  have ntx : t ≠ x := by
    intro z
    subst z
    rw [upd_same] at np
    cases np
  have ntd : t ≠ dx := by
    intro z
    subst z
    rw [upd_ne ntx, upd_same] at np
    cases np
  refine ⟨fun b y hb => ?_, dx, t, q, h, .inl (.inl ?_)⟩
  · have nbx : b ≠ x := ne_of_none hb nx
    have nbt : b ≠ t := by
      intro z
      subst z
      rw [upd_ne nbx, upd_ne ntd] at np
      rw [np] at hb
      cases hb
    refine e b y nbx ?_
    rw [upd_ne nbt, upd_ne nbx, upd_ne (ne_of_none hb nd)]
    exact hb
  · exact e _ _ ntx upd_same
theorem nest_kw {f : Addr} {fd : FuncData} (F : Fun K "__init__" "Nest.__init__" (sNest 0) f fd) (walk : Body P w K mg base "Nest.__init__" (sNest 0) f nestN 2 (sp_nest0 K C)) :
    ∀ (A : Around) (fr : List Env) (s : Shared) (H : Hp) (y : Addr) (ws : List Value) (zs : List V) (Q : VK), Room 3 A → Env0 P w K mg base A fr s H → Vals zs ws → spKw0 K C (.ref y :: zs) H Q E0 →
      codeAny (model P w) A (.call (.ref f) ⟨[.ref y], [("inner" : Str), "outer"].zip ws⟩) (CR CX0 fr P w H s Q E0) s := by
  intro A fr s H y ws zs Q room e0 rz h
  obtain ⟨y', i, o, e, h⟩ := h
  cases e
  obtain ⟨u1, u2, rfl, r1, r2⟩ := vals2 rz
  exact star_kw2 (p0 := "self") (p1 := "outer") (p2 := "inner") F sc_nest (fun _ _ _ _ _ _ _ _ _ => rfl) walk room e0 (show L2.RelV (.ref y) (.ref y) from rfl) r2 r1 h
theorem nest_star {f : Addr} {fd : FuncData} (F : Fun K "__init__" "Nest.__init__" (sNest 0) f fd) (walk : Body P w K mg base "Nest.__init__" (sNest 0) f nestN 2 (sp_nest0 K C)) : FnR P w K mg base CX0 3 f (spStar0 K C) :=
  star_pos (ps := ["self", "outer", "inner"]) F sc_nest (fun _ _ _ _ _ _ us rest hl => match us, hl, rest with | [_, _, _], _, [] => rfl | [_, _, _], _, _ :: _ => rfl) walk
def dN (o i : Str) : PyData := .list [.str o, .str i, .tuple [], .int 0]
theorem LoopT.two {z : Str} {b : Bool} (h : LoopT z b) : z.length ≤ 60 ∧ PyData.leavesShort 13 (.str z) = true ∧ PyData.canLay0 (.str z) = true := by
  obtain ⟨_, _, _, _, _, h1, h2, h3⟩ := h
  exact ⟨h1, h2, h3⟩
theorem dN_shaped {o i : Str} (lo : LoopT o false) (li : LoopT i true) : SeqAt.shaped (dN o i) = true := by
  have h1 := lo.two.2.2
  have h2 := li.two.2.2
  unfold SeqAt.shaped dN
  simp only [PyData.canLay0, PyData.canLayAll0, Bool.and_true, Bool.and_eq_true] at h1 h2 ⊢
  exact ⟨⟨h1, h2⟩, rfl⟩
theorem dN_show {o i : Str} : (dN o i).showable = true := by
  unfold dN
  simp only [PyData.showable, PyData.showableAll, Bool.and_true, Bool.true_and]
  decide
theorem dN_short {o i : Str} (lo : LoopT o false) (li : LoopT i true) : (dN o i).shown.length ≤ sizeLine := by
  have h1 := lo.two
  have h2 := li.two
  have e1 : o.cps.size = o.length := rfl
  have e2 : i.cps.size = i.length := rfl
  refine PyData.shown_fits (B := 13) (by decide) (by decide) ?_ ?_
  · unfold dN
    simp only [PyData.leavesShort, PyData.leavesShortAll, Bool.and_true, Bool.and_eq_true] at h1 h2 ⊢
    exact ⟨h1.2.1, h2.2.1, by decide +kernel⟩
  · unfold dN
    simp only [PyData.weight, PyData.weightAll]
    rw [e1, e2]
    have := h1.1
    have := h2.1
    simp
    omega
end
section
variable {P : Program} {w : World} {K : PySem.W.Frag} {mg : Str → Option Value} {base : Heap}
theorem sc_law_number : FnScope ["_law_script", "_law_k", "_law_mixed", "_law_cell"] ["_law_script", "_law_k"] (defScope s_law_number) := ⟨rfl, rfl, rfl, by decide +kernel, rfl, by decide +kernel, by decide +kernel⟩
abbrev sc_law_numberN : List Str := ["_law_script", "_law_k", "_law_mixed", "_law_cell"]
def sp_law_number (K : PySem.W.Frag) : Sp := fun vs H Q _ => ∃ (a : Addr) (ns : List Int) (k : Int), vs = [.ref a, .int k] ∧ SqL K H a (ns.map V.int) ∧ ns.length ≤ 63 ∧ 0 ≤ k ∧ k < 64 ∧ ∀ n H', Same H H' → Q (.int n) H'
theorem ok_law_number (B : Blt mg) (G : Glb w K mg) (D : DefAt K mg "_law_number" s_law_number ["_law_script", "_law_k"]) : DefOk P w K mg base 1 "_law_number" ["_law_script", "_law_k"] (sp_law_number K) := by
  refine def_ok D sc_law_number (fun vs H Q E h => ?_) (fun f cdv A outer s H vs Q E hr h => ?_)
  · obtain ⟨_, _, _, rfl, _⟩ := h
    rfl
  · obtain ⟨a, ns, k, rfl, hS, hl, k0, k9, q⟩ := h
    obtain ⟨ms1, ec1, z1⟩ := cutV_map ns none (some 5)
    refine ⟨_, (pss_cons (ps_if (pt_cmpR op_lt (pv 1) (pe_callB call_len_seq (by rfl) B.len bt_len (pa_cons (pv 0) pa_nil)) (nomark _)) (pss_one (ps_ret (pe_callTy call_int1 (by rfl) B.int bt_int (pa_cons (pe_ix ix_list (pv 0) (pv 1) (fun _ _ => rfl)) pa_nil)))) pss_nil)
      (pss_cons (ps_set (i := 2) sc_law_number.nd rfl (.inl rfl) (pe_op op_add pe_int (pe_op op_mul (pe_op op_mul pe_int (pv 1)) (pv 1))))
      (pss_cons (ps_for PassesOwn.never rfl (pi_list (pe_slice sl_list (pv 0) po_none (po_some pe_int))) (pg_name (i := 3) sc_law_number.nd rfl (.inl rfl)) (pss_one (ps_set (i := 2) sc_law_number.nd rfl (.inl rfl) (pe_op op_mod (pe_callTy call_int1 (by rfl) B.int bt_int (pa_cons (pe_op op_add (pe_op op_add (pe_op op_mul (pv 2) pe_int) (pv 3)) pe_int) pa_nil)) pe_int))))
      (pss_one (ps_ret (pv 2)))))), ?_⟩
    refine ⟨_, rfl, _, rfl, _, _, rfl, .inl hS, _, _, rfl, rfl, _, rfl, ?_⟩
    refine ite2 (fun e1 => ?_) (fun e1 => ?_)
    · try simp only [decide_eq_true_eq, Bool.not_eq_true', decide_eq_false_iff_not, Bool.not_eq_false', Bool.not_eq_true, Decidable.not_not, V.int.injEq, V.bl.injEq, V.str.injEq] at e1
      refine ⟨_, rfl, _, rfl, _, _, _, _, rfl, rfl, hS, (at_nat k0 (by rw [List.length_map] at e1; omega)), .inl ⟨_, rfl, ?_⟩⟩
      exact q _ _ (Same.refl H)
    · try simp only [decide_eq_true_eq, Bool.not_eq_true', decide_eq_false_iff_not, Bool.not_eq_false', Bool.not_eq_true, Decidable.not_not, V.int.injEq, V.bl.injEq, V.str.injEq] at e1
      refine ⟨_, rfl, _, _, rfl, rfl, (Or.inl ⟨by decide, by decide⟩), _, rfl, _, _, rfl, rfl, (Or.inr ⟨by omega, by omega⟩), _, _, rfl, rfl, _, rfl, _, rfl, _, _, rfl, hS, fun l2 nl2 => ?_⟩
      refine ⟨_, rfl, ⟨_, SqL.new⟩, for_list (K := K) (xs := ms1.map V.int) (fun i σ H' => ∃ z y, Same H H' ∧ SqL K H' l2 (ms1.map V.int) ∧ σ = [some (.ref a), some (.int k), some (.int z), y]) ⟨_, none, ((Same.refl H).trans (same_upd nl2)), by rw [← ec1]; exact SqL.new, rfl⟩ (fun i σ H' _ ⟨_, _, _, h, _⟩ => h) ?_ ?_⟩
      · rintro i x σ H' hx ⟨z, y, S', hL', rfl⟩
        obtain ⟨c, rfl⟩ : ∃ c, x = .int c := by
          have := List.mem_of_getElem? hx
          rw [List.mem_map] at this
          obtain ⟨c, _, e⟩ := this
          exact ⟨c, e.symm⟩
        refine ⟨_, rfl, _, _, rfl, rfl, (Or.inr ⟨by decide, by decide⟩), _, rfl, _, _, rfl, rfl, _, _, rfl, rfl, .inl ⟨_, rfl, _, _, rfl, rfl, (by walk_at "ob"), ?_⟩⟩
        exact ⟨_, _, S', hL', rfl⟩
      · rintro σ H' ⟨z, y, S', hL', rfl⟩
        refine ⟨_, rfl, ?_⟩
        exact q _ _ S'

theorem sc_law_bag : FnScope ["_law_number_here", "_law_mixed"] ["_law_number_here"] (defScope s_law_bag) := ⟨rfl, rfl, rfl, by decide +kernel, rfl, by decide +kernel, by decide +kernel⟩
abbrev sc_law_bagN : List Str := ["_law_number_here", "_law_mixed"]
def sp_law_bag : Sp := fun vs H Q _ => ∃ n, vs = [.int n] ∧ ∀ p H', Same H H' → H p = none → Bag H' p → Q (.ref p) H'
theorem ok_law_bag (B : Blt mg) (G : Glb w K mg) (D : DefAt K mg "_law_bag" s_law_bag ["_law_number_here"]) : DefOk P w K mg base 1 "_law_bag" ["_law_number_here"] sp_law_bag := by
  refine def_ok D sc_law_bag (fun vs H Q E h => ?_) (fun f cdv A outer s H vs Q E hr h => ?_)
  · obtain ⟨_, rfl, _⟩ := h
    rfl
  · obtain ⟨n, rfl, q⟩ := h
    refine ⟨_, (pss_cons (ps_set (i := 1) sc_law_bag.nd rfl (.inl rfl) (pe_op op_mod (pe_callTy call_int1 (by rfl) B.int bt_int (pa_cons (pe_op op_add (pe_op op_mul (pe_callB call_abs (by rfl) B.abs bt_abs (pa_cons (pv 0) pa_nil)) pe_int) pe_int) pa_nil)) pe_int))
      (pss_one (ps_ret (pe_lst (pa_cons (pv 1) (pa_cons (pe_ifExp (PW.pt (pw_or (pt_cmpR op_lt (pv 0) pe_int (nomark _)) (pw_or1 (pt_cmpR op_ge (pv 0) (pe_op op_powN pe_int pe_int) (nomark _))))) (pe_callB call_abs (by rfl) B.abs bt_abs (pa_cons (pv 0) pa_nil)) pe_int) (pa_cons pe_int pa_nil))))))), ?_⟩
    refine ⟨_, rfl, _, rfl, _, _, rfl, rfl, (Or.inr ⟨by decide, by decide⟩), _, _, rfl, rfl, .inl ⟨_, rfl, _, _, rfl, rfl, (by walk_at "ob"), _, rfl, _, rfl, _, _, rfl, rfl, _, rfl, ?_⟩⟩
    refine ite2 (fun e1 => ?_) (fun e1 => ?_)
    · try simp only [decide_eq_true_eq, Bool.not_eq_true', decide_eq_false_iff_not, Bool.not_eq_false', Bool.not_eq_true, Decidable.not_not, V.int.injEq, V.bl.injEq, V.str.injEq] at e1
      refine iteT' rfl ?_
      refine ⟨_, rfl, _, rfl, (by show 3 ≤ sizeLine; decide), fun l2 nl2 => ?_⟩
      exact q _ _ (same_upd nl2) nl2 ⟨_, _, _, upd_same, Int.emod_nonneg _ (by decide), Int.emod_lt_of_pos _ (by decide), by first | decide | omega | (split <;> omega), by decide⟩
    · try simp only [decide_eq_true_eq, Bool.not_eq_true', decide_eq_false_iff_not, Bool.not_eq_false', Bool.not_eq_true, Decidable.not_not, V.int.injEq, V.bl.injEq, V.str.injEq] at e1
      refine ⟨_, rfl, _, _, rfl, rfl, (by walk_at "ob"), fun w3 ew3 => ?_⟩
      have ew3 : w3 = 1000000000000000000 := ew3
      refine ⟨_, _, rfl, rfl, _, rfl, ?_⟩
      refine ite2 (fun e4 => ?_) (fun e4 => ?_)
      · try simp only [decide_eq_true_eq, Bool.not_eq_true', decide_eq_false_iff_not, Bool.not_eq_false', Bool.not_eq_true, Decidable.not_not, V.int.injEq, V.bl.injEq, V.str.injEq] at e4
        refine ⟨_, rfl, _, rfl, (by show 3 ≤ sizeLine; decide), fun l5 nl5 => ?_⟩
        exact q _ _ (same_upd nl5) nl5 ⟨_, _, _, upd_same, Int.emod_nonneg _ (by decide), Int.emod_lt_of_pos _ (by decide), by first | decide | omega | (split <;> omega), by decide⟩
      · try simp only [decide_eq_true_eq, Bool.not_eq_true', decide_eq_false_iff_not, Bool.not_eq_false', Bool.not_eq_true, Decidable.not_not, V.int.injEq, V.bl.injEq, V.str.injEq] at e4
        refine ⟨(by show 3 ≤ sizeLine; decide), fun l6 nl6 => ?_⟩
        exact q _ _ (same_upd nl6) nl6 ⟨_, _, _, upd_same, Int.emod_nonneg _ (by decide), Int.emod_lt_of_pos _ (by decide), by first | decide | omega | (split <;> omega), by decide⟩

theorem sc_law_take : FnScope ["_law_bag_here", "_law_many", "_law_mixed", "_law_digit"] ["_law_bag_here", "_law_many"] (defScope s_law_take) := ⟨rfl, rfl, rfl, by decide +kernel, rfl, by decide +kernel, by decide +kernel⟩
abbrev sc_law_takeN : List Str := ["_law_bag_here", "_law_many", "_law_mixed", "_law_digit"]
def sp_law_take : Sp := fun vs H Q _ => ∃ p many, vs = [.ref p, .int many] ∧ Bag H p ∧ 0 < many ∧ many < 1073741824 ∧ ∀ d H', 0 ≤ d → d < many → SameX p H H' → Bag H' p → Q (.int d) H'
theorem ok_law_take (B : Blt mg) (G : Glb w K mg) (D : DefAt K mg "_law_take" s_law_take ["_law_bag_here", "_law_many"]) : DefOk P w K mg base 1 "_law_take" ["_law_bag_here", "_law_many"] sp_law_take := by
  refine def_ok D sc_law_take (fun vs H Q E h => ?_) (fun f cdv A outer s H vs Q E hr h => ?_)
  · obtain ⟨_, _, rfl, _⟩ := h
    rfl
  · obtain ⟨p, many, rfl, ⟨m, o, c, hp, m0, m9, o0, c0⟩, h1, h2, q⟩ := h
    refine ⟨_, (pss_cons (ps_asg (pe_op op_add (pe_ix ix_list (pv 0) pe_int (fun _ _ => rfl)) pe_int) (pg_sub (pv 0) pe_int set_list))
      (pss_cons (ps_set (i := 2) sc_law_take.nd rfl (.inl rfl) (pe_callTy call_int1 (by rfl) B.int bt_int (pa_cons (pe_ix ix_list (pv 0) pe_int (fun _ _ => rfl)) pa_nil)))
      (pss_cons (ps_asg (pe_op op_mod (pe_callTy call_int1 (by rfl) B.int bt_int (pa_cons (pe_op op_add (pe_op op_add (pe_op op_mul (pv 2) (pe_op op_add (pe_op op_mod (pe_callTy call_int1 (by rfl) B.int bt_int (pa_cons (pv 2) pa_nil)) pe_int) pe_int)) (pe_op op_mul pe_int (pe_ix ix_list (pv 0) pe_int (fun _ _ => rfl)))) pe_int) pa_nil)) pe_int) (pg_sub (pv 0) pe_int set_list))
      (pss_cons (ps_if (pt_cmpR op_gt (pe_ix ix_list (pv 0) pe_int (fun _ _ => rfl)) pe_int (nomark _)) (pss_cons (ps_asg (pe_callB call_divmod (by rfl) B.divmod bt_divmod (pa_cons (pe_ix ix_list (pv 0) pe_int (fun _ _ => rfl)) (pa_cons (pv 1) pa_nil))) (pg_tup rfl (pgs_cons (pg_sub (pv 0) pe_int set_list) (pgs_cons (pg_name (i := 3) sc_law_take.nd rfl (.inl rfl)) pgs_nil))))
      (pss_one (ps_ret (pv 3)))) pss_nil)
      (pss_one (ps_ret (pe_op op_mod (pe_callTy call_int1 (by rfl) B.int bt_int (pa_cons (pe_op op_fdiv (pe_ix ix_list (pv 0) pe_int (fun _ _ => rfl)) pe_int) pa_nil)) (pv 1)))))))), ?_⟩
    refine ⟨_, rfl, _, _, _, _, rfl, rfl, (.inl (.inl hp)), rfl, _, _, rfl, rfl, _, rfl, _, _, _, _, rfl, rfl, hp, rfl, _, rfl, _, _, _, _, rfl, rfl, (.inl (.inl upd_same)), rfl, .inl ⟨_, rfl, _, rfl, _, rfl, .inl ⟨_, rfl, _, _, rfl, rfl, (by walk_at "ob"), _, _, rfl, rfl, _, _, rfl, rfl, (Or.inl ⟨by omega, by omega⟩), _, rfl, _, _, _, _, rfl, rfl, (.inl (.inl upd_same)), rfl, _, _, rfl, rfl, (Or.inl ⟨by decide, by decide⟩), _, _, rfl, rfl, _, _, rfl, rfl, .inl ⟨_, rfl, _, _, rfl, rfl, (by walk_at "ob"), _, rfl, _, _, _, _, rfl, rfl, upd_same, rfl, _, rfl, _, _, _, _, rfl, rfl, (.inl (.inl upd_same)), rfl, _, _, rfl, rfl, _, rfl, ?_⟩⟩⟩⟩
    refine ite2 (fun e1 => ?_) (fun e1 => ?_)
    · try simp only [decide_eq_true_eq, Bool.not_eq_true', decide_eq_false_iff_not, Bool.not_eq_false', Bool.not_eq_true, Decidable.not_not, V.int.injEq, V.bl.injEq, V.str.injEq] at e1
      refine ⟨_, rfl, _, _, _, _, rfl, rfl, (.inl (.inl upd_same)), rfl, _, rfl, _, _, rfl, (by walk_at "ob"), fun t2 nt2 => ?_⟩
      refine ⟨_, _, rfl, SqT.new, rfl, _, _, rfl, _, rfl, _, _, _, _, rfl, rfl, ((same_upd nt2) _ _ upd_same), rfl, _, _, rfl, rfl, _, rfl, ?_⟩
      exact q _ _ (Int.emod_nonneg _ (by omega)) (Int.emod_lt_of_pos _ h1) (((((SameX.refl p H).trans SameX.upd).trans SameX.upd).trans (SameX.of (same_upd nt2))).trans SameX.upd) ⟨_, _, _, upd_same, Int.emod_nonneg _ (by decide), Int.emod_lt_of_pos _ (by decide), Int.ediv_nonneg o0 (by omega), by omega⟩
    · try simp only [decide_eq_true_eq, Bool.not_eq_true', decide_eq_false_iff_not, Bool.not_eq_false', Bool.not_eq_true, Decidable.not_not, V.int.injEq, V.bl.injEq, V.str.injEq] at e1
      refine ⟨_, rfl, _, _, _, _, rfl, rfl, (.inl (.inl upd_same)), rfl, _, _, rfl, rfl, (by walk_at "ob"), .inl ⟨_, rfl, _, rfl, _, _, rfl, rfl, h1, ?_⟩⟩
      exact q _ _ (Int.emod_nonneg _ (by omega)) (Int.emod_lt_of_pos _ h1) (((SameX.refl p H).trans SameX.upd).trans SameX.upd) ⟨_, _, _, upd_same, Int.emod_nonneg _ (by decide), Int.emod_lt_of_pos _ (by decide), o0, by omega⟩

theorem sc_law_edge_row : FnScope ["_law_bound", "_law_head"] ["_law_bound"] (defScope s_law_edge_row) := ⟨rfl, rfl, rfl, by decide +kernel, rfl, by decide +kernel, by decide +kernel⟩
abbrev sc_law_edge_rowN : List Str := ["_law_bound", "_law_head"]
def sp_law_edge_row : Sp := fun vs H Q _ => ∃ b, vs = [.int b] ∧ 0 ≤ b ∧ b < 18 ∧ ∀ H', Same H H' → Q (.str (edge b)) H'
theorem ok_law_edge_row (B : Blt mg) (G : Glb w K mg) (D : DefAt K mg "_law_edge_row" s_law_edge_row ["_law_bound"]) : DefOk P w K mg base 1 "_law_edge_row" ["_law_bound"] sp_law_edge_row := by
  refine def_ok D sc_law_edge_row (fun vs H Q E h => ?_) (fun f cdv A outer s H vs Q E hr h => ?_)
  · obtain ⟨_, rfl, _⟩ := h
    rfl
  · obtain ⟨b, rfl, b0, b9, q⟩ := h
    refine ⟨_, (pss_cons (ps_if (pt_cmpR op_lt (pv 0) pe_int (nomark _)) (pss_one (ps_ret (pe_ix ix_list (pe_lst (pa_cons pe_str (pa_cons pe_str (pa_cons pe_str pa_nil)))) (pv 0) (fun _ _ => rfl)))) pss_nil)
      (pss_cons (ps_set (i := 1) sc_law_edge_row.nd rfl (.inl rfl) (pe_ix ix_list (pe_lst (pa_cons pe_str (pa_cons pe_str (pa_cons pe_str (pa_cons pe_str (pa_cons pe_str pa_nil)))))) (pe_op op_sub (pe_op op_fdiv (pv 0) pe_int) pe_int) (fun _ _ => rfl)))
      (pss_one (ps_ret (pe_op op_add_str (pv 1) (pe_ix ix_list (pe_lst (pa_cons pe_str (pa_cons pe_str (pa_cons pe_str pa_nil)))) (pe_op op_mod (pe_callTy call_int1 (by rfl) B.int bt_int (pa_cons (pv 0) pa_nil)) pe_int) (fun _ _ => rfl))))))), ?_⟩
    refine ⟨_, rfl, _, _, rfl, rfl, _, rfl, ?_⟩
    refine ite2 (fun e1 => ?_) (fun e1 => ?_)
    · try simp only [decide_eq_true_eq, Bool.not_eq_true', decide_eq_false_iff_not, Bool.not_eq_false', Bool.not_eq_true, Decidable.not_not, V.int.injEq, V.bl.injEq, V.str.injEq] at e1
      refine ⟨(by show 3 ≤ sizeLine; decide), fun l2 nl2 => ?_⟩
      refine ⟨_, rfl, _, _, _, _, rfl, rfl, (.inl (.inl upd_same)), (atStr (l := Sq.e0) b0 (by show b < 3; omega)), ?_⟩
      exact qs (q _ ((Same.refl H).trans (same_upd nl2))) (if_pos (by omega)).symm
    · try simp only [decide_eq_true_eq, Bool.not_eq_true', decide_eq_false_iff_not, Bool.not_eq_false', Bool.not_eq_true, Decidable.not_not, V.int.injEq, V.bl.injEq, V.str.injEq] at e1
      refine ⟨(by show 5 ≤ sizeLine; decide), fun l3 nl3 => ?_⟩
      refine ⟨_, rfl, _, _, rfl, rfl, (by walk_at "ob"), _, _, rfl, rfl, _, _, _, _, rfl, rfl, (.inl (.inl upd_same)), (atStr (l := Sq.e1) (by omega) (by show b / 3 - 1 < 5; omega)), _, rfl, (by show 3 ≤ sizeLine; decide), fun l4 nl4 => ?_⟩
      refine ⟨_, rfl, .inl ⟨_, rfl, _, _, rfl, rfl, (by walk_at "ob"), _, _, _, _, rfl, rfl, (.inl (.inl upd_same)), (atStr (l := Sq.e2) (by omega) (by show b % 3 < 3; omega)), _, _, rfl, rfl, (edge_sum b0 b9), ?_⟩⟩
      exact qs (q _ (((Same.refl H).trans (same_upd nl3)).trans (same_upd nl4))) (if_neg (by omega)).symm

theorem sc_law_walk_row : FnScope ["_law_walk"] ["_law_walk"] (defScope s_law_walk_row) := ⟨rfl, rfl, rfl, by decide +kernel, rfl, by decide +kernel, by decide +kernel⟩
abbrev sc_law_walk_rowN : List Str := ["_law_walk"]
def sp_law_walk_row (K : PySem.W.Frag) : Sp := fun vs H Q _ => ∃ t a b d, vs = [.ref t] ∧ SqT K H t [.int a, .int b, .int d] ∧ (0 ≤ a ∧ a < 18 ∧ 0 ≤ b ∧ b < 18) ∧ ∀ H', Same H H' → Q (.str (row a b d)) H'
theorem ok_law_walk_row (B : Blt mg) (G : Glb w K mg) (D : DefAt K mg "_law_walk_row" s_law_walk_row ["_law_walk"]) (d_law_edge_row : DefOk P w K mg base 1 "_law_edge_row" ["_law_bound"] sp_law_edge_row) : DefOk P w K mg base 2 "_law_walk_row" ["_law_walk"] (sp_law_walk_row K) := by
  refine def_ok D sc_law_walk_row (fun vs H Q E h => ?_) (fun f cdv A outer s H vs Q E hr h => ?_)
  · obtain ⟨_, _, _, _, rfl, _⟩ := h
    rfl
  · obtain ⟨t, a, b, d, rfl, ht, ⟨a0, a9, b0, b9⟩, q⟩ := h
    have la := edge_le a0 a9
    have lb := edge_le b0 b9
    refine ⟨_, (pss_one (ps_ret (pe_op op_add_str (pe_op op_add_str (pe_op op_add_str (pe_callD d_law_edge_row (hr.mono (by decide)) (by rfl) (pa_cons (pe_ix ix_tup (pv 0) pe_int (fun _ _ => rfl)) pa_nil)) pe_str) (pe_callD d_law_edge_row (hr.mono (by decide)) (by rfl) (pa_cons (pe_ix ix_tup (pv 0) pe_int (fun _ _ => rfl)) pa_nil))) (pe_ifExp (pt_cmpR op_eq (pe_ix ix_tup (pv 0) pe_int (fun _ _ => rfl)) pe_int (nomark _)) pe_str pe_str)))), ?_⟩
    refine ⟨_, rfl, _, _, _, _, rfl, rfl, ht, rfl, _, rfl, (by walk_at "ob"), (by walk_at "ob"), fun H1 S1 => ?_⟩
    refine ⟨_, _, rfl, rfl, (str_le (by show _ + 4 ≤ 1000; omega)), _, rfl, _, _, _, _, rfl, rfl, (seqT S1 ht), rfl, _, rfl, (by walk_at "ob"), (by walk_at "ob"), fun H2 S2 => ?_⟩
    refine ⟨_, _, rfl, rfl, (str_le (by rw [Str.length_append]; show _ + 4 + _ ≤ 1000; omega)), _, rfl, _, _, _, _, rfl, rfl, (seqT S2 (seqT S1 ht)), rfl, rfl, _, rfl, ?_⟩
    refine ite2 (fun e3 => ?_) (fun e3 => ?_)
    · try simp only [decide_eq_true_eq, Bool.not_eq_true', decide_eq_false_iff_not, Bool.not_eq_false', Bool.not_eq_true, Decidable.not_not, V.int.injEq, V.bl.injEq, V.str.injEq] at e3
      refine ⟨_, _, rfl, rfl, (str_le (by rw [Str.length_append, Str.length_append]; first | (show _ + 4 + _ + 5 ≤ 1000; omega) | (show _ + 4 + _ + 0 ≤ 1000; omega))), ?_⟩
      exact qs (q _ (((Same.refl H).trans S1).trans S2)) (by unfold row; rw [if_pos (by assumption)])
    · try simp only [decide_eq_true_eq, Bool.not_eq_true', decide_eq_false_iff_not, Bool.not_eq_false', Bool.not_eq_true, Decidable.not_not, V.int.injEq, V.bl.injEq, V.str.injEq] at e3
      refine ⟨_, _, rfl, rfl, (str_le (by rw [Str.length_append, Str.length_append]; first | (show _ + 4 + _ + 5 ≤ 1000; omega) | (show _ + 4 + _ + 0 ≤ 1000; omega))), ?_⟩
      exact qs (q _ (((Same.refl H).trans S1).trans S2)) (by unfold row; rw [if_neg (by assumption)])

theorem sc_law_taken : FnScope ["_law_first", "_law_second", "_law_one", "_law_two"] ["_law_first", "_law_second"] (defScope s_law_taken) := ⟨rfl, rfl, rfl, by decide +kernel, rfl, by decide +kernel, by decide +kernel⟩
abbrev sc_law_takenN : List Str := ["_law_first", "_law_second", "_law_one", "_law_two"]
def sp_law_taken : Sp := fun vs H Q _ => ∃ o i, vs = [.str o, .str i] ∧ LoopT o false ∧ LoopT i true ∧ ∀ H', Same H H' → Q (.bl true) H'
theorem ok_law_taken (B : Blt mg) (G : Glb w K mg) {C : Addr} (N : NestOk P w K mg base C) (D : DefAt K mg "_law_taken" s_law_taken ["_law_first", "_law_second"]) : DefG P w K mg base 5 "_law_taken" ["_law_first", "_law_second"] sp_law_taken := by
  refine defG_ok D sc_law_taken (fun vs H Q E h => ?_) (fun f cdv A outer s H vs Q E gd hr h => ?_)
  · obtain ⟨_, _, rfl, _⟩ := h
    rfl
  · obtain ⟨o, i, rfl, lo, li, q⟩ := h
    obtain ⟨fM, M, FR, KW⟩ := N.made
    obtain ⟨p1, g1, fd1, P1, F1, b1⟩ := N.outer
    obtain ⟨p2, g2, fd2, P2, F2, b2⟩ := N.inner
    obtain ⟨p3, g3, fd3, P3, F3, b3⟩ := N.deeds
    refine ⟨_, (pss_cons (ps_par (i := 2) (j := 3) rfl sc_law_taken.nd rfl rfl (by decide) rfl rfl (pa_cons (StX.pe_makeR M FR (hr.mono (by decide)) (by rfl) N.T.gl L2.pass0 (pa_cons (pv 0) (pa_cons (pv 1) pa_nil))) (pa_cons (pe_makeKw M KW (hr.mono (by decide)) (by rfl) N.T.gl (pk_cons (pv 1) (pk_cons (pv 0) pk_nil))) pa_nil)) (by rfl))
      (pss_cons (ps_if (pt_cmpR op_ne (pe_callB (call_reprD gd (hu65 hr)) (by rfl) B.repr bt_repr (pa_cons (pe_lst (pa_cons (pe_prop (pv 2) N.T.ic.cl P1 F1 (hr.mono (by decide)) b1 .nil L2.pass0 rfl) (pa_cons (pe_prop (pv 2) N.T.ic.cl P2 F2 (hr.mono (by decide)) b2 .nil L2.pass0 rfl) (pa_cons (pe_prop (pv 2) N.T.ic.cl P3 F3 (hr.mono (by decide)) b3 .nil L2.pass0 rfl) (pa_cons (pe_callB (call_lenO N.len (hr.mono (by decide))) (by rfl) B.len bt_len (pa_cons (pv 2) pa_nil)) pa_nil))))) pa_nil)) (pe_callB (call_reprD gd (hu65 hr)) (by rfl) B.repr bt_repr (pa_cons (pe_lst (pa_cons (pv 0) (pa_cons (pv 1) (pa_cons (pe_tup pa_nil) (pa_cons pe_int pa_nil))))) pa_nil)) (nomark _)) (pss_one (ps_ret pe_bl)) pss_nil)
      (pss_cons (ps_if (pt_cmpR op_ne (pe_callB (call_reprD gd (hu65 hr)) (by rfl) B.repr bt_repr (pa_cons (pe_lst (pa_cons (pe_prop (pv 3) N.T.ic.cl P1 F1 (hr.mono (by decide)) b1 .nil L2.pass0 rfl) (pa_cons (pe_prop (pv 3) N.T.ic.cl P2 F2 (hr.mono (by decide)) b2 .nil L2.pass0 rfl) (pa_cons (pe_prop (pv 3) N.T.ic.cl P3 F3 (hr.mono (by decide)) b3 .nil L2.pass0 rfl) (pa_cons (pe_callB (call_lenO N.len (hr.mono (by decide))) (by rfl) B.len bt_len (pa_cons (pv 3) pa_nil)) pa_nil))))) pa_nil)) (pe_callB (call_reprD gd (hu65 hr)) (by rfl) B.repr bt_repr (pa_cons (pe_lst (pa_cons (pv 0) (pa_cons (pv 1) (pa_cons (pe_tup pa_nil) (pa_cons pe_int pa_nil))))) pa_nil)) (nomark _)) (pss_one (ps_ret pe_bl)) pss_nil)
      (pss_one (ps_ret (pe_and (pe_callTy (call_boolO N.bool (hr.mono (by decide))) (by rfl) B.bool bt_bool (pa_cons (pv 2) pa_nil)) (pe_and (pe_cmpR (op_eqO N.eq (hr.mono (by decide))) (pv 2) (pv 3) (nomark _)) (pe_one (pe_not (pe_cmpR (op_neO N.eq N.ne N.T.ic.hm (hr.mono (by decide))) (pv 2) (pv 3) (nomark _))))))))))), ?_⟩
    refine ⟨_, rfl, _, rfl, fun x1 dx1 nx1 nd1 ne1 => ?_⟩
    refine ⟨[.ref x1, .str o, .str i], [], rfl, rfl, Nat.zero_le _, fun t1 nt1 => ?_⟩
    refine ⟨x1, dx1, o, i, t1, rfl, same_upd nt1 _ _ upd_same, SqT.new, lo, li, fun H1 q1 X1 h1 => ⟨rfl, ?_⟩⟩
    obtain ⟨S1, N1⟩ := nest_made (K := K) nx1 nd1 nt1 X1 h1
    refine ⟨_, rfl, _, rfl, fun x2 dx2 nx2 nd2 ne2 => ?_⟩
    refine ⟨.ref x2, .str i, .str o, rfl, fun t2 nt2 => ?_⟩
    refine ⟨x2, dx2, o, i, t2, rfl, same_upd nt2 _ _ upd_same, SqT.new, lo, li, fun H2 q2 X2 h2 => ⟨rfl, ?_⟩⟩
    obtain ⟨S2, N2⟩ := nest_made (K := K) nx2 nd2 nt2 X2 h2
    have N1 := N1.same S2
    obtain ⟨dx1, t1, q1, ha1, hT1⟩ := id N1
    refine ⟨_, _, rfl, ?_⟩
    refine ⟨_, rfl, x1, dx1, _, rfl, ha1, x1, dx1, _, _, rfl, ha1, nf_over _ _ _ _, _, rfl, x1, dx1, _, rfl, ha1, x1, dx1, _, _, rfl, ha1, nf_below _ _ _ _, _, rfl, x1, dx1, _, rfl, ha1, x1, dx1, _, _, rfl, ha1, nf_texts _ _ _ _, _, rfl, x1, dx1, _, rfl, ha1, x1, o, i, [], rfl, N1, 0, rfl, Nat.zero_le _, (by show 4 ≤ sizeLine; decide), fun l1 nl1 => ?_⟩
    refine ⟨_, dN o i, rfl, .lst SqL.new (.cons (.str o) (.cons (.str i) (.cons (.tup (seqT (same_upd nl1) hT1) .nil) (.cons (.int 0) .nil)))), dN_shaped lo li, dN_show, dN_short lo li, ?_⟩
    refine ⟨_, rfl, _, rfl, Nat.zero_le _, fun u1 nu1 => ?_⟩
    refine ⟨(by show 4 ≤ sizeLine; decide), fun k1 nk1 => ?_⟩
    refine ⟨_, dN o i, rfl, .lst SqL.new (.cons (.str o) (.cons (.str i) (.cons (.tup (seqT (same_upd nk1) SqT.new) .nil) (.cons (.int 0) .nil)))), dN_shaped lo li, dN_show, dN_short lo li, ?_⟩
    refine ⟨rfl, _, rfl, ?_⟩
    refine iteF' (neF rfl) ?_
    have S3 := ((same_upd nl1).trans (same_upd nu1)).trans (same_upd (o := .lst [.str o, .str i, .ref u1, .int 0]) nk1)
    have N1 := N1.same S3
    have N2 := N2.same S3
    obtain ⟨dx2, t2, q2, ha2, hT2⟩ := id N2
    refine ⟨_, rfl, x2, dx2, _, rfl, ha2, x2, dx2, _, _, rfl, ha2, nf_over _ _ _ _, _, rfl, x2, dx2, _, rfl, ha2, x2, dx2, _, _, rfl, ha2, nf_below _ _ _ _, _, rfl, x2, dx2, _, rfl, ha2, x2, dx2, _, _, rfl, ha2, nf_texts _ _ _ _, _, rfl, x2, dx2, _, rfl, ha2, x2, o, i, [], rfl, N2, 0, rfl, Nat.zero_le _, (by show 4 ≤ sizeLine; decide), fun l2 nl2 => ?_⟩
    refine ⟨_, dN o i, rfl, .lst SqL.new (.cons (.str o) (.cons (.str i) (.cons (.tup (seqT (same_upd nl2) hT2) .nil) (.cons (.int 0) .nil)))), dN_shaped lo li, dN_show, dN_short lo li, ?_⟩
    refine ⟨_, rfl, _, rfl, Nat.zero_le _, fun u2 nu2 => ?_⟩
    refine ⟨(by show 4 ≤ sizeLine; decide), fun k2 nk2 => ?_⟩
    refine ⟨_, dN o i, rfl, .lst SqL.new (.cons (.str o) (.cons (.str i) (.cons (.tup (seqT (same_upd nk2) SqT.new) .nil) (.cons (.int 0) .nil)))), dN_shaped lo li, dN_show, dN_short lo li, ?_⟩
    refine ⟨rfl, _, rfl, ?_⟩
    refine iteF' (neF rfl) ?_
    have S4 := ((same_upd nl2).trans (same_upd nu2)).trans (same_upd (o := .lst [.str o, .str i, .ref u2, .int 0]) nk2)
    have N1 := N1.same S4
    have N2 := N2.same S4
    obtain ⟨dx1, t1, q1, ha1, hT1⟩ := id N1
    obtain ⟨dx2, t2, q2, ha2, hT2⟩ := id N2
    refine ⟨_, rfl, x1, dx1, _, rfl, ha1, x1, rfl, true, rfl, _, rfl, ?_⟩
    refine iteT' rfl ?_
    refine ⟨_, rfl, _, rfl, x1, x2, dx1, dx2, _, _, rfl, rfl, ha1, ha2, x1, x2, o, i, [], rfl, N1, N2, rfl, true, rfl, _, rfl, ?_⟩
    refine iteT' rfl ?_
    refine ⟨_, rfl, _, rfl, x1, x2, dx1, dx2, _, _, rfl, rfl, ha1, ha2, x1, x2, o, i, [], rfl, N1, N2, rfl, true, rfl, _, rfl, ?_⟩
    exact q _ (((S1.trans S2).trans S3).trans S4)

theorem sc_law_any_right : FnScope ["_law_bag_here", "_law_first", "_law_second"] ["_law_bag_here"] (defScope s_law_any_right) := ⟨rfl, rfl, rfl, by decide +kernel, rfl, by decide +kernel, by decide +kernel⟩
abbrev sc_law_any_rightN : List Str := ["_law_bag_here", "_law_first", "_law_second"]
def sp_law_any_right : Sp := fun vs H Q _ => ∃ p, vs = [.ref p] ∧ Bag H p ∧ ∀ H', SameX p H H' → Bag H' p → Q (.bl true) H'
theorem ok_law_any_right (B : Blt mg) (G : Glb w K mg) (D : DefAt K mg "_law_any_right" s_law_any_right ["_law_bag_here"]) (d_law_take : DefOk P w K mg base 1 "_law_take" ["_law_bag_here", "_law_many"] sp_law_take) (d_law_taken : DefG P w K mg base 5 "_law_taken" ["_law_first", "_law_second"] sp_law_taken) (d_law_walk_row : DefOk P w K mg base 2 "_law_walk_row" ["_law_walk"] (sp_law_walk_row K)) : DefG P w K mg base 6 "_law_any_right" ["_law_bag_here"] sp_law_any_right := by
  refine defG_ok D sc_law_any_right (fun vs H Q E h => ?_) (fun f cdv A outer s H vs Q E gd hr h => ?_)
  · obtain ⟨_, rfl, _⟩ := h
    rfl
  · obtain ⟨p, rfl, hp, q⟩ := h
    refine ⟨_, (pss_cons (ps_set (i := 1) sc_law_any_right.nd rfl (.inl rfl) (pe_tup (pa_cons (pe_callD d_law_take (hr.mono (by decide)) (by rfl) (pa_cons (pv 0) (pa_cons pe_int pa_nil))) (pa_cons (pe_callD d_law_take (hr.mono (by decide)) (by rfl) (pa_cons (pv 0) (pa_cons pe_int pa_nil))) (pa_cons (pe_callD d_law_take (hr.mono (by decide)) (by rfl) (pa_cons (pv 0) (pa_cons pe_int pa_nil))) pa_nil)))))
      (pss_cons (ps_set (i := 2) sc_law_any_right.nd rfl (.inl rfl) (pe_tup (pa_cons (pe_callD d_law_take (hr.mono (by decide)) (by rfl) (pa_cons (pv 0) (pa_cons pe_int pa_nil))) (pa_cons (pe_callD d_law_take (hr.mono (by decide)) (by rfl) (pa_cons (pv 0) (pa_cons pe_int pa_nil))) (pa_cons (pe_callD d_law_take (hr.mono (by decide)) (by rfl) (pa_cons (pv 0) (pa_cons pe_int pa_nil))) pa_nil)))))
      (pss_one (ps_ret (pe_callG d_law_taken gd (hr.mono (by decide)) (by rfl) (pa_cons (pe_callD d_law_walk_row (hr.mono (by decide)) (by rfl) (pa_cons (pv 1) pa_nil)) (pa_cons (pe_callD d_law_walk_row (hr.mono (by decide)) (by rfl) (pa_cons (pv 2) pa_nil)) pa_nil))))))), ?_⟩
    refine ⟨_, rfl, _, _, rfl, hp, (by walk_at "ob"), (by walk_at "ob"), fun d1 H1 da1 db1 X1 hp1 => ?_⟩
    refine ⟨_, rfl, _, _, rfl, hp1, (by walk_at "ob"), (by walk_at "ob"), fun d2 H2 da2 db2 X2 hp2 => ?_⟩
    refine ⟨_, rfl, _, _, rfl, hp2, (by walk_at "ob"), (by walk_at "ob"), fun d3 H3 da3 db3 X3 hp3 => ?_⟩
    refine ⟨(by show 3 ≤ sizeLine; decide), fun t4 nt4 => ?_⟩
    refine ⟨_, rfl, _, _, rfl, (Bag.same (same_upd nt4) hp3), (by walk_at "ob"), (by walk_at "ob"), fun d5 H5 da5 db5 X5 hp5 => ?_⟩
    refine ⟨_, rfl, _, _, rfl, hp5, (by walk_at "ob"), (by walk_at "ob"), fun d6 H6 da6 db6 X6 hp6 => ?_⟩
    refine ⟨_, rfl, _, _, rfl, hp6, (by walk_at "ob"), (by walk_at "ob"), fun d7 H7 da7 db7 X7 hp7 => ?_⟩
    refine ⟨(by show 3 ≤ sizeLine; decide), fun t8 nt8 => ?_⟩
    refine ⟨_, rfl, _, _, _, _, rfl, (seqT (same_upd nt8) (Bag.xT X7 hp6 (Bag.xT X6 hp5 (Bag.xT X5 (Bag.same (same_upd nt4) hp3) SqT.new)))), ⟨by walk_at "ob", by walk_at "ob", by walk_at "ob", by walk_at "ob"⟩, fun H9 S9 => ?_⟩
    refine ⟨_, rfl, _, _, _, _, rfl, (seqT S9 SqT.new), ⟨by walk_at "ob", by walk_at "ob", by walk_at "ob", by walk_at "ob"⟩, fun H10 S10 => ?_⟩
    refine ⟨_, _, rfl, (row_T rows12 (by omega) (by omega) (by omega) (by omega) (by omega) (by omega)), (row_T rows18 (by omega) (by omega) (by omega) (by omega) (by omega) (by omega)), fun H11 S11 => ?_⟩
    exact q _ ((((((((((((SameX.refl p H).trans X1).trans X2).trans X3).trans (SameX.of (same_upd nt4))).trans X5).trans X6).trans X7).trans (SameX.of (same_upd nt8))).trans (SameX.of S9)).trans (SameX.of S10)).trans (SameX.of S11)) (Bag.same S11 (Bag.same S10 (Bag.same S9 (Bag.same (same_upd nt8) hp7))))

theorem sc_law : FnScope ["_law_script", "_law_start", "_law_bound", "_law_some", "_law_other", "_law_k", "_law_bag_here", "_law_turn"] ["_law_script"] (defScope s_law) := ⟨rfl, rfl, rfl, by decide +kernel, rfl, by decide +kernel, by decide +kernel⟩
abbrev sc_lawN : List Str := ["_law_script", "_law_start", "_law_bound", "_law_some", "_law_other", "_law_k", "_law_bag_here", "_law_turn"]
def sp_law (K : PySem.W.Frag) : Sp := fun vs H Q _ => ∃ (a : Addr) (ns : List Int), vs = [.ref a] ∧ SqL K H a (ns.map V.int) ∧ ns.length ≤ 63 ∧ ∀ H', Q (.bl true) H'
theorem ok_law (B : Blt mg) (G : Glb w K mg) {f : Addr} {fd : FuncData} (F : Fun K "law" "law" s_law f fd) (d_law_bag : DefOk P w K mg base 1 "_law_bag" ["_law_number_here"] sp_law_bag) (d_law_number : DefOk P w K mg base 1 "_law_number" ["_law_script", "_law_k"] (sp_law_number K)) (d_law_take : DefOk P w K mg base 1 "_law_take" ["_law_bag_here", "_law_many"] sp_law_take) (d_law_taken : DefG P w K mg base 5 "_law_taken" ["_law_first", "_law_second"] sp_law_taken) (d_law_walk_row : DefOk P w K mg base 2 "_law_walk_row" ["_law_walk"] (sp_law_walk_row K)) (d_law_any_right : DefG P w K mg base 6 "_law_any_right" ["_law_bag_here"] sp_law_any_right) : FnG P w K mg base 7 f fd ["_law_script"] (sp_law K) := by
  refine fnG_ok F sc_law (fun vs H Q E h => ?_) (fun cdv A outer s H vs Q E gd hr h => ?_)
  · obtain ⟨_, _, rfl, _⟩ := h
    rfl
  · obtain ⟨a, ns, rfl, hS, hl, q⟩ := h
    refine ⟨_, (pss_cons (ps_set (i := 1) sc_law.nd rfl (.inl rfl) (pe_callD d_law_bag (hr.mono (by decide)) (by rfl) (pa_cons (pe_callD d_law_number (hr.mono (by decide)) (by rfl) (pa_cons (pv 0) (pa_cons pe_int pa_nil))) pa_nil)))
      (pss_cons (ps_for PassesOwn.never rfl (pi_range1 (by rfl) B.range (pa_cons pe_int pa_nil)) (pg_name (i := 2) sc_law.nd rfl (.inl rfl)) (pss_cons (ps_par (i := 3) (j := 4) rfl sc_law.nd rfl rfl (by decide) rfl rfl (pa_cons (pe_op op_mod (pe_callTy call_int1 (by rfl) B.int bt_int (pa_cons (pv 2) pa_nil)) pe_int) (pa_cons (pe_tup (pa_cons (pv 2) (pa_cons (pe_callD d_law_take (hr.mono (by decide)) (by rfl) (pa_cons (pv 1) (pa_cons pe_int pa_nil))) (pa_cons (pe_callD d_law_take (hr.mono (by decide)) (by rfl) (pa_cons (pv 1) (pa_cons pe_int pa_nil))) pa_nil)))) pa_nil)) (by rfl))
      (pss_cons (ps_if (pt_not (pt_val (pe_callG d_law_taken gd (hr.mono (by decide)) (by rfl) (pa_cons (pe_callD d_law_walk_row (hr.mono (by decide)) (by rfl) (pa_cons (pe_tup (pa_cons (pv 3) (pa_cons (pe_callD d_law_take (hr.mono (by decide)) (by rfl) (pa_cons (pv 1) (pa_cons pe_int pa_nil))) (pa_cons pe_int pa_nil)))) pa_nil)) (pa_cons (pe_callD d_law_walk_row (hr.mono (by decide)) (by rfl) (pa_cons (pv 4) pa_nil)) pa_nil))))) (pss_one (ps_ret pe_bl)) pss_nil)
      (pss_cons (ps_set (i := 4) sc_law.nd rfl (.inl rfl) (pe_tup (pa_cons (pe_callD d_law_take (hr.mono (by decide)) (by rfl) (pa_cons (pv 1) (pa_cons pe_int pa_nil))) (pa_cons (pv 2) (pa_cons (pe_callD d_law_take (hr.mono (by decide)) (by rfl) (pa_cons (pv 1) (pa_cons pe_int pa_nil))) pa_nil)))))
      (pss_one (ps_if (pt_not (pt_val (pe_callG d_law_taken gd (hr.mono (by decide)) (by rfl) (pa_cons (pe_callD d_law_walk_row (hr.mono (by decide)) (by rfl) (pa_cons (pe_tup (pa_cons (pe_callD d_law_take (hr.mono (by decide)) (by rfl) (pa_cons (pv 1) (pa_cons pe_int pa_nil))) (pa_cons (pv 3) (pa_cons pe_int pa_nil)))) pa_nil)) (pa_cons (pe_callD d_law_walk_row (hr.mono (by decide)) (by rfl) (pa_cons (pv 4) pa_nil)) pa_nil))))) (pss_one (ps_ret pe_bl)) pss_nil))))))
      (pss_cons (ps_for PassesOwn.never rfl (pi_range1 (by rfl) B.range (pa_cons (pe_callB (call_max2N rfl) (by rfl) B.max bt_max (pa_cons pe_int (pa_cons (pe_callB (call_min2N rfl) (by rfl) B.min bt_min (pa_cons (pe_callB call_len_seq (by rfl) B.len bt_len (pa_cons (pv 0) pa_nil)) (pa_cons pe_int pa_nil))) pa_nil))) pa_nil)) (pg_name (i := 5) sc_law.nd rfl (.inl rfl)) (pss_cons (ps_set (i := 6) sc_law.nd rfl (.inr rfl) (pe_callD d_law_bag (hr.mono (by decide)) (by rfl) (pa_cons (pe_callD d_law_number (hr.mono (by decide)) (by rfl) (pa_cons (pv 0) (pa_cons (pv 5) pa_nil))) pa_nil)))
      (pss_one (ps_if (pt_not (pt_val (pe_callB (cr_all rfl) (by rfl) B.all bt_all (pa_cons (pe_lc (own := [("_law_turn", 7)]) (g := gName 7) (tt := tYes) rfl sc_law.nd (pi_range1 (by rfl) B.range (pa_cons pe_int pa_nil)) (blkOk_by (N := sc_lawN) (sc := defScope s_law) (by decide +kernel)) (fun _ _ _ _ _ => (pg_name (i := 7) sc_law.nd rfl (.inl rfl))) (fun _ _ _ _ _ => pts_nil) (fun _ _ _ _ _ => (pe_callG d_law_any_right gd (hr.mono (by decide)) (by rfl) (pa_cons (pv 6) pa_nil)))) pa_nil)))) (pss_one (ps_ret pe_bl)) pss_nil))))
      (pss_one (ps_ret pe_bl))))), ?_⟩
    refine ⟨_, rfl, _, _, _, rfl, hS, (by walk_at "ob"), (by walk_at "ob"), (by walk_at "ob"), fun n1 H1 S1 => ?_⟩
    refine ⟨_, rfl, fun p2 H2 S2 np2 hp2 => ?_⟩
    refine ⟨_, rfl, (by walk_at "ob"), (by walk_at "ob"), for_range (fun i σ H' => ∃ y2 y3 y4, Same H H' ∧ Bag H' p2 ∧ σ = [some (.ref a), some (.ref p2), y2, y3, y4, none, none, none]) ⟨none, none, none, (((Same.refl H).trans S1).trans S2), hp2, rfl⟩ ?_ ?_⟩
    · rintro i σ H' hi ⟨y2, y3, y4, S', hb, rfl⟩
      refine ⟨_, rfl, .inl ⟨_, rfl, _, _, rfl, rfl, (by walk_at "ob"), _, rfl, _, rfl, _, _, rfl, hb, (by walk_at "ob"), (by walk_at "ob"), fun d3 H3 da3 db3 X3 hp3 => ?_⟩⟩
      refine ⟨_, rfl, _, _, rfl, hp3, (by walk_at "ob"), (by walk_at "ob"), fun d4 H4 da4 db4 X4 hp4 => ?_⟩
      refine ⟨(by show 3 ≤ sizeLine; decide), fun t5 nt5 => ?_⟩
      refine ⟨_, _, rfl, _, rfl, _, rfl, _, _, rfl, (Bag.same (same_upd nt5) hp4), (by walk_at "ob"), (by walk_at "ob"), fun d6 H6 da6 db6 X6 hp6 => ?_⟩
      refine ⟨(by show 3 ≤ sizeLine; decide), fun t7 nt7 => ?_⟩
      refine ⟨_, _, _, _, rfl, SqT.new, ⟨by walk_at "ob", by walk_at "ob", by walk_at "ob", by walk_at "ob"⟩, fun H8 S8 => ?_⟩
      refine ⟨_, rfl, _, _, _, _, rfl, (seqT S8 (seqT (same_upd nt7) (Bag.xT X6 (Bag.same (same_upd nt5) hp4) SqT.new))), ⟨by walk_at "ob", by walk_at "ob", by walk_at "ob", by walk_at "ob"⟩, fun H9 S9 => ?_⟩
      refine ⟨_, _, rfl, (row_T rows12 (by omega) (by omega) (by omega) (by omega) (by omega) (by omega)), (row_T rows18 (by omega) (by omega) (by omega) (by omega) (by omega) (by omega)), fun H10 S10 => ?_⟩
      refine ⟨_, rfl, ?_⟩
      refine iteF' (rfl) ?_
      refine ⟨_, rfl, _, _, rfl, (Bag.same S10 (Bag.same S9 (Bag.same S8 (Bag.same (same_upd nt7) hp6)))), (by walk_at "ob"), (by walk_at "ob"), fun d11 H11 da11 db11 X11 hp11 => ?_⟩
      refine ⟨_, rfl, _, rfl, _, _, rfl, hp11, (by walk_at "ob"), (by walk_at "ob"), fun d12 H12 da12 db12 X12 hp12 => ?_⟩
      refine ⟨(by show 3 ≤ sizeLine; decide), fun t13 nt13 => ?_⟩
      refine ⟨_, rfl, _, _, rfl, (Bag.same (same_upd nt13) hp12), (by walk_at "ob"), (by walk_at "ob"), fun d14 H14 da14 db14 X14 hp14 => ?_⟩
      refine ⟨_, rfl, (by show 3 ≤ sizeLine; decide), fun t15 nt15 => ?_⟩
      refine ⟨_, _, _, _, rfl, SqT.new, ⟨by walk_at "ob", by walk_at "ob", by walk_at "ob", by walk_at "ob"⟩, fun H16 S16 => ?_⟩
      refine ⟨_, rfl, _, _, _, _, rfl, (seqT S16 (seqT (same_upd nt15) (Bag.xT X14 (Bag.same (same_upd nt13) hp12) SqT.new))), ⟨by walk_at "ob", by walk_at "ob", by walk_at "ob", by walk_at "ob"⟩, fun H17 S17 => ?_⟩
      refine ⟨_, _, rfl, (row_T rows12 (by omega) (by omega) (by omega) (by omega) (by omega) (by omega)), (row_T rows18 (by omega) (by omega) (by omega) (by omega) (by omega) (by omega)), fun H18 S18 => ?_⟩
      refine ⟨_, rfl, ?_⟩
      refine iteF' (rfl) ?_
      exact ⟨_, _, _, (((((SameX.same (S1.free np2) ((SameX.same (S1.free np2) (SameX.same (S1.free np2) (((((SameX.same (S1.free np2) ((SameX.same (S1.free np2) (SameX.same (S1.free np2) S' X3) X4).trans (same_upd nt5)) X6).trans (same_upd nt7)).trans S8).trans S9).trans S10) X11) X12).trans (same_upd nt13)) X14).trans (same_upd nt15)).trans S16).trans S17).trans S18), (Bag.same S18 (Bag.same S17 (Bag.same S16 (Bag.same (same_upd nt15) hp14)))), rfl⟩
    · rintro σ H' ⟨y2, y3, y4, S', hb, rfl⟩
      refine ⟨_, rfl, _, _, rfl, .inl (seqL S' hS), _, _, rfl, fun x19 x19a x19b x19c => ?_⟩
      refine ⟨_, _, rfl, fun x20 x20a x20b x20c => ?_⟩
      refine ⟨_, rfl, (by walk_at "ob"), (by walk_at "ob"), for_range (fun i σ H' => ∃ y5 y6, Same H H' ∧ σ = [some (.ref a), some (.ref p2), y2, y3, y4, y5, y6, none]) ⟨none, none, S', rfl⟩ ?_ ?_⟩
      · rintro i σ H'' hi ⟨y5, y6, S'', rfl⟩
        refine ⟨_, rfl, _, rfl, _, _, _, rfl, (seqL S'' hS), (by walk_at "ob"), (by walk_at "ob"), (by walk_at "ob"), fun n21 H21 S21 => ?_⟩
        refine ⟨_, rfl, fun p22 H22 S22 np22 hp22 => ?_⟩
        have BA : Bag _ p22 := hp22
        have SA : Same H _ := ((S''.trans S21).trans S22)
        have FA : H p22 = none := ((S''.trans S21).free np22)
        refine ⟨_, rfl, by omega, by omega, fun DA nDA => ?_⟩
        have neA : p22 ≠ DA := by
          intro z
          obtain ⟨_, _, _, hz, _⟩ := BA
          rw [z, nDA] at hz
          cases hz
        refine lc_range (fun i H' => Same H H' ∧ Bag H' p22 ∧ H' DA = some (.lst (List.replicate i (V.bl true)))) ⟨SA.trans (same_upd nDA), BA.same (same_upd nDA), upd_same⟩ (fun iA HA hiA hA => ?_) (fun HA hA => ?_)
        · refine ⟨rfl, _, rfl, p22, rfl, hA.2.1, fun H4 X4 B4 => ?_⟩
          refine ⟨_, X4 _ _ neA.symm hA.2.2, by rw [List.length_replicate]; exact small1000 (by omega), ?_, ?_, ?_⟩
          · intro b o e
            rw [upd_ne (ne_of_none e (SA.free nDA))]
            exact X4 _ _ (ne_of_none e FA) (hA.1 _ _ e)
          · obtain ⟨m, d, c, hz, rz⟩ := B4
            exact ⟨m, d, c, by rw [upd_ne neA]; exact hz, rz⟩
          · rw [upd_same, List.replicate_succ']
        refine ⟨DA, List.replicate _ true, rfl, .inl (.inl (by rw [List.map_replicate]; exact hA.2.2)), ?_⟩
        refine ⟨_, rfl, ?_⟩
        refine iteF' ((by rw [all_rep]; rfl)) ?_
        exact ⟨_, _, hA.1, rfl⟩
      · rintro σ H'' ⟨y5, y6, S'', rfl⟩
        exact q _
end
theorem all_mk {l : PySem.W.OpenLaw} {w : World} {K : PySem.W.Frag} {h : Heap} {mg : Str → Option Value} {fa : Addr} (X : K.In h) (Gn : h.Ns mainGlobals mg) (hfa : mg "law" = some (.ref fa))
    {f0 : Addr} {od0 an0 : Option Addr} {sl0 : Array (Option Value)} {oc0 kV0 dc0 pm0 cd0 ct0 : Value}
    (a0 : PySem.W.nsIn K mainGlobals "is_bound" = some (some (.ref f0))) (l0 : K.lookup f0 = some ⟨oc0, od0, .func (PySem.W.fnOf "is_bound" "is_bound" (defArgs s_is_bound) (defBody s_is_bound) (defScope s_is_bound) .none kV0 dc0 pm0 an0 cd0 ct0), sl0⟩) (c0 : PySem.W.codeIn K cd0 "is_bound" = true) (k0 : PySem.W.keepIn K (.ref f0) = true)
    {f1 : Addr} {od1 an1 : Option Addr} {sl1 : Array (Option Value)} {oc1 kV1 dc1 pm1 cd1 ct1 : Value}
    (a1 : PySem.W.nsIn K mainGlobals "is_loop" = some (some (.ref f1))) (l1 : K.lookup f1 = some ⟨oc1, od1, .func (PySem.W.fnOf "is_loop" "is_loop" (defArgs s_is_loop) (defBody s_is_loop) (defScope s_is_loop) .none kV1 dc1 pm1 an1 cd1 ct1), sl1⟩) (c1 : PySem.W.codeIn K cd1 "is_loop" = true) (k1 : PySem.W.keepIn K (.ref f1) = true)
    {f2 : Addr} {od2 an2 : Option Addr} {sl2 : Array (Option Value)} {oc2 kV2 dc2 pm2 cd2 ct2 : Value}
    (a2 : PySem.W.nsIn K mainGlobals "_law_number" = some (some (.ref f2))) (l2 : K.lookup f2 = some ⟨oc2, od2, .func (PySem.W.fnOf "_law_number" "_law_number" (defArgs s_law_number) (defBody s_law_number) (defScope s_law_number) .none kV2 dc2 pm2 an2 cd2 ct2), sl2⟩) (c2 : PySem.W.codeIn K cd2 "_law_number" = true) (k2 : PySem.W.keepIn K (.ref f2) = true)
    {f3 : Addr} {od3 an3 : Option Addr} {sl3 : Array (Option Value)} {oc3 kV3 dc3 pm3 cd3 ct3 : Value}
    (a3 : PySem.W.nsIn K mainGlobals "_law_bag" = some (some (.ref f3))) (l3 : K.lookup f3 = some ⟨oc3, od3, .func (PySem.W.fnOf "_law_bag" "_law_bag" (defArgs s_law_bag) (defBody s_law_bag) (defScope s_law_bag) .none kV3 dc3 pm3 an3 cd3 ct3), sl3⟩) (c3 : PySem.W.codeIn K cd3 "_law_bag" = true) (k3 : PySem.W.keepIn K (.ref f3) = true)
    {f4 : Addr} {od4 an4 : Option Addr} {sl4 : Array (Option Value)} {oc4 kV4 dc4 pm4 cd4 ct4 : Value}
    (a4 : PySem.W.nsIn K mainGlobals "_law_take" = some (some (.ref f4))) (l4 : K.lookup f4 = some ⟨oc4, od4, .func (PySem.W.fnOf "_law_take" "_law_take" (defArgs s_law_take) (defBody s_law_take) (defScope s_law_take) .none kV4 dc4 pm4 an4 cd4 ct4), sl4⟩) (c4 : PySem.W.codeIn K cd4 "_law_take" = true) (k4 : PySem.W.keepIn K (.ref f4) = true)
    {f5 : Addr} {od5 an5 : Option Addr} {sl5 : Array (Option Value)} {oc5 kV5 dc5 pm5 cd5 ct5 : Value}
    (a5 : PySem.W.nsIn K mainGlobals "_law_edge_row" = some (some (.ref f5))) (l5 : K.lookup f5 = some ⟨oc5, od5, .func (PySem.W.fnOf "_law_edge_row" "_law_edge_row" (defArgs s_law_edge_row) (defBody s_law_edge_row) (defScope s_law_edge_row) .none kV5 dc5 pm5 an5 cd5 ct5), sl5⟩) (c5 : PySem.W.codeIn K cd5 "_law_edge_row" = true) (k5 : PySem.W.keepIn K (.ref f5) = true)
    {f6 : Addr} {od6 an6 : Option Addr} {sl6 : Array (Option Value)} {oc6 kV6 dc6 pm6 cd6 ct6 : Value}
    (a6 : PySem.W.nsIn K mainGlobals "_law_walk_row" = some (some (.ref f6))) (l6 : K.lookup f6 = some ⟨oc6, od6, .func (PySem.W.fnOf "_law_walk_row" "_law_walk_row" (defArgs s_law_walk_row) (defBody s_law_walk_row) (defScope s_law_walk_row) .none kV6 dc6 pm6 an6 cd6 ct6), sl6⟩) (c6 : PySem.W.codeIn K cd6 "_law_walk_row" = true) (k6 : PySem.W.keepIn K (.ref f6) = true)
    {f7 : Addr} {od7 an7 : Option Addr} {sl7 : Array (Option Value)} {oc7 kV7 dc7 pm7 cd7 ct7 : Value}
    (a7 : PySem.W.nsIn K mainGlobals "_law_taken" = some (some (.ref f7))) (l7 : K.lookup f7 = some ⟨oc7, od7, .func (PySem.W.fnOf "_law_taken" "_law_taken" (defArgs s_law_taken) (defBody s_law_taken) (defScope s_law_taken) .none kV7 dc7 pm7 an7 cd7 ct7), sl7⟩) (c7 : PySem.W.codeIn K cd7 "_law_taken" = true) (k7 : PySem.W.keepIn K (.ref f7) = true)
    {f8 : Addr} {od8 an8 : Option Addr} {sl8 : Array (Option Value)} {oc8 kV8 dc8 pm8 cd8 ct8 : Value}
    (a8 : PySem.W.nsIn K mainGlobals "_law_any_right" = some (some (.ref f8))) (l8 : K.lookup f8 = some ⟨oc8, od8, .func (PySem.W.fnOf "_law_any_right" "_law_any_right" (defArgs s_law_any_right) (defBody s_law_any_right) (defScope s_law_any_right) .none kV8 dc8 pm8 an8 cd8 ct8), sl8⟩) (c8 : PySem.W.codeIn K cd8 "_law_any_right" = true) (k8 : PySem.W.keepIn K (.ref f8) = true)
    {f9 : Addr} {od9 an9 : Option Addr} {sl9 : Array (Option Value)} {oc9 kV9 dc9 pm9 cd9 ct9 : Value}
    (a9 : PySem.W.nsIn K mainGlobals "law" = some (some (.ref f9))) (l9 : K.lookup f9 = some ⟨oc9, od9, .func (PySem.W.fnOf "law" "law" (defArgs s_law) (defBody s_law) (defScope s_law) .none kV9 dc9 pm9 an9 cd9 ct9), sl9⟩) (c9 : PySem.W.codeIn K cd9 "law" = true) (k9 : PySem.W.keepIn K (.ref f9) = true)
    (z0 : PySem.W.nsIn K mainGlobals "len" = some none)
    (z1 : PySem.W.nsIn K mainGlobals "isinstance" = some none)
    (z2 : PySem.W.nsIn K mainGlobals "abs" = some none)
    (z3 : PySem.W.nsIn K mainGlobals "min" = some none)
    (z4 : PySem.W.nsIn K mainGlobals "max" = some none)
    (z5 : PySem.W.nsIn K mainGlobals "all" = some none)
    (z6 : PySem.W.nsIn K mainGlobals "divmod" = some none)
    (z7 : PySem.W.nsIn K mainGlobals "repr" = some none)
    (z8 : PySem.W.nsIn K mainGlobals "int" = some none)
    (z9 : PySem.W.nsIn K mainGlobals "bool" = some none)
    (z10 : PySem.W.nsIn K mainGlobals "set" = some none)
    (z11 : PySem.W.nsIn K mainGlobals "str" = some none)
    (z12 : PySem.W.nsIn K mainGlobals "range" = some none)
    (z13 : PySem.W.nsIn K mainGlobals "enumerate" = some none)
    {dO dI : Addr} {eO eI : Array DictEntry} {zO zI : Nat}
    (gO : PySem.W.nsIn K mainGlobals "OUTER" = some (some (.ref dO))) (lO : K.lookup dO = some ⟨.type "dict", none, .dict eO zO, #[]⟩) (kO : PySem.W.KeysLit w.params eO.toList) (wO : (dO == sysModules) = false) (hO : keysOf eO.toList = outerW)
    (gI : PySem.W.nsIn K mainGlobals "INNER" = some (some (.ref dI))) (lI : K.lookup dI = some ⟨.type "dict", none, .dict eI zI, #[]⟩) (kI' : PySem.W.KeysLit w.params eI.toList) (wI : (dI == sysModules) = false) (hI : keysOf eI.toList = innerW)
    {CN pN1 pN2 pN3 : Addr} {rN1 rN2 rN3 : List Value}
    (nC : PySem.W.nsIn K mainGlobals "Nest" = some (some (.ref CN)))
    {fN0 : Addr} {odN0 anN0 : Option Addr} {slN0 : Array (Option Value)} {ocN0 kVN0 dcN0 pmN0 cdN0 ctN0 : Value}
    (na0 : PySem.W.findIn K (.ref CN) "__init__" = some (some (.ref fN0)))
    (ni0 : PySem.W.isFn K (.ref fN0) = true)
    (nl0 : K.lookup fN0 = some ⟨ocN0, odN0, .func (PySem.W.fnOf "__init__" "Nest.__init__" (defArgs (sNest 0)) (defBody (sNest 0)) (defScope (sNest 0)) .none kVN0 dcN0 pmN0 anN0 cdN0 ctN0), slN0⟩)
    (nc0 : PySem.W.codeIn K cdN0 "Nest.__init__" = true)
    (nk0 : PySem.W.keepIn K (.ref fN0) = true)
    {fN1 : Addr} {odN1 anN1 : Option Addr} {slN1 : Array (Option Value)} {ocN1 kVN1 dcN1 pmN1 cdN1 ctN1 : Value}
    (na1 : PySem.W.findIn K (.ref CN) "outer" = some (some (.ref pN1)))
    (nr1 : PySem.W.recIn K pN1 "property" = some (.ref fN1 :: rN1))
    (ng1 : PySem.W.specialIn K (.ref pN1) "__get__" = some (some (.builtin "property.__get__")))
    (nt1 : PySem.W.takesIn K (.ref pN1) = some true)
    (nl1 : K.lookup fN1 = some ⟨ocN1, odN1, .func (PySem.W.fnOf "outer" "Nest.outer" (defArgs (sNest 1)) (defBody (sNest 1)) (defScope (sNest 1)) .none kVN1 dcN1 pmN1 anN1 cdN1 ctN1), slN1⟩)
    (nc1 : PySem.W.codeIn K cdN1 "Nest.outer" = true)
    (nk1 : PySem.W.keepIn K (.ref fN1) = true)
    {fN2 : Addr} {odN2 anN2 : Option Addr} {slN2 : Array (Option Value)} {ocN2 kVN2 dcN2 pmN2 cdN2 ctN2 : Value}
    (na2 : PySem.W.findIn K (.ref CN) "inner" = some (some (.ref pN2)))
    (nr2 : PySem.W.recIn K pN2 "property" = some (.ref fN2 :: rN2))
    (ng2 : PySem.W.specialIn K (.ref pN2) "__get__" = some (some (.builtin "property.__get__")))
    (nt2 : PySem.W.takesIn K (.ref pN2) = some true)
    (nl2 : K.lookup fN2 = some ⟨ocN2, odN2, .func (PySem.W.fnOf "inner" "Nest.inner" (defArgs (sNest 2)) (defBody (sNest 2)) (defScope (sNest 2)) .none kVN2 dcN2 pmN2 anN2 cdN2 ctN2), slN2⟩)
    (nc2 : PySem.W.codeIn K cdN2 "Nest.inner" = true)
    (nk2 : PySem.W.keepIn K (.ref fN2) = true)
    {fN3 : Addr} {odN3 anN3 : Option Addr} {slN3 : Array (Option Value)} {ocN3 kVN3 dcN3 pmN3 cdN3 ctN3 : Value}
    (na3 : PySem.W.findIn K (.ref CN) "deeds" = some (some (.ref pN3)))
    (nr3 : PySem.W.recIn K pN3 "property" = some (.ref fN3 :: rN3))
    (ng3 : PySem.W.specialIn K (.ref pN3) "__get__" = some (some (.builtin "property.__get__")))
    (nt3 : PySem.W.takesIn K (.ref pN3) = some true)
    (nl3 : K.lookup fN3 = some ⟨ocN3, odN3, .func (PySem.W.fnOf "deeds" "Nest.deeds" (defArgs (sNest 3)) (defBody (sNest 3)) (defScope (sNest 3)) .none kVN3 dcN3 pmN3 anN3 cdN3 ctN3), slN3⟩)
    (nc3 : PySem.W.codeIn K cdN3 "Nest.deeds" = true)
    (nk3 : PySem.W.keepIn K (.ref fN3) = true)
    {fN4 : Addr} {odN4 anN4 : Option Addr} {slN4 : Array (Option Value)} {ocN4 kVN4 dcN4 pmN4 cdN4 ctN4 : Value}
    (na4 : PySem.W.findIn K (.ref CN) "__len__" = some (some (.ref fN4)))
    (ni4 : PySem.W.isFn K (.ref fN4) = true)
    (nl4 : K.lookup fN4 = some ⟨ocN4, odN4, .func (PySem.W.fnOf "__len__" "Nest.__len__" (defArgs (sNest 4)) (defBody (sNest 4)) (defScope (sNest 4)) .none kVN4 dcN4 pmN4 anN4 cdN4 ctN4), slN4⟩)
    (nc4 : PySem.W.codeIn K cdN4 "Nest.__len__" = true)
    (nk4 : PySem.W.keepIn K (.ref fN4) = true)
    {fN5 : Addr} {odN5 anN5 : Option Addr} {slN5 : Array (Option Value)} {ocN5 kVN5 dcN5 pmN5 cdN5 ctN5 : Value}
    (na5 : PySem.W.findIn K (.ref CN) "__bool__" = some (some (.ref fN5)))
    (ni5 : PySem.W.isFn K (.ref fN5) = true)
    (nl5 : K.lookup fN5 = some ⟨ocN5, odN5, .func (PySem.W.fnOf "__bool__" "Nest.__bool__" (defArgs (sNest 5)) (defBody (sNest 5)) (defScope (sNest 5)) .none kVN5 dcN5 pmN5 anN5 cdN5 ctN5), slN5⟩)
    (nc5 : PySem.W.codeIn K cdN5 "Nest.__bool__" = true)
    (nk5 : PySem.W.keepIn K (.ref fN5) = true)
    {fN6 : Addr} {odN6 anN6 : Option Addr} {slN6 : Array (Option Value)} {ocN6 kVN6 dcN6 pmN6 cdN6 ctN6 : Value}
    (na6 : PySem.W.findIn K (.ref CN) "__eq__" = some (some (.ref fN6)))
    (ni6 : PySem.W.isFn K (.ref fN6) = true)
    (nl6 : K.lookup fN6 = some ⟨ocN6, odN6, .func (PySem.W.fnOf "__eq__" "Nest.__eq__" (defArgs (sNest 6)) (defBody (sNest 6)) (defScope (sNest 6)) .none kVN6 dcN6 pmN6 anN6 cdN6 ctN6), slN6⟩)
    (nc6 : PySem.W.codeIn K cdN6 "Nest.__eq__" = true)
    (nk6 : PySem.W.keepIn K (.ref fN6) = true)
    (npg : PySem.W.plainGet K CN Str.empty = true)
    (nhd : PySem.W.hasDictIn K CN = true)
    (npo : PySem.W.plainOver K CN = true)
    (nsa : PySem.W.findIn K (.ref CN) "__setattr__" = some (some (.builtin "object.__setattr__")))
    (nmk : PySem.W.makesIn K CN = true)
    (nkc : PySem.W.keepIn K (.ref CN) = true)
    (nha : PySem.W.findIn K (.ref CN) "__class__" = some (some (.builtin "object.__class__")))
    (nhn : PySem.W.specialIn K (.builtin "object.__class__") "__get__" = some (some (.builtin "getset_descriptor.__get__")))
    (ntk : PySem.W.takesIn K (.builtin "object.__class__") = some true)
    (nhm : PySem.W.mroIn K CN (.type "object") = some true)
    (nn1 : PySem.W.findIn K (.ref CN) "over" = some none)
    (nn2 : PySem.W.findIn K (.ref CN) "below" = some none)
    (nn3 : PySem.W.findIn K (.ref CN) "texts" = some none)
    (nn4 : PySem.W.findIn K (.ref CN) "parsed" = some none)
    (nne : PySem.W.findIn K (.ref CN) "__ne__" = some (some (.builtin "object.__ne__"))) :
    ∃ fd : FuncData, (∀ (s : Shared) (v : Value), BindsTo s fd ⟨[v], []⟩ [("_law_script", v)]) ∧ ∀ base : Heap, K.In base → base.Ns mainGlobals mg → FnG l.prog w K mg base 7 fa fd ["_law_script"] (sp_law K) := by
  have e := hfa.symm.trans (PySem.W.mg_of X Gn a9)
  cases e
  have F0 := fun_mk (st := s_is_bound) l0 c0 k0
  have b0 := F0.binds (ps := ["word", "inner"]) fun _ _ _ _ _ _ us hl => match us, hl with | [_, _], _ => rfl
  have F1 := fun_mk (st := s_is_loop) l1 c1 k1
  have b1 := F1.binds (ps := ["value", "inner"]) fun _ _ _ _ _ _ us hl => match us, hl with | [_, _], _ => rfl
  have F2 := fun_mk (st := s_law_number) l2 c2 k2
  have b2 := F2.binds (ps := ["_law_script", "_law_k"]) fun _ _ _ _ _ _ us hl => match us, hl with | [_, _], _ => rfl
  have F3 := fun_mk (st := s_law_bag) l3 c3 k3
  have b3 := F3.binds (ps := ["_law_number_here"]) fun _ _ _ _ _ _ us hl => match us, hl with | [_], _ => rfl
  have F4 := fun_mk (st := s_law_take) l4 c4 k4
  have b4 := F4.binds (ps := ["_law_bag_here", "_law_many"]) fun _ _ _ _ _ _ us hl => match us, hl with | [_, _], _ => rfl
  have F5 := fun_mk (st := s_law_edge_row) l5 c5 k5
  have b5 := F5.binds (ps := ["_law_bound"]) fun _ _ _ _ _ _ us hl => match us, hl with | [_], _ => rfl
  have F6 := fun_mk (st := s_law_walk_row) l6 c6 k6
  have b6 := F6.binds (ps := ["_law_walk"]) fun _ _ _ _ _ _ us hl => match us, hl with | [_], _ => rfl
  have F7 := fun_mk (st := s_law_taken) l7 c7 k7
  have b7 := F7.binds (ps := ["_law_first", "_law_second"]) fun _ _ _ _ _ _ us hl => match us, hl with | [_, _], _ => rfl
  have F8 := fun_mk (st := s_law_any_right) l8 c8 k8
  have b8 := F8.binds (ps := ["_law_bag_here"]) fun _ _ _ _ _ _ us hl => match us, hl with | [_], _ => rfl
  have F9 := fun_mk (st := s_law) l9 c9 k9
  have B : Blt mg := ⟨PySem.W.mg_none_of X Gn z0, PySem.W.mg_none_of X Gn z1, PySem.W.mg_none_of X Gn z2, PySem.W.mg_none_of X Gn z3, PySem.W.mg_none_of X Gn z4, PySem.W.mg_none_of X Gn z5, PySem.W.mg_none_of X Gn z6, PySem.W.mg_none_of X Gn z7, PySem.W.mg_none_of X Gn z8, PySem.W.mg_none_of X Gn z9, PySem.W.mg_none_of X Gn z10, PySem.W.mg_none_of X Gn z11, PySem.W.mg_none_of X Gn z12, PySem.W.mg_none_of X Gn z13⟩
  have G : Glb w K mg := ⟨⟨dO, eO, zO, PySem.W.mg_of X Gn gO, ⟨lO, kO, wO⟩, hO⟩, ⟨dI, eI, zI, PySem.W.mg_of X Gn gI, ⟨lI, kI', wI⟩, hI⟩⟩
  refine ⟨PySem.W.fnOf "law" "law" (defArgs s_law) (defBody s_law) (defScope s_law) .none kV9 dc9 pm9 an9 cd9 ct9, fun s v => .of_eq rfl, fun base _ _ => ?_⟩
  have d_is_bound : DefOk l.prog w K mg base 1 "is_bound" ["word", "inner"] sp_is_bound := ok_is_bound B G ⟨f0, _, F0, b0, PySem.W.mg_of X Gn a0⟩ 
  have d_is_loop : DefOk l.prog w K mg base 2 "is_loop" ["value", "inner"] sp_is_loop := ok_is_loop B G ⟨f1, _, F1, b1, PySem.W.mg_of X Gn a1⟩ d_is_bound
  have TN : NestC K mg CN := ⟨PySem.W.mg_of X Gn nC, ⟨⟨npg, nhd, npo, nsa⟩, nha, nhn, ntk, nhm, if_pos (beq_self_eq_true _)⟩, nn1, nn2, nn3, nn4⟩
  have FN0 := fun_mk (st := sNest 0) nl0 nc0 nk0
  have FN1 := fun_mk (st := sNest 1) nl1 nc1 nk1
  have FN2 := fun_mk (st := sNest 2) nl2 nc2 nk2
  have FN3 := fun_mk (st := sNest 3) nl3 nc3 nk3
  have FN4 := fun_mk (st := sNest 4) nl4 nc4 nk4
  have FN5 := fun_mk (st := sNest 5) nl5 nc5 nk5
  have FN6 := fun_mk (st := sNest 6) nl6 nc6 nk6
  have bN1 := FN1.binds (ps := ["self"]) fun _ _ _ _ _ _ us hl => match us, hl with | [_], _ => rfl
  have bN2 := FN2.binds (ps := ["self"]) fun _ _ _ _ _ _ us hl => match us, hl with | [_], _ => rfl
  have bN3 := FN3.binds (ps := ["self"]) fun _ _ _ _ _ _ us hl => match us, hl with | [_], _ => rfl
  have bN4 := FN4.binds (ps := ["self"]) fun _ _ _ _ _ _ us hl => match us, hl with | [_], _ => rfl
  have bN5 := FN5.binds (ps := ["self"]) fun _ _ _ _ _ _ us hl => match us, hl with | [_], _ => rfl
  have bN6 := FN6.binds (ps := ["self", "other"]) fun _ _ _ _ _ _ us hl => match us, hl with | [_, _], _ => rfl
  have wN : Body l.prog w K mg base "Nest.__init__" (sNest 0) fN0 nestN 2 (sp_nest0 K CN) := body_nest0 B TN d_is_loop
  have NOK : NestOk l.prog w K mg base CN := ⟨TN, ⟨fN0, ⟨nmk, na0, ni0, nkc⟩, nest_star FN0 wN, nest_kw FN0 wN⟩, ⟨pN1, fN1, _, ⟨na1, ng1, nt1, _, nr1⟩, ok_nouter TN FN1, bN1⟩, ⟨pN2, fN2, _, ⟨na2, ng2, nt2, _, nr2⟩, ok_ninner TN FN2, bN2⟩, ⟨pN3, fN3, _, ⟨na3, ng3, nt3, _, nr3⟩, ok_ndeeds TN FN3, bN3⟩, ⟨fN4, _, na4, ni4, bN4, ok_nlen B TN FN4⟩, ⟨fN5, _, na5, ni5, bN5, ok_nbool FN5⟩, ⟨fN6, _, na6, ni6, bN6, ok_neq B TN FN6⟩, nne⟩
  have d_law_number : DefOk l.prog w K mg base 1 "_law_number" ["_law_script", "_law_k"] (sp_law_number K) := ok_law_number B G ⟨f2, _, F2, b2, PySem.W.mg_of X Gn a2⟩ 
  have d_law_bag : DefOk l.prog w K mg base 1 "_law_bag" ["_law_number_here"] sp_law_bag := ok_law_bag B G ⟨f3, _, F3, b3, PySem.W.mg_of X Gn a3⟩ 
  have d_law_take : DefOk l.prog w K mg base 1 "_law_take" ["_law_bag_here", "_law_many"] sp_law_take := ok_law_take B G ⟨f4, _, F4, b4, PySem.W.mg_of X Gn a4⟩ 
  have d_law_edge_row : DefOk l.prog w K mg base 1 "_law_edge_row" ["_law_bound"] sp_law_edge_row := ok_law_edge_row B G ⟨f5, _, F5, b5, PySem.W.mg_of X Gn a5⟩ 
  have d_law_walk_row : DefOk l.prog w K mg base 2 "_law_walk_row" ["_law_walk"] (sp_law_walk_row K) := ok_law_walk_row B G ⟨f6, _, F6, b6, PySem.W.mg_of X Gn a6⟩ d_law_edge_row
  have d_law_taken : DefG l.prog w K mg base 5 "_law_taken" ["_law_first", "_law_second"] sp_law_taken := ok_law_taken B G NOK ⟨f7, _, F7, b7, PySem.W.mg_of X Gn a7⟩ 
  have d_law_any_right : DefG l.prog w K mg base 6 "_law_any_right" ["_law_bag_here"] sp_law_any_right := ok_law_any_right B G ⟨f8, _, F8, b8, PySem.W.mg_of X Gn a8⟩ d_law_take d_law_taken d_law_walk_row
  exact ok_law B G F9 d_law_bag d_law_number d_law_take d_law_taken d_law_walk_row d_law_any_right
end Sq
open PySem PySem.W PyProof.Rows
set_option maxRecDepth 100000 in
set_option maxHeartbeats 0 in
theorem PySem.Challenge.cw_squareloops_k02_loops_of_nests_holds : PySem.Challenge.rw_squareloops_k02_loops_of_nests.Holds := by
  w_on; o_law; k_head; (case hw => w_witness2)
  k_fill
  refine Sq.walk_goes (l := PySem.Challenge.rw_squareloops_k02_loops_of_nests) (n := 63) (k := 7) (x := "_law_script") (sp := fun w => Sq.sp_law _) rfl (by decide) rfl ⟨rfl, by decide, by decide⟩ (fun w h Y => PySem.W.kIn_of Y) ?F (fun _ _ a ns hl _ hS => ⟨a, ns, rfl, hS, hl, fun _ => rfl⟩)
  case F =>
    intro w mg fa h KX G hmg
    refine' Sq.all_mk KX G hmg ?a0 ?l0 ?c0 ?k0 ?a1 ?l1 ?c1 ?k1 ?a2 ?l2 ?c2 ?k2 ?a3 ?l3 ?c3 ?k3 ?a4 ?l4 ?c4 ?k4 ?a5 ?l5 ?c5 ?k5 ?a6 ?l6 ?c6 ?k6 ?a7 ?l7 ?c7 ?k7 ?a8 ?l8 ?c8 ?k8 ?a9 ?l9 ?c9 ?k9 ?z0 ?z1 ?z2 ?z3 ?z4 ?z5 ?z6 ?z7 ?z8 ?z9 ?z10 ?z11 ?z12 ?z13 ?gO ?lO ?kO ?wO ?hO ?gI ?lI ?kI' ?wI ?hI ?nC ?na0 ?ni0 ?nl0 ?nc0 ?nk0 ?na1 ?nr1 ?ng1 ?nt1 ?nl1 ?nc1 ?nk1 ?na2 ?nr2 ?ng2 ?nt2 ?nl2 ?nc2 ?nk2 ?na3 ?nr3 ?ng3 ?nt3 ?nl3 ?nc3 ?nk3 ?na4 ?ni4 ?nl4 ?nc4 ?nk4 ?na5 ?ni5 ?nl5 ?nc5 ?nk5 ?na6 ?ni6 ?nl6 ?nc6 ?nk6 ?npg ?nhd ?npo ?nsa ?nmk ?nkc ?nha ?nhn ?ntk ?nhm ?nn1 ?nn2 ?nn3 ?nn4 ?nne
    (case a0 => k_is); (case l0 => k_is); (case c0 => k_is); (case k0 => k_is)
    (case a1 => k_is); (case l1 => k_is); (case c1 => k_is); (case k1 => k_is)
    (case a2 => k_is); (case l2 => k_is); (case c2 => k_is); (case k2 => k_is)
    (case a3 => k_is); (case l3 => k_is); (case c3 => k_is); (case k3 => k_is)
    (case a4 => k_is); (case l4 => k_is); (case c4 => k_is); (case k4 => k_is)
    (case a5 => k_is); (case l5 => k_is); (case c5 => k_is); (case k5 => k_is)
    (case a6 => k_is); (case l6 => k_is); (case c6 => k_is); (case k6 => k_is)
    (case a7 => k_is); (case l7 => k_is); (case c7 => k_is); (case k7 => k_is)
    (case a8 => k_is); (case l8 => k_is); (case c8 => k_is); (case k8 => k_is)
    (case a9 => k_is); (case l9 => k_is); (case c9 => k_is); (case k9 => k_is)
    (case z0 => k_is)
    (case z1 => k_is)
    (case z2 => k_is)
    (case z3 => k_is)
    (case z4 => k_is)
    (case z5 => k_is)
    (case z6 => k_is)
    (case z7 => k_is)
    (case z8 => k_is)
    (case z9 => k_is)
    (case z10 => k_is)
    (case z11 => k_is)
    (case z12 => k_is)
    (case z13 => k_is)
    (case gO => k_is)
    (case lO => k_is)
    (case kO => exact ⟨⟨_, _, rfl, rfl⟩, ⟨⟨_, _, rfl, rfl⟩, ⟨⟨_, _, rfl, rfl⟩, ⟨⟨_, _, rfl, rfl⟩, ⟨⟨_, _, rfl, rfl⟩, ⟨⟨_, _, rfl, rfl⟩, ⟨⟨_, _, rfl, rfl⟩, ⟨⟨_, _, rfl, rfl⟩, ⟨⟨_, _, rfl, rfl⟩, ⟨⟨_, _, rfl, rfl⟩, ⟨⟨_, _, rfl, rfl⟩, ⟨⟨_, _, rfl, rfl⟩, trivial⟩⟩⟩⟩⟩⟩⟩⟩⟩⟩⟩⟩)
    (case wO => decide)
    (case hO => rfl)
    (case gI => k_is)
    (case lI => k_is)
    (case kI' => exact ⟨⟨_, _, rfl, rfl⟩, ⟨⟨_, _, rfl, rfl⟩, ⟨⟨_, _, rfl, rfl⟩, ⟨⟨_, _, rfl, rfl⟩, ⟨⟨_, _, rfl, rfl⟩, ⟨⟨_, _, rfl, rfl⟩, trivial⟩⟩⟩⟩⟩⟩)
    (case wI => decide)
    (case hI => rfl)
    (case nC => k_is)
    (case na0 => k_is)
    (case ni0 => k_is)
    (case nl0 => k_is)
    (case nc0 => k_is)
    (case nk0 => k_is)
    (case na1 => k_is)
    (case nr1 => k_is)
    (case ng1 => k_is)
    (case nt1 => k_is)
    (case nl1 => k_is)
    (case nc1 => k_is)
    (case nk1 => k_is)
    (case na2 => k_is)
    (case nr2 => k_is)
    (case ng2 => k_is)
    (case nt2 => k_is)
    (case nl2 => k_is)
    (case nc2 => k_is)
    (case nk2 => k_is)
    (case na3 => k_is)
    (case nr3 => k_is)
    (case ng3 => k_is)
    (case nt3 => k_is)
    (case nl3 => k_is)
    (case nc3 => k_is)
    (case nk3 => k_is)
    (case na4 => k_is)
    (case ni4 => k_is)
    (case nl4 => k_is)
    (case nc4 => k_is)
    (case nk4 => k_is)
    (case na5 => k_is)
    (case ni5 => k_is)
    (case nl5 => k_is)
    (case nc5 => k_is)
    (case nk5 => k_is)
    (case na6 => k_is)
    (case ni6 => k_is)
    (case nl6 => k_is)
    (case nc6 => k_is)
    (case nk6 => k_is)
    (case npg => k_is)
    (case nhd => k_is)
    (case npo => k_is)
    (case nsa => k_is)
    (case nmk => k_is)
    (case nkc => k_is)
    (case nha => k_is)
    (case nhn => k_is)
    (case ntk => k_is)
    (case nhm => k_is)
    (case nn1 => k_is)
    (case nn2 => k_is)
    (case nn3 => k_is)
    (case nn4 => k_is)
    (case nne => k_is)
