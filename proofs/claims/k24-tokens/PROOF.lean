import PyProof.Rows.All
import Wide.All
import OpenK.AllK
import Wide.FinOn
import KE.KStateDown
import HandS.Base
import HandS.Call
import HandS.Ends
import HandS.Exc
import HandS.List
import HandS.Comp
import HandS.Text
import HandS.Iter
import HandS.Dict
import HandS.Words
import HandS.WordsList
import HandS.WordsDict
import HandS.WordsExc
import HandS.Defaults
import HandS.Head0
import HandS.Head1
import HandS.Head2
import HandS.HeadEnd
import HandS.HeadHook1
import HandS.HeadHook2
import HandS.ExcInit
import HandS.ExcIs
import HandS.ExcField
import HandS.Wide
import HandS.WideMore
import HandS.IsInst
import HandS.ExcCtx
import HandS.Hot
import HandS.HotCalls
import HandS.ExcInitHot
import HandS.More
import HandS.TupAny
import HandS.TupMul
import HandS.Flow
import HandS.Codes
import HandS.Steps
import PyProof.SumWalkG
import PyProof.WalkInts
import KE.KExcIs
import PyProof.CompFree
import PySem.Challenge.RW_exitspeeled_k24_every_sign_of_a_line_as
set_option Elab.async false
set_option linter.all false
set_option maxRecDepth 100000
set_option maxHeartbeats 0
/-! Xa: a hook that tells one more Bool; what the written part says of an own exception class. -/
namespace Xq
open PySem PySem.Spec PyProof.Rows L2 He
/-! ### the hook -/
abbrev AlB : Type := AlD × Bool
def obsB (n : Nat) (fa : List Fa) (fn : List DefD) (ex : PySem.W.Frag → Bool) (g : Addr → Option Obj) : AlB := (obsD fa fn (frG g (asD g n)), ex (frG g (asD g n)))
def hookB (n : Nat) (fa : List Fa) (fn : List DefD) (ex : PySem.W.Frag → Bool) : PySem.W.Hook where
  α := AlB
  obs := fun s => obsB n fa fn ex s.heap.get?
  val := fun _ => (valD fn, true)
  says := fun _ h => ∃ K : PySem.W.Frag, K.In h ∧ SaysD fa fn K ∧ ex K = true
  of := fun _ _ e => ⟨_, frG_in, congrArg (fun z : AlB => z.1) e, congrArg (fun z : AlB => z.2) e⟩
  keeps := fun _ _ _ ⟨K, hK, c, d⟩ k => ⟨K, PySem.W.Frag.In.keeps hK k, c, d⟩
theorem obsB_eq {n : Nat} {fa : List Fa} {fn : List DefD} {ex : PySem.W.Frag → Bool} {g : Addr → Option Obj} {s : Shared} (h : ∀ a, g a = s.heap.get? a) : obsB n fa fn ex g = (hookB n fa fn ex).obs s := by
  have e : g = s.heap.get? := funext h
  rw [e] <;> rfl
/-! ### an own exception class, looked at -/
def clsB (K : PySem.W.Frag) (C : Addr) : Bool := match K.lookup C with
  | some ⟨.type t, _, .cls cd, sl⟩ => decide (t = "type") && (match cd.mro, sl.toList with
    | .ref C' :: bm, [_, _, _, _, some (.builtin n), _] => decide (C' = C) && (decide (n = "ValueError.__new__") && (!cd.hasDel && (cd.hasDict && PySem.HandSPX.refsVE bm)))
    | _, _ => false)
  | _ => false
theorem clsB_ok {K : PySem.W.Frag} {C : Addr} (h : clsB K C = true) : ∃ nm q N bs bm sn sub ab col dd k0 k1 k2 k3 k5, K.lookup C = some (excClassObj nm q C N bs bm true sn sub ab col dd k0 k1 k2 k3 k5 "ValueError.__new__") ∧ PySem.HandSPX.refsVE bm = true := by
  unfold clsB at h
  split at h
  · rename_i t dd cd sl ho
    obtain ⟨h1, h2⟩ := ba h
    have e1 := of_decide_eq_true h1
    split at h2
    · rename_i C' bm k0 k1 k2 k3 n k5 hm hs
      obtain ⟨g1, g2⟩ := ba h2
      obtain ⟨g3, g4⟩ := ba g2
      obtain ⟨g5, g6⟩ := ba g4
      obtain ⟨g7, g8⟩ := ba g6
      have c1 := of_decide_eq_true g1
      have c2 := of_decide_eq_true g3
      obtain ⟨nm, bs, mro, ns, qn, hd, sn, sub, ab, col, del⟩ := cd
      dsimp only at hm g5 g7
      have c3 : del = false := by
        cases del with
        | false => rfl
        | true => cases g5
      have hsl : sl = #[k0, k1, k2, k3, some (.builtin n), k5] := by
        obtain ⟨l⟩ := sl
        simp only at hs
        rw [hs]
      subst hm c3 hsl e1 c1 c2 g7
      exact ⟨nm, qn, ns, bs, bm, sn, sub, ab, col, dd, k0, k1, k2, k3, k5, ho, g8⟩
    · cases h2
  · cases h
/-- the class at C: made, raised, its fields stored and read, asked by isinstance -/
def xcB (K : PySem.W.Frag) (C : Addr) : Bool :=
  clsB K C && (eqO (PySem.W.findIn K (.ref C) "__setattr__") (some (some (.builtin "object.__setattr__"))) && (decide (PySem.W.subIn K (.ref C) (.type "BaseException") = some true) && (decide (PySem.W.typeIn K (.ref C) = some (.type "type")) && (PySem.W.keepIn K (.ref C) &&
    (xfB K C && (eqO (PySem.W.findIn K (.ref C) "__class__") (some (some (.builtin "object.__class__"))) && (eqO (PySem.W.specialIn K (.builtin "object.__class__") "__get__") (some (some (.builtin "getset_descriptor.__get__"))) &&
      (decide (PySem.W.takesIn K (.builtin "object.__class__") = some true) && decide (PySem.W.mroIn K C (.type "object") = some true)))))))))
structure Xc (K : PySem.W.Frag) (C : Addr) : Prop where
  o : OexC K C
  f : XfC K C
  e : ExcC K C
theorem xcB_ok {K : PySem.W.Frag} {C : Addr} (h : xcB K C = true) : Xc K C := by
  obtain ⟨h1, h⟩ := ba h
  obtain ⟨h2, h⟩ := ba h
  obtain ⟨h3, h⟩ := ba h
  obtain ⟨h4, h⟩ := ba h
  obtain ⟨h5, h⟩ := ba h
  obtain ⟨h6, h⟩ := ba h
  obtain ⟨h7, h⟩ := ba h
  obtain ⟨h8, h⟩ := ba h
  obtain ⟨h9, h10⟩ := ba h
  have X := xfB_ok h6
  exact ⟨⟨clsB_ok h1, eqO_ok h2, of_decide_eq_true h3, of_decide_eq_true h4, h5⟩, X, ⟨X.ga, X.gg, X.exC, X.hdC, eqO_ok h7, eqO_ok h8, of_decide_eq_true h9, of_decide_eq_true h10⟩⟩
/-- isinstance of an instance of C against the classes named -/
def kindsB (K : PySem.W.Frag) (C : Addr) : List (Str × Bool) → Bool
  | [] => true
  | (x, b) :: r => decide (PySem.W.kitOne K (.ref C) (.ref (ga K x)) = some b) && kindsB K C r
theorem kindsB_ok {K : PySem.W.Frag} {C : Addr} : ∀ {l : List (Str × Bool)} {x : Str} {b : Bool}, kindsB K C l = true → (x, b) ∈ l → PySem.W.kitOne K (.ref C) (.ref (ga K x)) = some b
  | (y, c) :: r, x, b, h, m => by
    obtain ⟨h1, h2⟩ := ba h
    rcases List.mem_cons.mp m with e | e
    · injection e with e1 e2
      rw [e1, e2]
      exact of_decide_eq_true h1
    · exact kindsB_ok h2 e
def allB {α : Type} (l : List α) (p : α → Bool) : Bool := match l with
  | [] => true
  | a :: r => p a && allB r p
theorem allB_ok {α : Type} {p : α → Bool} : ∀ {l : List α} {a : α}, allB l p = true → a ∈ l → p a = true
  | b :: r, a, h, m => by
    obtain ⟨h1, h2⟩ := ba h
    rcases List.mem_cons.mp m with e | e
    · rw [e]
      exact h1
    · exact allB_ok h2 e
end Xq
/-! Xb: a def kept by name, its calls; more operators. -/
namespace Xq
open PySem PySem.Spec PyProof.Rows L2
/-! ### a def that keeps its promise, by its name -/
structure OkF (P : Program) (w : World) (K : PySem.W.Frag) (mg : Str → Option Value) (base : Heap) (CX : CXT) (k : Nat) (x : Str) (ps : List Str) (sp : Sp) : Prop where
  ex : ∃ (f : Addr) (fd : FuncData), FnOk P w K mg base CX k f fd ps sp ∧ Binds K fd ps [] ∧ PySem.W.keepIn K (.ref f) = true ∧ mg x = some (.ref f)
structure OkH (P : Program) (w : World) (K : PySem.W.Frag) (mg : Str → Option Value) (base : Heap) (CX : CXT) (k : Nat) (x : Str) (ps : List Str) (sp : Sp) : Prop where
  ex : ∃ (f : Addr) (fd : FuncData), L2H.FnH P w K mg base CX k f fd ps sp ∧ Binds K fd ps [] ∧ PySem.W.keepIn K (.ref f) = true ∧ mg x = some (.ref f)
/-- a def of the module where it stands -/
structure Dd (K : PySem.W.Frag) (mg : Str → Option Value) (x : Str) (st : Stmt) (f : Addr) (fd : FuncData) : Prop where
  fn : FunD K x x (defArgs st) (defBody st) (defScope st) [] [] f fd
  g : mg x = some (.ref f)
section
variable {P : Program} {w : World} {K : PySem.W.Frag} {mg : Str → Option Value} {base : Heap} {x : Str} {st : Stmt} {f : Addr} {fd : FuncData} {N ps : List Str} {k : Nat} {sp : Sp}
theorem okF0 (D : Dd K mg x st f fd) (S : FnScope N ps (defScope st)) (b : Binds K fd ps []) (len : ∀ vs H Q E, sp vs H Q E → vs.length = ps.length)
    (body : ∀ (cdv : Value) (A : Around) (outer : List Env) (s : Shared) (H : Hp) (vs : List V) (Q : VK) (E : XK), Room k (A.deeper (envOfC x (defScope st) s.heap.objs.size f cdv)) → sp vs H Q E →
      ∃ t, PSs (cxOf CX0 P w K mg base N x (defScope st) f cdv A outer s H E).nox (defBody st) t ∧ t { nx := fun _ H' => Q .non H', rt := Q } (L2.start N vs) H) : OkF P w K mg base CX0 (k + 1) x ps sp :=
  ⟨f, fd, D.fn.ok S len (fun cdv A outer s H vs Q E hr h => by
    obtain ⟨t, h1, h2⟩ := body cdv A outer s H vs Q E hr h
    exact ⟨t, h1.nox, h2⟩), b, D.fn.kp, D.g⟩
/-- the last one, of a given fd -/
theorem fnF0 (D : Dd K mg x st f fd) (S : FnScope N ps (defScope st)) (len : ∀ vs H Q E, sp vs H Q E → vs.length = ps.length)
    (body : ∀ (cdv : Value) (A : Around) (outer : List Env) (s : Shared) (H : Hp) (vs : List V) (Q : VK) (E : XK), Room k (A.deeper (envOfC x (defScope st) s.heap.objs.size f cdv)) → sp vs H Q E →
      ∃ t, PSs (cxOf CX0 P w K mg base N x (defScope st) f cdv A outer s H E).nox (defBody st) t ∧ t { nx := fun _ H' => Q .non H', rt := Q } (L2.start N vs) H) : FnOk P w K mg base CX0 (k + 1) f fd ps sp :=
  D.fn.ok S len (fun cdv A outer s H vs Q E hr h => by
    obtain ⟨t, h1, h2⟩ := body cdv A outer s H vs Q E hr h
    exact ⟨t, h1.nox, h2⟩)
/-- one that may raise (nothing is handled where it raises) -/
theorem okFN (D : Dd K mg x st f fd) (S : FnScope N ps (defScope st)) (b : Binds K fd ps []) (len : ∀ vs H Q E, sp vs H Q E → vs.length = ps.length)
    (body : ∀ (cdv : Value) (A : Around) (outer : List Env) (s : Shared) (H : Hp) (vs : List V) (Q : VK) (E : XK), Room k (A.deeper (envOfC x (defScope st) s.heap.objs.size f cdv)) → sp vs H Q E →
      ∃ t, PSs (cxOf (L2N.CX P w) P w K mg base N x (defScope st) f cdv A outer s H E) (defBody st) t ∧ t { nx := fun _ H' => Q .non H', rt := Q } (L2.start N vs) H) : OkF P w K mg base (L2N.CX P w) (k + 1) x ps sp :=
  ⟨f, fd, D.fn.ok S len body, b, D.fn.kp, D.g⟩
/-- while an exception is handled -/
theorem okH0 (D : Dd K mg x st f fd) (S : FnScope N ps (defScope st)) (b : Binds K fd ps []) (len : ∀ vs H Q E, sp vs H Q E → vs.length = ps.length)
    (body : ∀ (cdv : Value) (A : Around) (outer : List Env) (s : Shared) (H : Hp) (vs : List V) (Q : VK) (E : XK) (p : Addr × Obj), HotX.HotAt A p.1 s.heap ∨ True → L2H.Hot1 A p → L2H.RoomH k (A.deeper (envOfC x (defScope st) s.heap.objs.size f cdv)) → sp vs H Q E →
      ∃ t, PSs (L2H.cxH CX0 P w K mg base N x (defScope st) f cdv A outer s H E p).nox (defBody st) t ∧ t { nx := fun _ H' => Q .non H', rt := Q } (L2.start N vs) H) : OkH P w K mg base CX0 (k + 1) x ps sp := by
  obtain ⟨oc, od, dV, kV, doc, pm, an, cdv, ct, osl, rfl, lk, hcd, _, _⟩ := D.fn.ex
  refine ⟨f, _, L2H.fn_ofH lk hcd S len (fun A outer s H vs Q E p hot hr hsp => ?_), b, D.fn.kp, D.g⟩
  obtain ⟨t, h1, h2⟩ := body cdv A outer s H vs Q E p (.inr trivial) hot hr hsp
  exact ⟨t, h1.nox, h2⟩
theorem OkF.mono {CX : CXT} {j : Nat} (o : OkF P w K mg base CX j x ps sp) (h : j ≤ k) : OkF P w K mg base CX k x ps sp := by
  obtain ⟨f, fd, F, b, kp, g⟩ := o.ex
  exact ⟨f, fd, F.mono h, b, kp, g⟩
end
section
variable {X : Cx} {CX : CXT} {k : Nat} {x : Str} {ps : List Str} {sp : Sp} {p pos : Pos} {e : Expr} {es : List Expr} {t : TA} {E : XK}
theorem pe_callO (o : OkF X.prog X.w X.K X.mg X.base CX k x ps sp) (hr : Room k X.A) (hx : Passes CX X E) (ha : PA X (e :: es) t) (hg : Gl X x := by rfl) (hdb : (x == ("__debug__" : Str)) = false := by decide)
    (he : starEach (e :: es) X.env = (false, eval e X.env) :: starEach es X.env := by rfl) (hpl : (backTo pos (starEach es X.env)).any (·.1) = false := by rfl) : PE X (.Call (.Name x p) (e :: es) [] pos) (tCall sp [] E t) := by
  obtain ⟨f, fd, F, b, kp, g⟩ := o.ex
  exact pe_call F hr hg g kp b .nil hx ha hdb he hpl
theorem pe_callOS {E : L2.St → XK} (o : OkF X.prog X.w X.K X.mg X.base CX k x ps sp) (hr : Room k X.A) (hx : ∀ σ, PassesAt CX X σ (E σ)) (ha : PA X (e :: es) t) (hg : Gl X x := by rfl) (hdb : (x == ("__debug__" : Str)) = false := by decide)
    (he : starEach (e :: es) X.env = (false, eval e X.env) :: starEach es X.env := by rfl) (hpl : (backTo pos (starEach es X.env)).any (·.1) = false := by rfl) : PE X (.Call (.Name x p) (e :: es) [] pos) (tCallS sp E t) := by
  obtain ⟨f, fd, F, b, kp, g⟩ := o.ex
  exact pe_callS F hr hg g kp b hx ha hdb he hpl
theorem pe_callOH {E : L2.St → XK} (o : OkH X.prog X.w X.K X.mg X.base CX k x ps sp) (hr : L2H.RoomH k X.A) (hc : L2H.HotC X) (hx : ∀ σ, PassesAt CX X σ (E σ)) (ha : PA X (e :: es) t) (hg : Gl X x := by rfl) (hdb : (x == ("__debug__" : Str)) = false := by decide)
    (he : starEach (e :: es) X.env = (false, eval e X.env) :: starEach es X.env := by rfl) (hpl : (backTo pos (starEach es X.env)).any (·.1) = false := by rfl) : PE X (.Call (.Name x p) (e :: es) [] pos) (tCallS sp E t) := by
  obtain ⟨f, fd, F, b, kp, g⟩ := o.ex
  exact L2H.pe_callH F hr hc hg g kp b hx ha hdb he hpl
/-! ### operators that the modules lack -/
def CPowW (i j : Int) : Prop := 0 ≤ j ∧ (Builtin.Int.intBits i : Int) * j ≤ 2 ^ 27
theorem op_powW : OpR X (binaryOp .Pow) (rI CPowW fun i j => .int (i ^ j.toNat)) := opI fun _ _ _ _ _ _ _ hc q => pow_int hc.1 hc.2 q
/-- a text so many times -/
def repS (z : Str) (n : Nat) : Str := ⟨(List.replicate n z.cps).foldl (· ++ ·) #[]⟩
theorem fold_cat (z : Array Nat) : ∀ (n : Nat) (a : Array Nat), ((List.replicate n z).foldl (· ++ ·) a).toList = a.toList ++ (List.replicate n z.toList).flatten
  | 0, a => by simp
  | n + 1, a => by
    rw [List.replicate_succ, List.foldl_cons, fold_cat z n (a ++ z), List.replicate_succ, List.flatten_cons, Array.toList_append, List.append_assoc]
theorem repS_list (z : Str) (n : Nat) : (repS z n).cps.toList = (List.replicate n z.cps.toList).flatten := by
  have h := fold_cat z.cps n #[]
  simpa [repS] using h
theorem repS_len (z : Str) (n : Nat) : (repS z n).length = n * z.length := by
  show (repS z n).cps.size = n * z.cps.size
  rw [← Array.length_toList, repS_list, List.length_flatten]
  simp
theorem repS_one {z : Str} {n : Int} (d : (n == 1 || z.length == 0) = true) : repS z n.toNat = z := by
  have e : (repS z n.toNat).cps.toList = z.cps.toList := by
    rw [repS_list]
    rcases Bool.or_eq_true_iff.mp d with d | d
    · have : n = 1 := by simpa using d
      subst this
      simp
    · have : z.cps.toList = [] := List.length_eq_zero_iff.mp (by simpa [Str.length] using d)
      rw [this]
      simp
  have e2 : (repS z n.toNat).cps = z.cps := Array.toList_inj.mp e
  cases h : repS z n.toNat with
  | mk c =>
    rw [h] at e2
    cases z
    exact congrArg Str.mk e2
theorem op_mulS : OpR X (binaryOp .Mult) (fun x y H Q => ∃ (z : Str) (n : Int), x = .str z ∧ y = .int n ∧ 0 ≤ n ∧ n ≤ 100000 ∧ z.length ≤ 100 ∧ Q (.str (repS z n.toNat)) H) := by
  intro pins s σ H x y v u Q I rx ry h
  obtain ⟨z, n, rfl, rfl, h0, h1, hz, q⟩ := h
  obtain ⟨t, rfl⟩ := rx
  obtain ⟨t', rfl⟩ := ry
  have hle : z.length * n.toNat ≤ 10000000 := Nat.le_trans (Nat.mul_le_mul hz (show n.toNat ≤ 100000 by omega)) (by decide)
  refine PySem.P.mul_str ?_ (fun h3 h4 => ?_) (fun h3 h4 => ?_) ?_
  · have a1 : ¬ n < -(2 ^ 63 : Int) := by omega
    have a2 : ¬ n ≥ 2 ^ 63 := by omega
    rw [decide_eq_false a1, decide_eq_false a2] <;> rfl
  · intro h5
    have h6 : (100 : Int) * n ≤ 2 ^ 63 - 1 := by omega
    have h7 : (100 : Int) ≤ (2 ^ 63 - 1) / n := (Int.le_ediv_iff_mul_le (by omega)).mpr h6
    omega
  · show decide (z.length * n.toNat > sizeLine) = false
    refine decide_eq_false ?_
    have := sizeLine_eq
    omega
  · by_cases c : n < 1
    · rw [if_pos c]
      have e0 : n = 0 := by omega
      subst e0
      exact ⟨by decide, ⟨.str (repS z 0), H, I.tok _, ⟨_, rfl⟩, q⟩⟩
    · rw [if_neg c]
      by_cases d : (n == 1 || z.length == 0) = true
      · rw [if_pos d]
        rw [repS_one d] at q
        exact ⟨.str z, H, I, ⟨_, rfl⟩, q⟩
      · rw [if_neg d]
        refine ⟨?_, ⟨.str (repS z n.toNat), H, I.tok _, ⟨_, rfl⟩, q⟩⟩
        show (repS z n.toNat).length ≤ sizeLine
        rw [repS_len, Nat.mul_comm]
        have := sizeLine_eq
        omega
end
end Xq
/-! Xe: own exception classes whose __init__ stores its arguments: made, raised (nothing handled), caught, their fields read, asked by isinstance, handed to a def while they are handled. -/
namespace Xq
open PySem PySem.Spec PyProof.Rows L2
/-- the promise of such an __init__: the new dict holds mk of the arguments -/
def spXi (C : Addr) (n : Nat) (mk : List V → List (Str × V)) : Sp := fun vs H Q _ => ∃ (a : Addr) (ws : List V), vs = .ref a :: ws ∧ ws.length = n ∧ H a = some (exo a C none) ∧
  ∀ d, H d = none → d ≠ a → Q .non (upd (upd H d (exd d (mk ws))) a (exo a C (some d)))
/-- a class x at C, made of n arguments -/
structure XM (P : Program) (w : World) (K : PySem.W.Frag) (mg : Str → Option Value) (base : Heap) (x : Str) (C : Addr) (n : Nat) (mk : List V → List (Str × V)) : Prop where
  xc : Xc K C
  g : mg x = some (.ref C)
  ini : ∃ (fI : Addr) (fd : FuncData) (ps : List Str), PySem.W.findIn K (.ref C) "__init__" = some (some (.ref fI)) ∧ PySem.W.typeIn K (.ref fI) = some (.type "function") ∧ FnOk P w K mg base CX0 1 fI fd ps (spXi C n mk) ∧ Binds K fd ps []
/-- what such a making asks -/
def tMkX (C : Addr) (n : Nat) (mk : List V → List (Str × V)) (ta : TA) : L2.St → Hp → XK → Prop := fun σ H Q => ta σ H fun vs H1 => vs.length = n ∧ ∀ d, H1 d = none → Q (.ref C) (some d) (upd H1 d (.xd (mk vs)))
theorem xm_heap {H : Hp} {a d C : Addr} {o1 o2 o3 o4 : HO} (ha : H a = none) (hd : d ≠ a) : upd (del (upd (upd (upd H a o1) d o2) a o3) a) d o4 = upd H d o4 := by
  funext b
  by_cases c : b = d
  · rw [c, upd_same, upd_same]
  · rw [upd_ne c, upd_ne c]
    by_cases e : b = a
    · rw [e, del_same, ha]
    · rw [del_ne e, upd_ne e, upd_ne c, upd_ne e]
theorem ini_at {H : Hp} {a d : Addr} {o1 o2 : HO} (ne : d ≠ a) : upd (upd H d o1) a o2 d = some o1 := by
  rw [upd_ne ne, upd_same]
theorem ini_more {H : Hp} {a d : Addr} {o1 o2 o3 : HO} (ne : d ≠ a) : upd (upd (upd H d o1) a o2) d o3 = upd (upd H d o3) a o2 := by
  funext b
  by_cases c : b = d
  · rw [c, upd_same, upd_ne ne, upd_same]
  · rw [upd_ne c]
    by_cases e : b = a
    · rw [e, upd_same, upd_same]
    · rw [upd_ne e, upd_ne e, upd_ne c, upd_ne c]
section
variable {X : Cx} {x : Str} {C : Addr} {n : Nat} {mk : List V → List (Str × V)} {e : Expr} {es : List Expr} {ta : TA} {p pos : Pos}
theorem pmk_x (T : XM X.prog X.w X.K X.mg X.base x C n mk) {k : Nat} (hr0 : Room k X.A) (hk : 2 ≤ k) (hn1000 : n ≤ 1000) (ha : PA X (e :: es) ta) (hg : Gl X x := by rfl) (hdb : (x == ("__debug__" : Str)) = false := by decide)
    (he : starEach (e :: es) X.env = (false, eval e X.env) :: starEach es X.env := by rfl) (hpl : (backTo pos (starEach es X.env)).any (·.1) = false := by rfl) :
    L2N.PMk X (.Call (.Name x p) (e :: es) [] pos) (tMkX C n mk ta) := by
  have hr : Room 2 X.A := hr0.mono hk
  intro pins s σ H Q I h
  obtain ⟨fI, fd, ps, iC, tI, F1, hb⟩ := T.ini
  obtain ⟨nm, q, N, bs, bm, sn, sub, ab, col, dd, k0, k1, k2, k3, k5, hC, hbm⟩ := T.xc.o.cls
  refine wpAny_Call_Name_kw (ld_glob I hg T.g ?_ hdb)
  refine PySem.W.callWith_K (h₀ := X.base) I.ok.mod.kin T.xc.o.kC (thn (ha.run pos pins s σ H _ I h) fun us s1 ⟨vs, H1, I1, r1, hz, q1⟩ => ⟨I1.kIn, ?_⟩) he hpl
  show wpAny _ _ (call (.ref C) us) _ _ _
  obtain ⟨hp, gs, drn, tks, osx⟩ := s1
  have grow : hp.objs.size ≤ hp.objs.size + 1 := Nat.le_succ _
  have na : H1 (hp.objs.size + 1) = none := I1.hok.fresh grow
  have kept : ∀ b o, hp.get? b = some o → ((hp.push (PySem.W.kdv_tup us)).push (PySem.HandSPX.excO C hp.objs.size)).get? b = some o := fun b o z => Heap.get?_push_of_some _ (Heap.get?_push_of_some _ z)
  have there : ((hp.push (PySem.W.kdv_tup us)).push (PySem.HandSPX.excO C hp.objs.size)).get? (hp.objs.size + 1) = some (PySem.HandSPX.excO C hp.objs.size) := by heap_get
  have I2 : Inv X pins σ (upd H1 (hp.objs.size + 1) (exo (hp.objs.size + 1) C none)) ⟨(hp.push (PySem.W.kdv_tup us)).push (PySem.HandSPX.excO C hp.objs.size), gs, drn, tks, osx⟩ :=
    I1.laid (t' := tks) (a := hp.objs.size + 1) (o := exo (hp.objs.size + 1) C none) (h' := (hp.push (PySem.W.kdv_tup us)).push (PySem.HandSPX.excO C hp.objs.size)) kept grow (exo_ok there)
  have rv : Vals (V.ref (hp.objs.size + 1) :: vs) (Value.ref (hp.objs.size + 1) :: us) := .cons rfl r1
  have want : spXi C n mk (V.ref (hp.objs.size + 1) :: vs) (upd H1 (hp.objs.size + 1) (exo (hp.objs.size + 1) C none)) (fun v H2 => v = .non ∧ ∃ d, d ≠ hp.objs.size + 1 ∧ H1 d = none ∧ H2 = upd (upd (upd H1 (hp.objs.size + 1) (exo (hp.objs.size + 1) C none)) d (exd d (mk vs))) (hp.objs.size + 1) (exo (hp.objs.size + 1) C (some d))) (fun _ _ _ => False) := by
    refine ⟨_, vs, rfl, hz, upd_same, fun d hd ne => ⟨rfl, d, ne, ?_, rfl⟩⟩
    rw [upd_ne ne] at hd
    exact hd
  have hl : (Value.ref (hp.objs.size + 1) :: us).length = ps.length := by
    rw [← rv.length]
    exact F1.len _ _ _ _ want
  have hus : us.length ≤ sizeLine := by
    rw [← Paired.length r1, sizeLine_eq]
    omega
  refine wpAny_call (PySem.HandSPX.call_own F.excBase_ValueError (fun Y => PySem.HandSPX.refsVE_contains Y bm hbm) (I1.kIn _ _ hC) (PySem.W.looks_findIn I1.kIn iC) (fun self => PySem.W.bind_fn I1.kIn self tI) hus
    (codeAny_mono (F1.run _ X.stack _ _ ⟨Value.ref (hp.objs.size + 1) :: us, []⟩ (Value.ref (hp.objs.size + 1) :: us) _ _ (fun _ _ _ => False) (hr.make C us []) (I2.env0.make C us []) ?_ rv want) fun r s' hq' => ?_))
  · have b := hb ⟨(hp.push (PySem.W.kdv_tup us)).push (PySem.HandSPX.excO C hp.objs.size), gs, drn, tks, osx⟩ (Value.ref (hp.objs.size + 1) :: us) I2.kIn (by rw [List.append_nil]; exact hl)
    rw [List.append_nil] at b
    exact b
  · cases r with
    | error er => exact False.elim hq'
    | ok fl =>
      cases fl with
      | ret u =>
        obtain ⟨v, H2, os2, bare2, un2, hok2, rv2, ev, d, ne, hd1, eH⟩ := hq'
        subst ev
        subst eH
        obtain ⟨h2, g2, d2, t2, os'⟩ := s'
        obtain ⟨t0, G, J, kG, ge, hoe, nA⟩ := mk_end0 (d2 := d2) (t2 := t2) I1 grow kept un2 hok2 os2 bare2 upd_same (by rw [upd_ne ne]; exact upd_same) hd1
        rw [xm_heap (C := C) na ne] at J nA
        exact ⟨rv2, _, _, _, ⟨G, g2, d2, t2, os'⟩, _, .ref C, some d, rfl, J, kG, ge, hoe, ⟨rfl, rfl, fun vs z => by cases z; rfl⟩, rfl, rfl, nA, rfl, bare2, raises_own T.xc.o.exC T.xc.o.tyC, q1 d hd1⟩
      | next => exact False.elim hq'
      | brk => exact False.elim hq'
      | cont => exact False.elim hq'
/-! ### constants of the module -/
theorem pe_globS {z : Str} (h : ∃ t, X.mg x = some (.str z t)) (hg : Gl X x := by rfl) (hdb : (x == ("__debug__" : Str)) = false := by decide) (hcd : (x == ("__classdict__" : Str)) = false := by decide) : PE X (.Name x pos) (tC (.str z)) := by
  obtain ⟨t, h⟩ := h
  exact pe_glob hg h ⟨t, rfl⟩ hdb
theorem pe_globI {z : Int} (h : ∃ t, X.mg x = some (.int z t)) (hg : Gl X x := by rfl) (hdb : (x == ("__debug__" : Str)) = false := by decide) (hcd : (x == ("__classdict__" : Str)) = false := by decide) : PE X (.Name x pos) (tC (.int z)) := by
  obtain ⟨t, h⟩ := h
  exact pe_glob hg h ⟨t, rfl⟩ hdb
end
end Xq
/-! Xh: while an exception is handled: lists walked, summed, comprehensions; a def that is handed the handled exception. -/
namespace Xq
open PySem PySem.Spec PyProof.Rows L2 HotX L2H
/-! ### a list's iterator at its end -/
section
variable {prog : Program} {w : World} {A : Around} {E : Value → Shared → Prop} {s : Shared}
theorem next_list_end_hot {it l x1 : Addr} {i : Nat} {items : Array Value} {Q : Option Value → Shared → Prop} (hot : HotAt A x1 s.heap) (nx : x1 ≠ it) (hit : s.heap.IsListIter it l i) (hl : s.heap.IsList l items) (hx : items[i]? = none)
    (hQ : ∀ h', Heap.ExtBut it s.heap h' → Q none { s with heap := h' }) : wpAny (model prog w) A (pyNext (.ref it)) Q E s := by
  obtain ⟨ob, gob, cob, dob⟩ := id hit
  obtain ⟨ol, gol, _, nl, dol⟩ := hl
  obtain ⟨hh, o1, vs1, g1, d1, c1⟩ := hot
  unfold pyNext
  refine wpAny_bind (wpAny_attempt (wpAny_callSpecial?_slot (name := Str.ofString "__next__") hit.typeIs slot_listiter_next
    (wpAny_call_entry slot_listiter_next hit.typeIs entry_listiter_next ?_ (args_listiter_next _))))
  show wpAny _ _ (field (.ref it) 0 >>= _) _ _ s
  refine wpAny_bind (wpAny_field gob dob (x := .ref l) rfl ?_)
  show wpAny _ _ (if (Value.ref l == Value.none) = true then _ else _) _ _ s
  rw [if_neg (show ¬ ((Value.ref l == Value.none) = true) from Bool.false_ne_true)]
  show wpAny _ _ (field (.ref it) 1 >>= _) _ _ s
  refine wpAny_bind (wpAny_field gob dob (x := .int i 0) rfl ?_)
  show wpAny _ _ (seqItems? (.ref l) >>= _) _ _ s
  refine wpAny_bind (wpAny_seqItems gol dol ?_)
  simp only [Int.toNat_natCast, hx]
  refine wpAny_bind (wpAny_rule (wpAny_bind (wpAny_setField gob dob (by simp) ?_)))
  show wpAny _ _ (newExc (.type "StopIteration") [] >>= _) _ _ _
  refine wpAny_bind ?_
  simp only [newExc, newTuple]
  refine wpAny_bind (wpAny_newObj_type ?_ (by size_fits))
  refine wpAny_bind (m := firstArgMember _ _) (wpAny_of_eq (a := Value.none) (by first | rfl | (simp only [firstArgMember]; rfl)) ?_)
  refine wpAny_newObj_type ?_ (by size_fits)
  have up : (s.heap.update it (Obj.mapFields (·.setIfInBounds 0 .none))).get? x1 = some o1 := (Heap.get?_update_other _ _ (Ne.symm nx)).trans g1
  have up2 : ∀ (u : Obj) (v : Obj), (((s.heap.update it (Obj.mapFields (·.setIfInBounds 0 .none))).push u).push v).get? x1 = some o1 := fun u v => Heap.get?_push_of_some _ (Heap.get?_push_of_some _ up)
  refine raiseNew_hot ⟨hh, o1, vs1, up2 _ _, d1, c1⟩ (Nat.ne_of_lt (Heap.lt_size (Heap.get?_push_of_some _ up))) (Heap.get?_push_size _ rfl) rfl (by first | (simp; done) | (simp; omega) | (simp only [Array.size_append]; simp; omega)) ?_
  refine wpAny_bind (wpAny_isInstance (T := "StopIteration") (b := true) ⟨_, Heap.get?_update_self _ (Heap.get?_push_size _ rfl) rfl, rfl⟩ isSubtype_stop ?_)
  refine wpAny_pure (hQ _ fun b o nb e => ?_)
  have q1 : (s.heap.update it (Obj.mapFields (·.setIfInBounds 0 .none))).get? b = some o := (Heap.get?_update_other _ _ (Ne.symm nb)).trans e
  rw [Heap.get?_update_other _ _ (Nat.ne_of_gt (Heap.lt_size (Heap.get?_push_of_some _ q1)))]
  exact Heap.get?_push_of_some _ (Heap.get?_push_of_some _ q1)
/-- the walk of a list, x1 handled -/
theorem walks_list_hot {x1 : Addr} {o1 : Obj} {vs1 : Array Value} (hh : A.handled = some (.ref x1)) (d1 : o1.data = .fields vs1) (c1 : vs1[2]? = some .none) (I ax : Addr) (hne : ax ≠ I) (n1 : x1 ≠ I) (items : Array Value) :
    Walks prog w A I [I, ax, x1] [I] items.size (fun i v => items[i]? = some v) (fun i h => (h.IsListIter I ax i ∧ h.IsList ax items) ∧ h.get? x1 = some o1) where
  sub := fun b hb => by simp at hb; simp [hb]
  frame := fun _ _ _ st hk => ⟨⟨st.1.1.at fun o e => hk I (by simp) o e, st.1.2.at fun o e => hk ax (by simp) o e⟩, hk x1 (by simp) _ st.2⟩
  item := fun i s Q E hi st hQ => by
    refine wpAny_pyNext_list_item st.1.1 st.1.2 (x := items[i]) (by simp [hi]) fun h' hit' hs' => ?_
    exact hQ _ h' s.toks (by simp [hi]) ⟨⟨hit', st.1.2.extBut hs'.extBut hne⟩, hs'.extBut x1 _ n1 st.2⟩ fun b o hb e => hs'.extBut b o (fun h => hb (by simp [h])) e
  done := fun s Q E st hQ => next_list_end_hot ⟨hh, o1, vs1, st.2, d1, c1⟩ n1 st.1.1 st.1.2 (by simp) fun h' he' => hQ h' s.toks fun b o hb e => he' b o (fun h => hb (by simp [h])) e
  self := fun _ _ _ _ st hQ => wpAny_pyIter_listiter st.1.1 hQ
theorem sum_hot {l x1 : Addr} {xs : Array (Int × Tok)} {Q : Value → Shared → Prop} (hot : HotAt A x1 s.heap) (hl : s.heap.IsList l (intItems xs))
    (h : ∀ h' tk t', (∀ b o, s.heap.get? b = some o → h'.get? b = some o) → Q (.int (preSum (numAt xs) xs.size) t') { s with heap := h', toks := tk }) : wpAny (model prog w) A (call (.builtin "sum") [.ref l]) Q E s := by
  obtain ⟨hh, o1, vs1, g1, d1, c1⟩ := hot
  refine call_sum_walkG (iter_intList hl fun s₂ e st hfp hlI => ?_)
  subst e
  have nx : x1 ≠ s.heap.objs.size := Nat.ne_of_lt (Heap.lt_size g1)
  refine ⟨_, _, _, _, _, _, numAt xs, rfl, walks_list_hot (A := A.in1) hh d1 c1 _ l hlI nx (intItems xs), ⟨st, Heap.get?_push_of_some _ g1⟩, fun b hb => ?_, (fun _ _ => intItems_at), fun h' tk t' hk => ?_⟩
  · rcases List.mem_cons.mp hb with z | hb
    · exact hfp b (by rw [z]; simp)
    · rcases List.mem_cons.mp hb with z | hb
      · exact hfp b (by rw [z]; simp)
      · have z : b = x1 := by simpa using hb
        rw [z]
        exact Heap.lt_size (Heap.get?_push_of_some _ g1)
  · have := h h' tk t' (old_kept hk)
    simpa [intItems] using this
end
section
variable {X : Cx} {tg : Expr}
theorem cr_sumH (hc : HotC X) : CallR X (.builtin "sum") (rSum X.K) := by
  intro pins s σ H vs us Q I r h
  obtain ⟨a, ns, rfl, hs, q⟩ := h
  obtain ⟨its, rv, hl, _⟩ := I.list hs
  obtain ⟨x1, hot⟩ := hc.at I
  rw [Vals.ref1 r]
  have hi := rv.ints
  obtain ⟨xs, e⟩ := hi.allInts.items
  have hn : numsOf (intItems xs).toList = ns := by rw [← e]; exact hi.numsOf
  rw [nums_intItems] at hn
  have hl2 := hl.isList
  rw [e] at hl2
  refine sum_hot hot hl2 fun h' tk t' hk => ?_
  rw [preSum_eq, List.take_of_length_le (by simp), hn]
  exact ⟨.int _, H, I.kept hk, ⟨_, rfl⟩, q⟩
/-! ### for over a list -/
theorem turn_listH {P : Program} {w : World} {K : PySem.W.Frag} {tg : Expr} (a it : Addr) : TurnH P w K tg (Itl K a) [it] it (fun i h => h.IsListIter it a i) where
  mem := by simp
  obj := fun i h st b hb => by
    have e : b = it := by simpa using hb
    subst e
    obtain ⟨o, e, c, d⟩ := st
    exact ⟨o, e, fun v z => by rw [d] at z; cases z⟩
  keep := fun i h h' st k => st.at fun o e => k it (by simp) o e
  item := by
    intro X hP hw hK hc i pins s σ H E I hf st hg
    subst hP hw hK
    obtain ⟨xs, x, hq, hx⟩ := hg
    obtain ⟨its, rv, p, hz⟩ := I.list hq
    obtain ⟨u, hu, ru⟩ := rv.get hx
    obtain ⟨f0, f1, f2, f3, f4, f5⟩ := hf it (by simp)
    refine wpAny_pyNext_list_item st p.isList (x := u) (by simpa using hu) fun h' st' sb => ?_
    have J : Inv X pins σ H { s with heap := h' } := I.turned (t' := s.toks) (fun b o hb e => (sb.2 b hb).trans e) f0 f1 f3 f4 f5
    obtain ⟨o, e, c, d⟩ := id st'
    exact ⟨u, rfl, go_of (s := { s with heap := h' }) e c d (by decide) ⟨x, H, J, ru, ⟨rfl, fun ys hy => by rw [I.list_inj hy hq]; exact hx⟩, st', fun b hb => (hf b hb).1⟩⟩
  done := by
    intro X hP hw hK hc i pins s σ H E I hf st hg
    subst hP hw hK
    obtain ⟨xs, hq, hx⟩ := hg
    obtain ⟨its, rv, p, hz⟩ := I.list hq
    obtain ⟨f0, f1, f2, f3, f4, f5⟩ := hf it (by simp)
    have hl := rv.length
    obtain ⟨pp, ⟨hh, v1, e1, c1⟩, hp⟩ := hc
    have P1 := I.pin pp (List.mem_append_left _ hp)
    have nx : pp.1 ≠ it := (f5 pp (List.mem_append_left _ hp))
    exact next_list_end_hot ⟨hh, pp.2, v1, P1.1, e1, c1⟩ nx st p.isList (by simp; omega) fun h' eb => ⟨rfl, I.turned (t' := s.toks) (fun b o hb e => eb b o hb e) f0 f1 f3 f4 f5⟩
  self := fun _ _ _ _ _ st h => wpAny_pyIter_listiter st h
theorem pi_listH {l : Expr} {tl : TE} (hl : PE X l tl) : PIH X tg l (iList X.K tl) := by
  refine ⟨fun pins s σ H R I h => ?_⟩
  refine thn (hl.run pins s σ H _ I h) fun v s1 ⟨x, H1, I1, r1, q1⟩ => ?_
  obtain ⟨a, e, ⟨xs, hq⟩, q⟩ := q1
  subst e
  cases r1
  obtain ⟨its, rv, p, hz⟩ := I1.list hq
  refine wpAny_pyIter_list p.isList ?_
  refine ⟨s1.heap.objs.size, [s1.heap.objs.size], _, _, H1, rfl, I1.kept (t' := s1.toks) fun b o e => Heap.get?_push_of_some _ e, turn_listH a _, ⟨_, Heap.get?_push_size _ rfl, rfl, rfl⟩, fun b hb => ?_, q⟩
  have e : b = s1.heap.objs.size := by simpa using hb
  rw [e]
  exact I1.fpOk (Nat.le_refl _) (I1.hok.fresh (Nat.le_refl _))
end
end Xq
/-! Xi: while an exception is handled: list comprehensions over what a PIH serves; defs that are handed the handled exception; isinstance and fields of it. -/
namespace Xq
open PySem PySem.Spec PyProof.Rows L2 HotX L2H
/-! ### pins moved between the context and the state -/
theorem Inv.pnOf {X : Cx} {pl : List (Addr × Obj)} {σ : L2.St} {H : Hp} {s : Shared} (I : Inv X pl σ H s) : Inv { X with pn := X.pn ++ pl } [] σ H s :=
  ⟨⟨I.ok.mod, I.ok.kind, I.ok.glob, I.ok.blt, I.ok.above, I.ok.inj, I.ok.has, I.ok.cab, I.ok.hd, I.ok.frames, I.ok.stk, I.ok.exf, I.ok.bs, I.ok.bsz, I.ok.noex, I.ok.exfs, I.ok.funs, I.ok.frf⟩,
    I.os, I.bare, I.base, I.loc, I.cell, I.free, I.freeC, fun p hp => I.pin p (by simpa using hp), I.hok, I.len⟩
theorem Inv.pnTo {X : Cx} (ok : X.Ok) {pl : List (Addr × Obj)} {σ : L2.St} {H : Hp} {s : Shared} (I : Inv { X with pn := X.pn ++ pl } [] σ H s) : Inv X pl σ H s :=
  ⟨ok, I.os, I.bare, I.base, I.loc, I.cell, I.free, I.freeC, fun p hp => I.pin p (by simpa using hp), I.hok, I.len⟩
section
variable {X : Cx}
theorem lcH_core {pins : List (Addr × Obj)} {s : Shared} {σ : L2.St} {H : Hp} {Q : VK} {elt tg iter : Expr} {ifs : List Expr} {scope : Scope} {own : List (Str × Nat)} {pos pos' : Pos} {wi : TI} {g : TG} {tt : TT} {te : TE} {use : Option (Value → Sem Unit)} {Qf : Value → Shared → Prop}
    (hot : HotC X) (hN : X.N.Nodup) (I : Inv X pins σ H s) (hi : PIH X tg iter wi) (ok : BlkOk X.N X.env.scope scope own)
    (hg : ∀ (s : Shared) (H : Hp) (C : Addr) (cl : List (Str × Addr)) (fp : List Addr), PG (X.blk s H scope (compEnvC scope cl C X.env) fp) tg g)
    (ht : ∀ (s : Shared) (H : Hp) (C : Addr) (cl : List (Str × Addr)) (fp : List Addr), PTs (X.blk s H scope (compEnvC scope cl C X.env) fp) ifs tt)
    (he : ∀ (s : Shared) (H : Hp) (C : Addr) (cl : List (Str × Addr)) (fp : List Addr), PE (X.blk s H scope (compEnvC scope cl C X.env) fp) elt te)
    (hs : ∀ x, foldedSetIterable iter X.env x = pure x) (h : tLc wi g tt te (own.map (·.2)) σ H Q)
    (hend : ∀ D C s' m H', Inv X pins σ H' s' → Q (.ref D) H' → s'.heap.Ns C m → FpOk X pins H' C → compPost (model X.prog X.w) X.A X.xe use Qf (.ref D) C (.ok .next) s') :
    wpAny (model X.prog X.w) X.A (comprehension (.ListComp elt [⟨tg, iter, ifs, 0⟩] scope pos) scope X.env pos' (newList []) false (eval iter X.env) use) Qf X.xe s := by
  obtain ⟨p, hp1, hpm⟩ := hot
  have caps : ∀ y ∈ scope.names, y.2 = .free → ∃ c, X.env.cells.lookup y.1 = some c := fun y hy e => (ok.free y hy e).elim (fun k => I.ok.has _ (.inl k)) fun k => I.ok.has _ (.inr k)
  refine wpAny_comprehension_free (use := use) rfl hs (closure_ok caps) ok.kind (fun y hy e => by rw [ok.uniq y hy, e]) (thn (hi.run pins s σ H _ I h) fun xv s1 hx => thn hx fun itv s2 h2 => ?_)
  obtain ⟨it, fp, tn, J, H2, e, I2, T, st2, f2, q⟩ := h2
  subst e
  refine wpAny_newObj_type (newEnv_comp ?_) (by show 0 ≤ sizeLine; decide)
  generalize eD : s2.heap.objs.size = D
  have nD : H2 D = none := I2.hok.fresh (Nat.le_of_eq eD)
  obtain ⟨W, ⟨m0, w0⟩, turn⟩ := q D nD
  have old : ∀ b o, s2.heap.get? b = some o → (s2.heap.push { cls := .type "list", data := .seq ([] : List Value).toArray }).get? b = some o := fun b o e => Heap.get?_push_of_some _ e
  generalize es3 : ({ s2 with heap := s2.heap.push { cls := .type "list", data := .seq ([] : List Value).toArray } } : Shared) = s3
  have eh3 : s3.heap = s2.heap.push { cls := .type "list", data := .seq ([] : List Value).toArray } := by rw [← es3]
  have I3 : Inv X pins σ (upd H2 D (.lst [])) s3 := by
    rw [← es3]
    refine I2.laid (t' := s2.toks) old (Nat.le_of_eq eD) ⟨Nat.zero_le _, [], 0, .nil, ?_⟩
    rw [← eD]
    exact Heap.get?_push_size _ rfl
  have below : ∀ b ∈ fp, b < s2.heap.objs.size := fun b hb => let ⟨o, z, _⟩ := T.obj _ _ st2 b hb; Heap.lt_size z
  have f3 : ∀ b ∈ fp, FpOk X pins (upd H2 D (.lst [])) b ∧ b < s3.heap.objs.size := fun b hb => by
    have lt := below b hb
    refine ⟨⟨?_, (f2 b hb).2⟩, by rw [eh3, Heap.size_push]; exact Nat.lt_succ_of_lt lt⟩
    rw [upd_ne (by rw [← eD]; exact Nat.ne_of_lt lt)]
    exact (f2 b hb).1
  have st3 : tn 0 s3.heap := T.keep _ _ _ st2 fun b _ o z => by rw [eh3]; exact old b o z
  have I4a := block_start I3 ok hN f3
  have P3 := I3.pin p (List.mem_append_left _ hpm)
  generalize hce : compEnvC scope (cellsFrom (s3.heap.objs.size + 1) scope.names (cloFrom X.env.cells scope.names [])) s3.heap.objs.size X.env = ce at I4a
  have cL : ce.locals = s3.heap.objs.size := by subst hce; rfl
  have cE : compEnvC scope (cellsFrom (s3.heap.objs.size + 1) scope.names (cloFrom X.env.cells scope.names [])) s3.heap.objs.size X.env = ce := hce
  generalize hH3 : upd H2 D (.lst []) = H3 at I3 I4a w0 f3 P3
  have pg := hg s3 H3 s3.heap.objs.size (cellsFrom (s3.heap.objs.size + 1) scope.names (cloFrom X.env.cells scope.names [])) fp
  have pt := ht s3 H3 s3.heap.objs.size (cellsFrom (s3.heap.objs.size + 1) scope.names (cloFrom X.env.cells scope.names [])) fp
  have pe := he s3 H3 s3.heap.objs.size (cellsFrom (s3.heap.objs.size + 1) scope.names (cloFrom X.env.cells scope.names [])) fp
  rw [cE] at pg pt pe
  show codeAny _ _ (.compStart (.ListComp elt [⟨tg, iter, ifs, 0⟩] scope pos) 0 (.ref it) (.ref D) (compEnvC scope (cellsFrom (s3.heap.objs.size + 1) scope.names (cloFrom X.env.cells scope.names [])) s3.heap.objs.size X.env)) (compPost (model X.prog X.w) X.A X.xe use Qf (.ref D) s3.heap.objs.size) { s3 with heap := pushCells (s3.heap.push { cls := .type "dict", data := .dict #[] }) scope.names }
  rw [cE]
  have nfp : ∀ b ∈ fp, H3 b = none := fun b hb => (f3 b hb).1.1
  generalize es4 : ({ s3 with heap := pushCells (s3.heap.push { cls := .type "dict", data := .dict #[] }) scope.names } : Shared) = s4 at I4a ⊢
  have k34 : ∀ b o, s3.heap.get? b = some o → s4.heap.get? b = some o := fun b o z => by rw [← es4]; exact pushCells_keeps _ _ _ _ (Heap.get?_push_of_some _ z)
  have st4 : tn 0 s4.heap := T.keep _ _ _ st3 fun b _ o z => k34 b o z
  -- the handled exception is pinned in the block's states
  have offs : p.1 ∉ frs X.stack := fun hm => (List.mem_cons.mp (I3.stkSub p.1 hm)).elim P3.2.2.1 P3.2.2.2.1
  have pinned : ∀ {σ' : L2.St} {H' : Hp} {s' : Shared}, Inv (X.blk s3 H3 scope ce fp) [] σ' H' s' → s'.heap.get? p.1 = some p.2 → H' p.1 = none → Inv (X.blk s3 H3 scope ce fp) [p] σ' H' s' := fun {σ' H' s'} B g1 n1 =>
    ⟨B.ok, B.os, B.bare, B.base, B.loc, B.cell, B.free, B.freeC, fun z hz => by
      have ez : z = p := by simpa using hz
      rw [ez]
      exact ⟨g1, n1, fun y => by rw [cL] at y; exact absurd (y ▸ Heap.lt_size P3.1) (Nat.lt_irrefl _), offs, P3.2.2.2.2⟩, B.hok, B.len⟩
  have I4 : Inv (X.blk s3 H3 scope ce fp) [p] (wipe σ (own.map (·.2))) H3 s4 := pinned I4a (k34 _ _ P3.1) P3.2.1
  have hotB : HotC { X.blk s3 H3 scope ce fp with pn := [] ++ [p] } := ⟨p, hp1, by simp⟩
  have stat : ∀ {σ' : L2.St} {H' : Hp} {s' : Shared}, Inv (X.blk s3 H3 scope ce fp) [p] σ' H' s' → (∀ b ∈ fp, H' b = none) → ∀ b ∈ fp, FpOk { X.blk s3 H3 scope ce fp with pn := [] ++ [p] } [] H' b := fun {σ' H' s'} B n b hb =>
    ⟨n b hb, (B.ok.exf b hb).1, B.ok.exfs b hb, .inl hb, fun x c z => (B.ok.exf b hb).2 x c z, fun z hz => by
      have ez : z = p := by simpa using hz
      rw [ez]
      exact (f3 b hb).1.2.2.2.2.2 p (List.mem_append_left _ hpm)⟩
  have stat2 : ∀ {σ' : L2.St} {H' : Hp} {s' : Shared}, Inv (X.blk s3 H3 scope ce fp) [p] σ' H' s' → (∀ b ∈ fp, H' b = none) → ∀ b ∈ fp, FpOk (X.blk s3 H3 scope ce fp) [p] H' b := fun {σ' H' s'} B n b hb =>
    ⟨n b hb, (B.ok.exf b hb).1, B.ok.exfs b hb, .inl hb, fun x c z => (B.ok.exf b hb).2 x c z, fun z hz => by
      have ez : z = p := by simpa using hz
      rw [ez]
      exact (f3 b hb).1.2.2.2.2.2 p (List.mem_append_left _ hpm)⟩
  have loop : codeAny (model X.prog X.w) X.A (.compLoop (.ListComp elt [⟨tg, iter, ifs, 0⟩] scope pos) 0 (.ref it) (.ref D) ce) (compPost (model X.prog X.w) X.A X.xe use Qf (.ref D) s3.heap.objs.size) s4 := by
    refine compLoop_any (fun n s' => ∃ i H', Inv (X.blk s3 H3 scope ce fp) [p] (wipe σ (own.map (·.2))) H' s' ∧ tn i s'.heap ∧ (∀ b ∈ fp, H' b = none) ∧ W i n H') ?_ m0 ⟨0, H3, I4, st4, nfp, w0⟩
    rintro n s5 ⟨i, H5, I5, st5, n5, w5⟩
    rcases turn i n H5 w5 with ⟨stop, qq⟩ | ⟨go, Nx, hNx, step⟩
    · have td := T.done { X.blk s3 H3 scope ce fp with pn := [] ++ [p] } rfl rfl rfl hotB i [] s5 _ H5 (fun _ _ => False) (Inv.pnOf I5) (stat I5 n5) st5 stop
      refine thnF td fun r s6 ⟨hr, I6z⟩ => ?_
      subst hr
      have I6 := Inv.pnTo (X := X.blk s3 H3 scope ce fp) I5.ok I6z
      have I7 : Inv X pins σ H5 s6 := I3.call' (ch := fp) I6.os I6.base I6.hok I6.bare fun b hb => ⟨(f3 b hb).1.2.2.2.1, (f3 b hb).1.2.1, (f3 b hb).1.2.2.2.2.1, (f3 b hb).1.2.2.2.2.2⟩
      have nC : H5 s3.heap.objs.size = none := by
        have z : H5 ce.locals = none := I6.free
        rw [cL] at z
        exact z
      obtain ⟨m, hn, _⟩ := I6.loc
      have hn : s6.heap.Ns ce.locals m := hn
      rw [cL] at hn
      exact hend D s3.heap.objs.size s6 m H5 I7 qq hn (I3.fpOk (Nat.le_refl _) nC)
    · have ti := T.item { X.blk s3 H3 scope ce fp with pn := [] ++ [p] } rfl rfl rfl hotB i [] s5 _ H5 (fun _ _ => False) (Inv.pnOf I5) (stat I5 n5) st5 go
      refine thnF ti fun r s6 ⟨u, hr, h6⟩ => ?_
      subst hr
      refine thnF h6 fun _ s7 ⟨x, H7, I7z, r7, y7, st7, n7⟩ => ?_
      have I7 := Inv.pnTo (X := X.blk s3 H3 scope ce fp) I5.ok I7z
      have I7' := I7.pinned (stat2 I7 n7) (T.obj _ _ st7)
      refine thnF (pg.run _ s7 _ H7 x u _ I7' r7 (step x H7 y7)) fun _ s8 ⟨σ8, H8, I8, hw8, q8⟩ => ?_
      refine thnF (pt.run _ s8 σ8 H8 _ I8 q8) fun b s9 ⟨H9, I9, q9⟩ => ?_
      have again : ∀ {s' : Shared} {H' : Hp}, Inv (X.blk s3 H3 scope ce fp) ([p] ++ pinsAt fp s7.heap) σ8 H' s' → Nx H' → ∃ m, m < n ∧ ∃ i H', Inv (X.blk s3 H3 scope ce fp) [p] (wipe σ (own.map (·.2))) H' s' ∧ tn i s'.heap ∧ (∀ b ∈ fp, H' b = none) ∧ W i m H' := fun {s' H'} B nx => by
        obtain ⟨m', hm, w'⟩ := hNx H' nx
        have at' : ∀ b ∈ fp, ∀ o, s7.heap.get? b = some o → s'.heap.get? b = some o ∧ H' b = none := fun b hb o z =>
          let y := B.pin (b, o) (List.mem_append_right _ (List.mem_append_right _ (mem_pinsAt hb z)))
          ⟨y.1, y.2.1⟩
        have hl : (wipe σ (own.map (·.2))).length = σ8.length := by rw [← hw8, wipe_length]
        refine ⟨m', hm, i + 1, H', (B.unpinned (pins := [p])).weak hl (fun j v z => ?_), T.keep _ _ _ st7 fun b hb o z => (at' b hb o z).1, fun b hb => ?_, w'⟩
        · rw [← hw8] at z
          exact (wipe_some z).1
        · obtain ⟨o, z, _⟩ := T.obj _ _ st7 b hb
          exact (at' b hb o z).2
      cases b with
      | false =>
        simp only [Bool.false_eq_true, if_false] at q9 ⊢
        exact again I9 q9
      | true =>
        simp only [if_true] at q9 ⊢
        refine thnF (pe.run _ s9 σ8 H9 _ I9 q9) fun z s10 ⟨yv, H10, I10, r10, acc, hD10, hz10, nx⟩ => ?_
        exact app_ok (X := X.blk s3 H3 scope ce fp) I10 hD10 hz10 r10 fun s11 I11 => again I11 nx
  exact codeAny_compStart_list loop (T.self X.A 0 _ _ _ st4 loop)
theorem pe_lcH {elt tg iter : Expr} {ifs : List Expr} {scope : Scope} {own : List (Str × Nat)} {pos : Pos} {wi : TI} {g : TG} {tt : TT} {te : TE} (hot : HotC X) (hN : X.N.Nodup) (hi : PIH X tg iter wi) (ok : BlkOk X.N X.env.scope scope own)
    (hg : ∀ (s : Shared) (H : Hp) (C : Addr) (cl : List (Str × Addr)) (fp : List Addr), PG (X.blk s H scope (compEnvC scope cl C X.env) fp) tg g)
    (ht : ∀ (s : Shared) (H : Hp) (C : Addr) (cl : List (Str × Addr)) (fp : List Addr), PTs (X.blk s H scope (compEnvC scope cl C X.env) fp) ifs tt)
    (he : ∀ (s : Shared) (H : Hp) (C : Addr) (cl : List (Str × Addr)) (fp : List Addr), PE (X.blk s H scope (compEnvC scope cl C X.env) fp) elt te) (hs : ∀ x, foldedSetIterable iter X.env x = pure x := by intro _; rfl) :
    PE X (.ListComp elt [⟨tg, iter, ifs, 0⟩] scope pos) (tLc wi g tt te (own.map (·.2))) := by
  refine ⟨fun pins s σ H Q I h => ?_⟩
  rw [eval_ListComp]
  refine lcH_core hot hN I hi ok hg ht he hs h fun D C s' m H' I' q hn f => ⟨m, hn, fun h'' sb => ?_⟩
  obtain ⟨f0, f1, f2, f3, f4, f5⟩ := f
  exact ⟨.ref D, H', I'.turned (t' := s'.toks) (fun b o hb e => (sb.2 b hb).trans e) f0 f1 f3 f4 f5, rfl, q⟩
end
end Xq
/-! Xj: defs that are handed the handled exception; isinstance and fields of it, in its suite and in such a def. -/
namespace Xq
open PySem PySem.Spec PyProof.Rows L2 HotX L2H
/-! ### a promise that knows the handled exception p -/
structure FnP (P : Program) (w : World) (K : PySem.W.Frag) (mg : Str → Option Value) (base : Heap) (CX : CXT) (k : Nat) (f : Addr) (fd : FuncData) (ps : List Str) (sp : Addr × Obj → Sp) : Prop where
  len : ∀ p vs H Q E, sp p vs H Q E → vs.length = ps.length
  run : ∀ (A : Around) (outer : List Env) (s : Shared) (H : Hp) (args : Args) (us : List Value) (vs : List V) (Q : VK) (E : XK) (p : Addr × Obj), RoomH k A → Hot1 A p → PinOk outer H s p → Env0 P w K mg base A outer s H → BindsTo s fd args (ps.zip us) → Vals vs us → sp p vs H Q E →
    codeAny (model P w) A (.call (.ref f) args) (CR CX outer P w H s Q E) s
structure OkP (P : Program) (w : World) (K : PySem.W.Frag) (mg : Str → Option Value) (base : Heap) (CX : CXT) (k : Nat) (x : Str) (ps : List Str) (sp : Addr × Obj → Sp) : Prop where
  ex : ∃ (f : Addr) (fd : FuncData), FnP P w K mg base CX k f fd ps sp ∧ Binds K fd ps [] ∧ PySem.W.keepIn K (.ref f) = true ∧ mg x = some (.ref f)
section
variable {P : Program} {w : World} {K : PySem.W.Frag} {mg : Str → Option Value} {base : Heap} {x : Str} {st : Stmt} {f : Addr} {fd : FuncData} {N ps : List Str} {k : Nat} {sp : Addr × Obj → Sp}
theorem okP0 (D : Dd K mg x st f fd) (S : FnScope N ps (defScope st)) (b : Binds K fd ps []) (len : ∀ p vs H Q E, sp p vs H Q E → vs.length = ps.length)
    (body : ∀ (cdv : Value) (A : Around) (outer : List Env) (s : Shared) (H : Hp) (vs : List V) (Q : VK) (E : XK) (p : Addr × Obj), Hot1 A p → RoomH k (A.deeper (envOfC x (defScope st) s.heap.objs.size f cdv)) → sp p vs H Q E →
      ∃ t, PSs (cxH CX0 P w K mg base N x (defScope st) f cdv A outer s H E p).nox (defBody st) t ∧ t { nx := fun _ H' => Q .non H', rt := Q } (L2.start N vs) H) : OkP P w K mg base CX0 (k + 1) x ps sp := by
  obtain ⟨oc, od, dV, kV, doc, pm, an, cdv, ct, osl, rfl, lk, hcd, _, _⟩ := D.fn.ex
  refine ⟨f, _, ⟨len, fun A outer s H args us vs Q E p hr hot hpin e0 hb r hsp => ?_⟩, b, D.fn.kp, D.g⟩
  have hl := len _ _ _ _ _ hsp
  have inK : K.In s.heap := e0.mod.kin.keeps fun b o e => (e0.bs b o e).1
  have free : s.heap.NoLimit := e0.mod.nolimit.keeps fun b o e => (e0.bs b o e).1
  have kinds : ∀ y ∈ ps.zip us, (defScope st).names.lookup y.1 = some .local ∨ ((defScope st).names.lookup y.1 = some .cell ∧ ((cellsFrom (s.heap.objs.size + 1) (defScope st).names []).lookup y.1).isSome = true) := fun y hy => by
    obtain ⟨n, v⟩ := y
    exact (S.par n (List.of_mem_zip hy).1).elim .inl fun q => .inr ⟨q, PySem.W.cellsFrom_some _ _ _ (.inl q)⟩
  refine codeAny_call_function hr.depth (inK _ _ lk) rfl S.co S.gen rfl (PySem.W.codeRec_of inK hcd) (hb _ _ _ _ ?_)
  refine wpAny_newFunctionEnv_cells S.kind kinds fun env he s1 y => ?_
  subst he
  refine ⟨free.keeps y.toInCall.keep, codeAny_func ?_⟩
  obtain ⟨t, ht0, hq⟩ := body cdv A outer s H vs Q E p hot (hr.deeper _) hsp
  have ht := ht0.nox
  have I : Inv (cxH CX0 P w K mg base N x (defScope st) f cdv A outer s H E p) [] (L2.start N vs) H s1 := inv_startH S hpin e0 hl r y
  refine wpAny_mono (ht.run [] s1 (L2.start N vs) H _ I hq) (fun fl s' hs => ?_) fun e s' hs => hs
  have fin : ∀ {σ' : L2.St} {H' : Hp} {v : V} {u : Value}, Inv (cxH CX0 P w K mg base N x (defScope st) f cdv A outer s H E p) [] σ' H' s' → RelV v u → Q v H' → CE outer P w H s Q u s' :=
    fun {σ' H' v u} J rv q => ⟨v, H', J.os, J.bare, J.base, J.hok, rv, q⟩
  cases fl with
  | next => exact let ⟨_, _, J, q⟩ := hs; fin (v := V.non) (u := Value.none) J rfl q
  | ret u => exact let ⟨_, _, _, J, rv, q⟩ := hs; fin J rv q
  | brk => exact let ⟨_, _, _, q⟩ := hs; False.elim q
  | cont => exact let ⟨_, _, _, q⟩ := hs; False.elim q
end
/-- f(e, ..), by a promise that a promise about p follows from -/
def tCallA (sq : List V → Hp → VK → Prop) (t : TA) : TE := fun σ H Q => t σ H fun vs H1 => sq vs H1 Q
/-- f(e, ..), handed the handled exception p -/
def tCallP (sp : Addr × Obj → Sp) (p : Addr × Obj) (t : TA) : TE := fun σ H Q => t σ H fun vs H1 => sp p vs H1 Q E0
section
variable {X : Cx} {k : Nat} {x : Str} {ps : List Str} {sp : Addr × Obj → Sp} {q pos : Pos} {e : Expr} {es : List Expr} {t : TA} {p : Addr × Obj}
theorem pe_callQ {sq : List V → Hp → VK → Prop} (o : OkP X.prog X.w X.K X.mg X.base CX0 k x ps sp) (hr : RoomH k X.A) (hot : Hot1 X.A p) (hp : p ∈ X.pn) (conv : ∀ vs H Q, sq vs H Q → sp p vs H Q E0) (ha : PA X (e :: es) t) (hg : Gl X x := by rfl) (hdb : (x == ("__debug__" : Str)) = false := by decide)
    (he : starEach (e :: es) X.env = (false, eval e X.env) :: starEach es X.env := by rfl) (hpl : (backTo pos (starEach es X.env)).any (·.1) = false := by rfl) : PE X (.Call (.Name x q) (e :: es) [] pos) (tCallA sq t) := by
  obtain ⟨f, fd, F, hb, kp, hm⟩ := o.ex
  refine ⟨fun pins s σ H Q I h => ?_⟩
  refine wpAny_Call_Name_kw (ld_glob I hg hm ?_ hdb)
  refine PySem.W.callWith_K (h₀ := X.base) I.ok.mod.kin kp (thn (ha.run pos pins s σ H _ I h) fun us s1 ⟨vs, H1, I1, r, q1⟩ => ⟨I1.kIn, ?_⟩) he hpl
  have hl : us.length = ps.length := by
    rw [← r.length]
    exact F.len _ _ _ _ _ (conv _ _ _ q1)
  have b := hb s1 us I1.kIn (by rw [List.append_nil]; exact hl)
  rw [List.append_nil] at b
  have P1 := I1.pin p (List.mem_append_left _ hp)
  have pin : PinOk X.stack H1 s1 p := ⟨P1.1, P1.2.1, fun hm => (List.mem_cons.mp (I1.stkSub p.1 hm)).elim P1.2.2.1 P1.2.2.2.1, P1.2.2.2.2⟩
  refine wpAny_call (codeAny_mono (F.run X.A X.stack s1 H1 ⟨us, []⟩ us vs Q E0 p hr hot pin I1.env0 b r (conv _ _ _ q1)) fun r s' hq => ?_)
  cases r with
  | error e => exact False.elim hq
  | ok fl =>
    cases fl with
    | ret u => exact I1.after hq
    | next => exact False.elim hq
    | brk => exact False.elim hq
    | cont => exact False.elim hq
theorem pe_callP (o : OkP X.prog X.w X.K X.mg X.base CX0 k x ps sp) (hr : RoomH k X.A) (hot : Hot1 X.A p) (hp : p ∈ X.pn) (ha : PA X (e :: es) t) (hg : Gl X x := by rfl) (hdb : (x == ("__debug__" : Str)) = false := by decide)
    (he : starEach (e :: es) X.env = (false, eval e X.env) :: starEach es X.env := by rfl) (hpl : (backTo pos (starEach es X.env)).any (·.1) = false := by rfl) : PE X (.Call (.Name x q) (e :: es) [] pos) (tCallP sp p t) :=
  pe_callQ (sq := fun vs H Q => sp p vs H Q E0) o hr hot hp (fun _ _ _ h => h) ha hg hdb he hpl
/-! ### the handled exception asked -/
/-- p's object: an instance of the class at D, its dict at d -/
structure Hx (p : Addr × Obj) (D d : Addr) : Prop where
  c : p.2.cls = .ref D
  d : p.2.dict = some d
  f : ∃ vs : Array Value, p.2.data = .fields vs ∧ vs[2]? = some .none
theorem Hx.hot {A : Around} {D d : Addr} (h : Hx p D d) (e : A.handled = some (.ref p.1)) : Hot1 A p := ⟨e, h.f⟩
theorem hx_of {oe : Obj} {a D d : Addr} (z : L2N.Zn (.ref D) (some d) oe) (hf : ∃ vs, oe.data = .fields vs) : Hx (a, oe) D d := by
  obtain ⟨vs, e⟩ := hf
  exact ⟨z.1, z.2.1, vs, e, z.2.2 vs e⟩
theorem inst_of {pins : List (Addr × Obj)} {σ : L2.St} {H : Hp} {s : Shared} {D d : Addr} {fs : List (Str × V)} (I : Inv X pins σ H s) (hp : p ∈ X.pn) (h : Hx p D d) (hd : H d = some (.xd fs)) : ∃ od, PySem.W.InstAt s.heap p.1 p.2 D (some od) ∧
    ∃ mA : Str → Option Value, (∀ f, RelO (fs.lookup f) (mA f)) ∧ ∀ n, PySem.W.lookIn n od = some (mA n) := by
  obtain ⟨g, _⟩ := I.pin p (List.mem_append_left _ hp)
  obtain ⟨vs, e, _⟩ := h.f
  have hx : ObjOk X.prog X.w H s.heap d (.xd fs) := I.hok d _ hd
  obtain ⟨mA, hns, hr⟩ := hx
  obtain ⟨od, ho, hl⟩ := lookIn_ns hns
  exact ⟨od, ⟨g, h.c, by unfold PySem.W.notCls; rw [e] <;> rfl, by rw [h.d]; exact ho⟩, mA, hr, hl⟩
theorem exc_cls {K : PySem.W.Frag} {D : Addr} (C : ExcC K D) : (PySem.W.clsIn K D).isSome = true := by
  obtain ⟨cd, hc, _⟩ := PySem.W.any_some C.hd
  rw [hc] <;> rfl
/-- isinstance(x, c) of it -/
def rIsP (K : PySem.W.Frag) (a D d : Addr) : List V → Hp → VK → Prop := fun xs H Q => ∃ (c : V) (cv : Value) (b : Bool) (fs : List (Str × V)), xs = [.ref a, c] ∧ (∀ u, RelV c u → u = cv) ∧ H d = some (.xd fs) ∧ PySem.W.kitOne K (.ref D) cv = some b ∧ Q (.bl b) H
theorem call_isP {D d : Addr} (hp : p ∈ X.pn) (h : Hx p D d) (C : ExcC X.K D) : CallR X (.builtin "isinstance") (rIsP X.K p.1 D d) := by
  intro pins s σ H xs us Q I r hh
  obtain ⟨c, cv, b, fs, rfl, hcv, hd, e, q⟩ := hh
  obtain ⟨u1, u2, rfl, r1, r2⟩ := vals2 r
  cases r1
  obtain rfl := hcv _ r2
  obtain ⟨od, J, _⟩ := inst_of I hp h hd
  exact PySem.W.kia_one (PySem.W.kitx_exc (exc_cls C) C.hg C.hk C.hs C.ha C.hn C.ht C.hm) I.kIn J e (fun z => nomatch z) fun tk => ⟨.bl b, H, I.kept (t' := tk) fun _ _ z => z, rfl, q⟩
/-- isinstance(x, (A, B, ..)) of it -/
def rIsPT (K : PySem.W.Frag) (a D d : Addr) : List V → Hp → VK → Prop := fun xs H Q => ∃ (tp : Addr) (cs : List V) (ws : List Value) (b : Bool) (fs : List (Str × V)), xs = [.ref a, .ref tp] ∧ H tp = some (.tup cs) ∧ (∀ us, Vals cs us → us = ws) ∧ H d = some (.xd fs) ∧ PySem.W.kitAny K (.ref D) ws = some b ∧ Q (.bl b) H
theorem call_isPT {D d : Addr} (hp : p ∈ X.pn) (h : Hx p D d) (C : ExcC X.K D) : CallR X (.builtin "isinstance") (rIsPT X.K p.1 D d) := by
  intro pins s σ H xs us Q I r hh
  obtain ⟨tp, cs, ws, b, fs, rfl, htp, hcs, hd, e, q⟩ := hh
  obtain ⟨u1, u2, rfl, r1, r2⟩ := vals2 r
  cases r1
  cases r2
  obtain ⟨od, J, _⟩ := inst_of I hp h hd
  have hx : ObjOk X.prog X.w H s.heap tp (.tup cs) := I.hok tp _ htp
  obtain ⟨_, its, rv, o, go, co, n, dt⟩ := hx
  obtain rfl := hcs _ rv
  obtain ⟨oc, od', odt, osl⟩ := o
  simp only at co dt
  subst co dt
  exact PySem.W.kia_tup (PySem.W.kitx_exc (exc_cls C) C.hg C.hk C.hs C.ha C.hn C.ht C.hm) I.kIn J go e (fun z => nomatch z) fun tk => ⟨.bl b, H, I.kept (t' := tk) fun _ _ z => z, rfl, q⟩
/-- x.f of it -/
def tXfP (a D d : Addr) (f : Str) (te : TE) : TE := fun σ H Q => te σ H fun x H1 => x = .ref a ∧ ∃ (fs : List (Str × V)) (v : V), H1 d = some (.xd fs) ∧ fs.lookup f = some v ∧ Q v H1
theorem pe_xfP {D d : Addr} {e : Expr} {te : TE} {n : Str} (hp : p ∈ X.pn) (h : Hx p D d) (C : ExcC X.K D) (hno : PySem.W.findIn X.K (.ref D) n = some none) (he : PE X e te) (hb : attributeBase e n X.env (eval e X.env) = eval e X.env := by rfl) :
    PE X (.Attribute e n pos) (tXfP p.1 D d n te) := by
  refine ⟨fun pins s σ H Q I hh => ?_⟩
  refine attr_of hb (thn (he.run pins s σ H _ I hh) fun u s1 h1 => ?_)
  obtain ⟨x, H1, I1, rx, ex, fs, v, hd, l, q⟩ := h1
  subst ex
  obtain rfl : u = Value.ref p.1 := rx
  obtain ⟨od, J, mA, hr, hl⟩ := inst_of I1 hp h hd
  obtain ⟨u, hu, ru⟩ := RelO.some_of (v := v) (o := mA n) (by rw [← l]; exact hr n)
  exact HandSPX.exc_get I1.kIn J C.hg C.hk C.hs (PySem.W.findObj_own C.hd hno rfl (by rw [hl, hu])) (handed_of ru) ⟨v, H1, I1.tok _, ru, q⟩
/-! ### the same, told of a = p's place (no object in the reading) -/
theorem pe_callA {sq : List V → Hp → VK → Prop} {a : Addr} {oe : Obj} (o : OkP X.prog X.w X.K X.mg X.base CX0 k x ps sp) (hr : RoomH k X.A) (hot : Hot1 X.A (a, oe)) (hp : (a, oe) ∈ X.pn) (conv : ∀ vs H Q, sq vs H Q → sp (a, oe) vs H Q E0) (ha : PA X (e :: es) t) (hg : Gl X x := by rfl) (hdb : (x == ("__debug__" : Str)) = false := by decide)
    (he : starEach (e :: es) X.env = (false, eval e X.env) :: starEach es X.env := by rfl) (hpl : (backTo pos (starEach es X.env)).any (·.1) = false := by rfl) : PE X (.Call (.Name x q) (e :: es) [] pos) (tCallA sq t) :=
  pe_callQ o hr hot hp conv ha hg hdb he hpl
theorem pe_xfA {a D d : Addr} {oe : Obj} {e : Expr} {te : TE} {n : Str} (hp : (a, oe) ∈ X.pn) (h : Hx (a, oe) D d) (C : ExcC X.K D) (hno : PySem.W.findIn X.K (.ref D) n = some none) (he : PE X e te) (hb : attributeBase e n X.env (eval e X.env) = eval e X.env := by rfl) :
    PE X (.Attribute e n pos) (tXfP a D d n te) := pe_xfP hp h C hno he hb
theorem call_isA {a D d : Addr} {oe : Obj} (hp : (a, oe) ∈ X.pn) (h : Hx (a, oe) D d) (C : ExcC X.K D) : CallR X (.builtin "isinstance") (rIsP X.K a D d) := call_isP hp h C
theorem call_isAT {a D d : Addr} {oe : Obj} (hp : (a, oe) ∈ X.pn) (h : Hx (a, oe) D d) (C : ExcC X.K D) : CallR X (.builtin "isinstance") (rIsPT X.K a D d) := call_isPT hp h C
theorem takes0N : L2N.Takes X (fun _ _ _ _ => False) := fun _ _ ⟨_, _, _, _, _, _, _, _, _, _, _, _, _, _, _, _, w⟩ => w.elim
end
end Xq
/-! Xs: data at any depth (Dp) for the law's own comparing: kinds, kids, how many nodes; isinstance, len and items of such data. -/
namespace Xq
open PySem PySem.Spec PyProof.Rows L2
/-! ### kinds -/
def tyN : PyData → String
  | .none => "NoneType" | .bool _ => "bool" | .int _ => "int" | .str _ => "str" | .list _ => "list" | .tuple _ => "tuple" | .dict _ => "NoneType"
def isTup : PyData → Bool
  | .tuple _ => true | _ => false
def isLst : PyData → Bool
  | .list _ => true | _ => false
def isBl : PyData → Bool
  | .bool _ => true | _ => false
def isSt : PyData → Bool
  | .str _ => true | _ => false
def isIn : PyData → Bool
  | .int _ => true | .bool _ => true | _ => false
def kids : PyData → List PyData
  | .list xs => xs | .tuple xs => xs | _ => []
theorem kit_tup : ∀ d : PyData, kitB (tyN d) "tuple" = some (isTup d)
  | .none => (by decide +kernel : kitB "NoneType" "tuple" = some false)
  | .bool _ => (by decide +kernel : kitB "bool" "tuple" = some false)
  | .int _ => (by decide +kernel : kitB "int" "tuple" = some false)
  | .str _ => (by decide +kernel : kitB "str" "tuple" = some false)
  | .list _ => (by decide +kernel : kitB "list" "tuple" = some false)
  | .tuple _ => (by decide +kernel : kitB "tuple" "tuple" = some true)
  | .dict _ => (by decide +kernel : kitB "NoneType" "tuple" = some false)
theorem kit_lst : ∀ d : PyData, kitB (tyN d) "list" = some (isLst d)
  | .none => (by decide +kernel : kitB "NoneType" "list" = some false)
  | .bool _ => (by decide +kernel : kitB "bool" "list" = some false)
  | .int _ => (by decide +kernel : kitB "int" "list" = some false)
  | .str _ => (by decide +kernel : kitB "str" "list" = some false)
  | .list _ => (by decide +kernel : kitB "list" "list" = some true)
  | .tuple _ => (by decide +kernel : kitB "tuple" "list" = some false)
  | .dict _ => (by decide +kernel : kitB "NoneType" "list" = some false)
theorem kit_bl : ∀ d : PyData, kitB (tyN d) "bool" = some (isBl d)
  | .none => (by decide +kernel : kitB "NoneType" "bool" = some false)
  | .bool _ => (by decide +kernel : kitB "bool" "bool" = some true)
  | .int _ => (by decide +kernel : kitB "int" "bool" = some false)
  | .str _ => (by decide +kernel : kitB "str" "bool" = some false)
  | .list _ => (by decide +kernel : kitB "list" "bool" = some false)
  | .tuple _ => (by decide +kernel : kitB "tuple" "bool" = some false)
  | .dict _ => (by decide +kernel : kitB "NoneType" "bool" = some false)
theorem kit_st : ∀ d : PyData, kitB (tyN d) "str" = some (isSt d)
  | .none => (by decide +kernel : kitB "NoneType" "str" = some false)
  | .bool _ => (by decide +kernel : kitB "bool" "str" = some false)
  | .int _ => (by decide +kernel : kitB "int" "str" = some false)
  | .str _ => (by decide +kernel : kitB "str" "str" = some true)
  | .list _ => (by decide +kernel : kitB "list" "str" = some false)
  | .tuple _ => (by decide +kernel : kitB "tuple" "str" = some false)
  | .dict _ => (by decide +kernel : kitB "NoneType" "str" = some false)
theorem kit_in : ∀ d : PyData, kitB (tyN d) "int" = some (isIn d)
  | .none => (by decide +kernel : kitB "NoneType" "int" = some false)
  | .bool _ => (by decide +kernel : kitB "bool" "int" = some true)
  | .int _ => (by decide +kernel : kitB "int" "int" = some true)
  | .str _ => (by decide +kernel : kitB "str" "int" = some false)
  | .list _ => (by decide +kernel : kitB "list" "int" = some false)
  | .tuple _ => (by decide +kernel : kitB "tuple" "int" = some false)
  | .dict _ => (by decide +kernel : kitB "NoneType" "int" = some false)
/-! ### how many nodes -/
mutual
def nd : PyData → Nat
  | .list xs => 1 + ndL xs
  | .tuple xs => 1 + ndL xs
  | _ => 1
def ndL : List PyData → Nat
  | [] => 0
  | x :: r => nd x + ndL r
end
theorem nd_pos (d : PyData) : 1 ≤ nd d := by cases d <;> simp [nd]
theorem nd_kids {d : PyData} (h : (isTup d || isLst d) = true) : nd d = 1 + ndL (kids d) := by cases d <;> simp_all [isTup, isLst, nd, kids]
def work : List (PyData × PyData) → Nat
  | [] => 0
  | p :: r => nd p.2 + work r
theorem work_app : ∀ a b : List (PyData × PyData), work (a ++ b) = work a + work b
  | [], b => by simp [work]
  | p :: a, b => by simp only [List.cons_append, work, work_app a b]; omega
theorem work_zip : ∀ (ds es : List PyData), ds.length = es.length → work (ds.zip es) = ndL es
  | [], [], _ => rfl
  | d :: ds, e :: es, h => by simp only [List.zip_cons_cons, work, ndL, work_zip ds es (by simpa using h)]
  | [], _ :: _, h => by simp at h
  | _ :: _, [], h => by simp at h
theorem work_len : ∀ l : List (PyData × PyData), l.length ≤ work l
  | [] => Nat.le_refl _
  | p :: r => by
    have := nd_pos p.2
    have := work_len r
    simp only [List.length_cons, work]
    omega
theorem zip_eq : ∀ (ds es : List PyData), ds.length = es.length → (ds = es ↔ ∀ p ∈ ds.zip es, p.1 = p.2)
  | [], [], _ => by simp
  | d :: ds, e :: es, h => by simp [zip_eq ds es (by simpa using h)]
  | [], _ :: _, h => by simp at h
  | _ :: _, [], h => by simp at h
theorem kind_eq {d e : PyData} (h1 : isTup e = isTup d) (h2 : isLst e = isLst d) (hs : (isTup e || isLst e) = true) : d = e ↔ kids d = kids e := by
  cases e <;> cases d <;> simp_all [isTup, isLst, kids]
/-! ### Dp stays -/
section
variable {K : PySem.W.Frag} {H H' : Hp}
theorem sqT_same {a : Addr} {xs : List V} (s : Same H H') (h : SqT K H a xs) : SqT K H' a xs := by
  rcases h with (h | ⟨o, h⟩) | h
  · exact .inl (.inl (s _ _ h))
  · exact .inl (.inr ⟨o, s _ _ h⟩)
  · exact .inr h
mutual
theorem dp_same (s : Same H H') : ∀ {d : PyData} {v : V}, Dp K H v d → Dp K H' v d
  | .none, _, .non => .non
  | .bool _, _, .bl b => .bl b
  | .int _, _, .int i => .int i
  | .str _, _, .str x => .str x
  | .list ds, _, .lst h a => .lst (s.seq h) (dpAll_same s a)
  | .tuple ds, _, .tup h a => .tup (sqT_same s h) (dpAll_same s a)
theorem dpAll_same (s : Same H H') : ∀ {ds : List PyData} {vs : List V}, DpAll K H vs ds → DpAll K H' vs ds
  | [], _, .nil => .nil
  | _ :: _, _, .cons h t => .cons (dp_same s h) (dpAll_same s t)
end
theorem dp_ty {x : V} {d : PyData} (h : Dp K H x d) : TyX K H x (.type (tyN d)) := by
  cases h with
  | non => exact .base .non
  | bl b => exact .base (.bl b)
  | int i => exact .base (.int i)
  | str z => exact .base (.str z)
  | lst h _ =>
    rcases h with (h | ⟨o, h⟩) | ⟨o, its, n, h, c, _⟩
    · exact .base (.lst h)
    · exact .base (.frz h)
    · exact .kList h c
  | tup h _ =>
    rcases h with (h | ⟨o, h⟩) | ⟨o, its, n, h, c, _⟩
    · exact .base (.tup h)
    · exact .fTuple h
    · exact .kTuple h c
theorem kit_seqT (d : PyData) : PySem.W.kitAny K (.type (tyN d)) [.type "tuple", .type "list"] = some (isTup d || isLst d) := by
  refine kitAny_cons (kit_ty (kit_tup d)) (fun e => ?_) (fun e => by rw [e] <;> rfl)
  rw [e, Bool.false_or]
  exact kitAny_cons (kit_ty (kit_lst d)) (fun e2 => by rw [e2] <;> rfl) (fun e2 => e2)
theorem cls2 {a b : String} : Paired ClsV [.ty a, .ty b] [.type a, .type b] := .cons (.ty _) (.cons (.ty _) .nil)
theorem ty_at {x : V} {d : PyData} (h : Dp K H x d) (s : Same H H') : TyX K H' x (.type (tyN d)) := dp_ty (dp_same s h)
theorem dp_non {x : V} {d : PyData} (h : Dp K H x d) : x = .non ↔ d = .none := by
  cases h <;> simp
theorem dp_seq {x : V} {d : PyData} (h : Dp K H x d) (k : (isTup d || isLst d) = true) : ∃ a xs, x = .ref a ∧ (SqL K H a xs ∨ SqT K H a xs) ∧ DpAll K H xs (kids d) := by
  cases h with
  | lst h1 h2 => exact ⟨_, _, rfl, .inl h1, h2⟩
  | tup h1 h2 => exact ⟨_, _, rfl, .inr h1, h2⟩
  | _ => cases k
theorem dpAll_len : ∀ {ds : List PyData} {vs : List V}, DpAll K H vs ds → vs.length = ds.length
  | _, _, .nil => rfl
  | _, _, .cons _ t => congrArg Nat.succ (dpAll_len t)
theorem dpAll_get : ∀ {ds : List PyData} {vs : List V}, DpAll K H vs ds → ∀ (i : Nat) (d : PyData), ds[i]? = some d → ∃ v, vs[i]? = some v ∧ Dp K H v d
  | _, _, .nil, i, d, e => by simp at e
  | _, _, .cons h _, 0, d, e => by
    simp at e
    subst e
    exact ⟨_, rfl, h⟩
  | _, _, .cons _ t, i + 1, d, e => dpAll_get t i d (by simpa using e)
theorem sq_same {a : Addr} {xs : List V} (s : Same H H') (h : SqL K H a xs ∨ SqT K H a xs) : SqL K H' a xs ∨ SqT K H' a xs := h.imp s.seq (sqT_same s)
theorem len_rd {a : Addr} {xs : List V} (h : SqL K H a xs ∨ SqT K H a xs) : LenV K (.ref a) H xs.length := h.imp (fun h => ⟨xs, h, rfl⟩) fun h => ⟨xs, h, rfl⟩
theorem ix_rd {a : Addr} {xs : List V} {i : Nat} {v : V} {Q : VK} (h : SqL K H a xs ∨ SqT K H a xs) (g : xs[i]? = some v) (q : Q v H) : rIx K (.ref a) (.int (i : Int)) H Q := by
  rcases h with h | h
  · exact .inl ⟨_, _, _, _, rfl, rfl, h, atI_nat g, q⟩
  · exact .inr (.inl ⟨_, _, _, _, rfl, rfl, h, atI_nat g, q⟩)
/-- leaves compared -/
theorem leaf_ne {x y : V} {d e : PyData} (hx : Dp K H x d) (hy : Dp K H y e) (n : e ≠ .none) (s : (isTup e || isLst e) = false) (b : isBl e = isBl d) (t : isSt e = isSt d) (i : isSt e = true ∨ isIn d = true) : scal x y = true ∧ (x = y ↔ d = e) := by
  cases hy <;> cases hx <;> simp_all [isTup, isLst, isBl, isSt, isIn, scal]
end
theorem paired_snoc {α β : Type} {R : α → β → Prop} : ∀ {xs : List α} {ys : List β} {x : α} {y : β}, Paired R xs ys → R x y → Paired R (xs ++ [x]) (ys ++ [y])
  | _, _, _, _, .nil, h => .cons h .nil
  | _, _, _, _, .cons a t, h => .cons a (paired_snoc t h)
theorem paired_last {α β : Type} {R : α → β → Prop} : ∀ {xs : List α} {ys : List β}, Paired R xs ys → xs ≠ [] → ∃ xs' x ys' y, xs = xs' ++ [x] ∧ ys = ys' ++ [y] ∧ Paired R xs' ys' ∧ R x y
  | _, _, .nil, h => absurd rfl h
  | [x], [y], .cons a .nil, _ => ⟨[], x, [], y, rfl, rfl, .nil, a⟩
  | x :: x2 :: xs, y :: y2 :: ys, .cons a (.cons b t), _ => by
    obtain ⟨xs', u, ys', v, e1, e2, p, r⟩ := paired_last (.cons b t : Paired R (x2 :: xs) (y2 :: ys)) (List.cons_ne_nil _ _)
    exact ⟨x :: xs', u, y :: ys', v, by rw [e1]; rfl, by rw [e2]; rfl, .cons a p, r⟩
theorem paired_map {α β : Type} {R S : α → β → Prop} (f : ∀ a b, R a b → S a b) : ∀ {xs : List α} {ys : List β}, Paired R xs ys → Paired S xs ys
  | _, _, .nil => .nil
  | _, _, .cons a t => .cons (f _ _ a) (paired_map f t)
end Xq
namespace Xq
open PySem PySem.Spec PyProof.Rows L2
/-! ### data without lists stays where a list is changed -/
mutual
def flatT : PyData → Bool
  | .list _ => false
  | .dict _ => false
  | .tuple xs => flatTs xs
  | _ => true
def flatTs : List PyData → Bool
  | [] => true
  | x :: r => flatT x && flatTs r
end
section
variable {K : PySem.W.Frag} {H : Hp}
theorem sqT_put {a p : Addr} {xs : List V} {o u : HO} (hp : H p = some u) (n1 : ∀ ys, u ≠ .tup ys) (n2 : ∀ ob z, u ≠ .frz ob z) (h : SqT K H a xs) : SqT K (upd H p o) a xs := by
  rcases h with (h | ⟨ob, h⟩) | h
  · exact .inl (.inl (by rw [upd_ne (fun z => n1 xs (Option.some.inj (by rw [← hp, ← z, h])))]; exact h))
  · exact .inl (.inr ⟨ob, by rw [upd_ne (fun z => n2 ob _ (Option.some.inj (by rw [← hp, ← z, h])))]; exact h⟩)
  · exact .inr h
mutual
theorem dp_put {p : Addr} {o u : HO} (hp : H p = some u) (n1 : ∀ ys, u ≠ .tup ys) (n2 : ∀ ob z, u ≠ .frz ob z) : ∀ {d : PyData} {v : V}, flatT d = true → Dp K H v d → Dp K (upd H p o) v d
  | .none, _, _, .non => .non
  | .bool _, _, _, .bl b => .bl b
  | .int _, _, _, .int i => .int i
  | .str _, _, _, .str x => .str x
  | .list _, _, f, .lst _ _ => nomatch f
  | .tuple ds, _, f, .tup h a => .tup (sqT_put hp n1 n2 h) (dpAll_put hp n1 n2 (by simpa [flatT] using f) a)
theorem dpAll_put {p : Addr} {o u : HO} (hp : H p = some u) (n1 : ∀ ys, u ≠ .tup ys) (n2 : ∀ ob z, u ≠ .frz ob z) : ∀ {ds : List PyData} {vs : List V}, flatTs ds = true → DpAll K H vs ds → DpAll K (upd H p o) vs ds
  | [], _, _, .nil => .nil
  | _ :: _, _, f, .cons h t => .cons (dp_put hp n1 n2 (Bool.and_eq_true_iff.mp (show (flatT _ && flatTs _) = true from f)).1 h) (dpAll_put hp n1 n2 (Bool.and_eq_true_iff.mp (show (flatT _ && flatTs _) = true from f)).2 t)
end
theorem lst_tup {xs ys : List V} : HO.lst xs ≠ .tup ys := fun z => nomatch z
theorem lst_frz {xs : List V} {o : Obj} {u : HO} : HO.lst xs ≠ .frz o u := fun z => nomatch z
theorem dpAll_snoc : ∀ {ds : List PyData} {vs : List V} {d : PyData} {v : V}, DpAll K H vs ds → Dp K H v d → DpAll K H (vs ++ [v]) (ds ++ [d])
  | _, _, _, _, .nil, h => .cons h .nil
  | _, _, _, _, .cons a t, h => .cons a (dpAll_snoc t h)
theorem flatTs_app : ∀ (a b : List PyData), flatTs (a ++ b) = (flatTs a && flatTs b)
  | [], b => rfl
  | x :: a, b => by simp only [List.cons_append, flatTs, flatTs_app a b, Bool.and_assoc]
end
/-- statements whose derivation wants a fact that their reading asks -/
theorem pss_ex {α : Type} {X : Cx} {sts : List Stmt} {p : α → Prop} {t : α → TS} (h : ∀ a, p a → PSs X sts (t a)) : PSs X sts (fun D σ H => ∃ a, p a ∧ t a D σ H) :=
  ⟨fun pins s σ H D I ⟨a, pa, q⟩ => (h a pa).run pins s σ H D I q⟩
theorem pass0S {X : Cx} (σ : L2.St) : PassesAt CX0 X σ E0 := fun _ _ _ _ _ _ h => h.elim
end Xq
/-! M24: a line of signs cut into tokens, in plain Lean. -/
namespace M24
open PySem PySem.Spec PyProof.Rows L2 Xq
def sLet : Str := "abcdefghijklmnopqrstuvwxyz"
def sDig : Str := "0123456789"
def sSig : Str := "()[],="
abbrev inS (k : Str) (c : Nat) : Bool := decide (c ∈ k.cps.toList)
/-- the place behind the run of signs of k that begins at a place -/
def runE (l : List Nat) (k : Str) (at_ : Nat) : Nat := at_ + ((l.drop at_).takeWhile (inS k)).length
theorem drop_cons {l : List Nat} {i : Nat} {c : Nat} (h : l[i]? = some c) : l.drop i = c :: l.drop (i + 1) := by
  obtain ⟨lt, e⟩ := List.getElem?_eq_some_iff.mp h
  rw [List.drop_eq_getElem_cons lt, e]
theorem runE_in {l : List Nat} {k : Str} {i c : Nat} (h : l[i]? = some c) (hk : inS k c = true) : runE l k i = runE l k (i + 1) := by
  unfold runE
  rw [drop_cons h, List.takeWhile_cons, if_pos hk, List.length_cons]
  omega
theorem runE_out {l : List Nat} {k : Str} {i c : Nat} (h : l[i]? = some c) (hk : inS k c = false) : runE l k i = i := by
  unfold runE
  rw [drop_cons h, List.takeWhile_cons, if_neg (by rw [hk]; exact Bool.false_ne_true)]
  rfl
theorem runE_end {l : List Nat} {k : Str} {i : Nat} (h : l.length ≤ i) : runE l k i = i := by
  unfold runE
  rw [List.drop_eq_nil_of_le h]
  rfl
theorem runE_ge {l : List Nat} {k : Str} {i : Nat} : i ≤ runE l k i := Nat.le_add_right _ _
theorem runE_le {l : List Nat} {k : Str} {i : Nat} (h : i ≤ l.length) : runE l k i ≤ l.length := by
  unfold runE
  have h1 : ((l.drop i).takeWhile (inS k)).length ≤ (l.drop i).length := List.IsPrefix.length_le (List.takeWhile_prefix _)
  rw [List.length_drop] at h1
  omega
theorem tw_mem {p : Nat → Bool} : ∀ {l : List Nat} {x : Nat}, x ∈ l.takeWhile p → p x = true
  | [], _, h => by simp at h
  | a :: l, x, h => by
    rw [List.takeWhile_cons] at h
    by_cases c : p a = true
    · rw [if_pos c] at h
      rcases List.mem_cons.mp h with e | e
      · rw [e]
        exact c
      · exact tw_mem e
    · rw [if_neg c] at h
      simp at h
theorem tw_get {p : Nat → Bool} : ∀ {l : List Nat} {m : Nat}, m < (l.takeWhile p).length → (l.takeWhile p)[m]? = l[m]?
  | [], m, h => by simp at h
  | a :: l, m, h => by
    rw [List.takeWhile_cons] at h ⊢
    by_cases c : p a = true
    · rw [if_pos c] at h ⊢
      cases m with
      | zero => rfl
      | succ m =>
        rw [List.getElem?_cons_succ, List.getElem?_cons_succ]
        exact tw_get (by simpa using h)
    · rw [if_neg c] at h
      simp at h
theorem runE_all {l : List Nat} {k : Str} {i j : Nat} (h1 : i ≤ j) (h2 : j < runE l k i) : ∃ c, l[j]? = some c ∧ inS k c = true := by
  unfold runE at h2
  have h3 : j - i < ((l.drop i).takeWhile (inS k)).length := by omega
  have h4 : ((l.drop i).takeWhile (inS k))[j - i]? = some ((l.drop i).takeWhile (inS k))[j - i] := List.getElem?_eq_getElem h3
  refine ⟨((l.drop i).takeWhile (inS k))[j - i], ?_, tw_mem (List.getElem_mem h3)⟩
  rw [tw_get h3, List.getElem?_drop, show i + (j - i) = j by omega] at h4
  exact h4
/-! ### numbers -/
def numOf (z : Str) : Int := (PySem.intText? z).getD 0
theorem num1 : ∀ a : Fin 10, (PySem.intText? ⟨#[48 + a.val]⟩).isSome = true := by decide +kernel
theorem num2 : ∀ a b : Fin 10, (PySem.intText? ⟨#[48 + a.val, 48 + b.val]⟩).isSome = true := by decide +kernel
theorem dig_fin {c : Nat} (h : inS sDig c = true) : ∃ a : Fin 10, c = 48 + a.val := by
  have h1 : c ∈ sDig.cps.toList := of_decide_eq_true h
  have h2 : sDig.cps.toList = [48, 49, 50, 51, 52, 53, 54, 55, 56, 57] := by decide +kernel
  rw [h2] at h1
  have h3 : 48 ≤ c ∧ c ≤ 57 := by
    simp at h1
    omega
  exact ⟨⟨c - 48, by omega⟩, by show c = 48 + (c - 48); omega⟩
theorem num_some {z : Str} (h0 : z.length ≠ 0) (h2 : z.length ≤ 2) (hd : ∀ c ∈ z.cps.toList, inS sDig c = true) : PySem.intText? z = some (numOf z) := by
  have key : (PySem.intText? z).isSome = true := by
    obtain ⟨⟨l⟩⟩ := z
    match l, h0, h2, hd with
    | [a], _, _, hd =>
      obtain ⟨x, rfl⟩ := dig_fin (hd a (by simp))
      exact num1 x
    | [a, b], _, _, hd =>
      obtain ⟨x, rfl⟩ := dig_fin (hd a (by simp))
      obtain ⟨y, rfl⟩ := dig_fin (hd b (by simp))
      exact num2 x y
    | [], h, _, _ => exact absurd rfl h
    | _ :: _ :: _ :: _, _, h, _ => exact absurd h (by show ¬ _ + 1 + 1 + 1 ≤ 2; omega)
  obtain ⟨n, e⟩ := Option.isSome_iff_exists.mp key
  unfold numOf
  rw [e] <;> rfl
/-! ### slices -/
def cutN (z : Str) (i j : Nat) : Str := cutS z (some (i : Int)) (some (j : Int))
theorem cutN_list {z : Str} {i j : Nat} (h1 : i ≤ j) (h2 : j ≤ z.length) : (cutN z i j).cps.toList = (z.cps.toList.drop i).take (j - i) := by
  unfold cutN cutS
  rw [HT.sIx_nat, HT.sIx_nat, Nat.min_eq_left (Nat.le_trans h1 h2), Nat.min_eq_left h2]
theorem cutN_len {z : Str} {i j : Nat} (h1 : i ≤ j) (h2 : j ≤ z.length) : (cutN z i j).length = j - i := by
  show (cutN z i j).cps.size = j - i
  rw [← Array.length_toList, cutN_list h1 h2, List.length_take, List.length_drop]
  have : z.cps.toList.length = z.length := Array.length_toList
  omega
theorem cutN_get {z : Str} {i j m : Nat} (h1 : i ≤ j) (h2 : j ≤ z.length) (h3 : m < j - i) : (cutN z i j).cps.toList[m]? = z.cps.toList[i + m]? := by
  rw [cutN_list h1 h2, List.getElem?_take_of_lt h3, List.getElem?_drop]
theorem cut_num {z : Str} {i : Nat} (hi : i < z.length) (hc : ∃ c, z.cps.toList[i]? = some c ∧ inS sDig c = true) (h2 : ¬ runE z.cps.toList sDig i - i > 2) : PySem.intText? (cutN z i (runE z.cps.toList sDig i)) = some (numOf (cutN z i (runE z.cps.toList sDig i))) := by
  have el : z.cps.toList.length = z.length := Array.length_toList
  have le : runE z.cps.toList sDig i ≤ z.length := by rw [← el]; exact runE_le (by omega)
  have lt : i < runE z.cps.toList sDig i := by
    obtain ⟨c, h3, h4⟩ := hc
    rw [runE_in h3 h4]
    exact Nat.lt_of_lt_of_le (Nat.lt_succ_self i) runE_ge
  have len := cutN_len (Nat.le_of_lt lt) le
  refine num_some (by omega) (by omega) fun c hm => ?_
  obtain ⟨m, hm2⟩ := List.mem_iff_getElem?.mp hm
  have hm3 : m < runE z.cps.toList sDig i - i := by
    have h5 := (List.getElem?_eq_some_iff.mp hm2).1
    have h6 : (cutN z i (runE z.cps.toList sDig i)).cps.toList.length = (cutN z i (runE z.cps.toList sDig i)).length := Array.length_toList
    omega
  rw [cutN_get (Nat.le_of_lt lt) le hm3] at hm2
  obtain ⟨c', h7, h8⟩ := runE_all (l := z.cps.toList) (k := sDig) (i := i) (j := i + m) (by omega) (by omega)
  rw [h7] at hm2
  cases hm2
  exact h8
/-! ### the scan -/
/-- at a place: none, what may not stand there; else the next place and what is found -/
def stepAt (z : Str) (i : Nat) : Option (Nat × List PyData) := match z.cps.toList[i]? with
  | none => none
  | some c =>
    if inS sLet c = true then some (runE z.cps.toList sLet i, [.tuple [.str (cutN z i (runE z.cps.toList sLet i)), .int i]])
    else if inS sDig c = true then (if c = 48 ∨ runE z.cps.toList sDig i - i > 2 ∨ numOf (cutN z i (runE z.cps.toList sDig i)) > 40 then none else some (runE z.cps.toList sDig i, [.tuple [.int (numOf (cutN z i (runE z.cps.toList sDig i))), .int i]]))
    else if inS sSig c = true then some (i + 1, [.tuple [.str ⟨#[c]⟩, .int i]])
    else if c = 32 then some (i + 1, []) else none
def scanF (z : Str) : Nat → Nat → List PyData → Sum Nat (List PyData)
  | 0, _, acc => .inr acc
  | f + 1, i, acc => if i < z.length then (match stepAt z i with
    | none => .inl i
    | some (e, new) => scanF z f e (acc ++ new)) else .inr acc
def scanAt (z : Str) (i : Nat) (acc : List PyData) : Sum Nat (List PyData) := scanF z (z.length - i) i acc
theorem step_le {z : Str} {i e : Nat} {new : List PyData} (h : stepAt z i = some (e, new)) : i < e ∧ e ≤ z.length := by
  have el : z.cps.toList.length = z.length := Array.length_toList
  unfold stepAt at h
  cases hc : z.cps.toList[i]? with
  | none => rw [hc] at h; cases h
  | some c =>
    have lt : i < z.length := by rw [← el]; exact (List.getElem?_eq_some_iff.mp hc).1
    have big : ∀ k : Str, inS k c = true → i < runE z.cps.toList k i ∧ runE z.cps.toList k i ≤ z.length := fun k hk => by
      refine ⟨?_, by rw [← el]; exact runE_le (by omega)⟩
      rw [runE_in hc hk]
      exact Nat.lt_of_lt_of_le (Nat.lt_succ_self i) runE_ge
    rw [hc] at h
    simp only at h
    split at h
    · rename_i c1
      cases h
      exact big _ c1
    · split at h
      · rename_i c1
        split at h
        · cases h
        · cases h
          exact big _ c1
      · split at h
        · cases h
          exact ⟨by omega, by omega⟩
        · split at h
          · cases h
            exact ⟨by omega, by omega⟩
          · cases h
theorem scan_more {z : Str} : ∀ (f g i : Nat) (acc : List PyData), z.length - i ≤ f → z.length - i ≤ g → scanF z f i acc = scanF z g i acc
  | 0, 0, _, _, _, _ => rfl
  | 0, g + 1, i, acc, h, _ => by
    show _ = (if i < z.length then _ else Sum.inr acc)
    rw [if_neg (by omega)]
    rfl
  | f + 1, 0, i, acc, _, h => by
    show (if i < z.length then _ else Sum.inr acc) = _
    rw [if_neg (by omega)]
    rfl
  | f + 1, g + 1, i, acc, hf, hg => by
    show (if i < z.length then _ else Sum.inr acc) = (if i < z.length then _ else Sum.inr acc)
    by_cases c : i < z.length
    · rw [if_pos c, if_pos c]
      cases h : stepAt z i with
      | none => rfl
      | some p =>
        obtain ⟨e, new⟩ := p
        have := step_le h
        exact scan_more f g e (acc ++ new) (by omega) (by omega)
    · rw [if_neg c, if_neg c]
theorem scan_end {z : Str} {i : Nat} {acc : List PyData} (h : z.length ≤ i) : scanAt z i acc = .inr acc := by
  unfold scanAt
  rw [show z.length - i = 0 by omega]
  rfl
theorem scan_bad {z : Str} {i : Nat} {acc : List PyData} (h : i < z.length) (s : stepAt z i = none) : scanAt z i acc = .inl i := by
  unfold scanAt
  obtain ⟨f, e⟩ : ∃ f, z.length - i = f + 1 := ⟨z.length - i - 1, by omega⟩
  rw [e]
  show (if i < z.length then _ else _) = _
  rw [if_pos h, s]
theorem scan_step {z : Str} {i e : Nat} {acc new : List PyData} (h : i < z.length) (s : stepAt z i = some (e, new)) : scanAt z i acc = scanAt z e (acc ++ new) := by
  have le := step_le s
  unfold scanAt
  obtain ⟨f, ef⟩ : ∃ f, z.length - i = f + 1 := ⟨z.length - i - 1, by omega⟩
  rw [ef]
  show (if i < z.length then _ else _) = _
  rw [if_pos h, s]
  exact scan_more _ _ _ _ (by omega) (Nat.le_refl _)
/-- what is found is small -/
theorem step_nd {z : Str} {i e : Nat} {new : List PyData} (h : stepAt z i = some (e, new)) : ndL new ≤ 3 * (e - i) := by
  have le := step_le h
  unfold stepAt at h
  cases hc : z.cps.toList[i]? with
  | none => rw [hc] at h; cases h
  | some c =>
    rw [hc] at h
    simp only at h
    repeat' split at h
    all_goals cases h
    all_goals simp only [ndL, nd]
    all_goals omega
theorem scan_nd {z : Str} : ∀ (f i : Nat) (acc r : List PyData), ndL acc ≤ 3 * i → i ≤ z.length → scanF z f i acc = .inr r → ndL r ≤ 3 * z.length
  | 0, i, acc, r, h, hi, e => by
    cases e
    omega
  | f + 1, i, acc, r, h, hi, e => by
    have e : (if i < z.length then (match stepAt z i with
      | none => .inl i
      | some (e, new) => scanF z f e (acc ++ new)) else Sum.inr acc) = Sum.inr r := e
    by_cases c : i < z.length
    · rw [if_pos c] at e
      cases hs : stepAt z i with
      | none => rw [hs] at e; cases e
      | some p =>
        obtain ⟨e2, new⟩ := p
        rw [hs] at e
        have := step_le hs
        have := step_nd hs
        refine scan_nd f e2 (acc ++ new) r ?_ (by omega) e
        have app : ∀ a b : List PyData, ndL (a ++ b) = ndL a + ndL b := by
          intro a b
          induction a with
          | nil => simp [ndL]
          | cons x a ih => simp only [List.cons_append, ndL, ih]; omega
        rw [app]
        omega
    · rw [if_neg c] at e
      cases e
      omega
/-- what is due of a line: its tokens, or where it is bad -/
def outcome (z : Str) : Sum Nat (List PyData) := match scanAt z 0 [] with
  | .inl i => .inl i
  | .inr [] => .inl 0
  | .inr (a :: r) => .inr (a :: r)
def due (line : Int) (z : Str) : PyData := match outcome z with
  | .inl i => .list [.str "BadText", .tuple [.int line, .int (i : Int)]]
  | .inr acc => .list [.str "", .tuple acc]
theorem due_nd {line : Int} {z : Str} (h : z.length ≤ 300000) : nd (due line z) ≤ 999999 := by
  unfold due outcome
  cases e : scanAt z 0 [] with
  | inl i => simp [nd, ndL]
  | inr l =>
    cases l with
    | nil => simp [nd, ndL]
    | cons a r =>
      have := scan_nd (z := z) (z.length - 0) 0 [] (a :: r) (by simp [ndL]) (by omega) e
      simp only [nd, ndL] at this ⊢
      omega
end M24
/-! ### the text by places (printed by gen_head.py) -/
namespace K24
open PySem PySem.Spec PyProof.Rows L2 Xq
def topS (i : Nat) : Stmt := PySem.Challenge.pw_exitspeeled_k24_every_sign_of_a_line_as.main.body.getD i (.Pass ⟨0, 0, 0, 0⟩)
abbrev s_run_end : Stmt := topS 35
abbrev s_number_told : Stmt := topS 36
abbrev s_tokens : Stmt := topS 37
abbrev s_law_mix : Stmt := topS 39
abbrev s_law_open : Stmt := topS 40
abbrev s_law_nextcell : Stmt := topS 41
abbrev s_law_take : Stmt := topS 42
abbrev s_law_big : Stmt := topS 43
abbrev s_law_same : Stmt := topS 44
abbrev s_law_only : Stmt := topS 45
abbrev s_law_reading : Stmt := topS 46
abbrev s_law_behind : Stmt := topS 47
abbrev s_law_due : Stmt := topS 48
abbrev s_law_piece : Stmt := topS 49
abbrev s_law : Stmt := topS 50
abbrev s_BadText_init : Stmt := inClass (topS 8) 0
/-! ### the head -/
def d_run_end : He.DefD := ⟨("run_end", none), "run_end", "run_end", defArgs s_run_end, defBody s_run_end, defScope s_run_end, [], []⟩
def d_number_told : He.DefD := ⟨("number_told", none), "number_told", "number_told", defArgs s_number_told, defBody s_number_told, defScope s_number_told, [], []⟩
def d_tokens : He.DefD := ⟨("tokens", none), "tokens", "tokens", defArgs s_tokens, defBody s_tokens, defScope s_tokens, [], []⟩
def d_law_mix : He.DefD := ⟨("_law_mix", none), "_law_mix", "_law_mix", defArgs s_law_mix, defBody s_law_mix, defScope s_law_mix, [], []⟩
def d_law_open : He.DefD := ⟨("_law_open", none), "_law_open", "_law_open", defArgs s_law_open, defBody s_law_open, defScope s_law_open, [], []⟩
def d_law_nextcell : He.DefD := ⟨("_law_nextcell", none), "_law_nextcell", "_law_nextcell", defArgs s_law_nextcell, defBody s_law_nextcell, defScope s_law_nextcell, [], []⟩
def d_law_take : He.DefD := ⟨("_law_take", none), "_law_take", "_law_take", defArgs s_law_take, defBody s_law_take, defScope s_law_take, [], []⟩
def d_law_big : He.DefD := ⟨("_law_big", none), "_law_big", "_law_big", defArgs s_law_big, defBody s_law_big, defScope s_law_big, [], []⟩
def d_law_same : He.DefD := ⟨("_law_same", none), "_law_same", "_law_same", defArgs s_law_same, defBody s_law_same, defScope s_law_same, [], []⟩
def d_law_only : He.DefD := ⟨("_law_only", none), "_law_only", "_law_only", defArgs s_law_only, defBody s_law_only, defScope s_law_only, [], []⟩
def d_law_reading : He.DefD := ⟨("_law_reading", none), "_law_reading", "_law_reading", defArgs s_law_reading, defBody s_law_reading, defScope s_law_reading, [], []⟩
def d_law_behind : He.DefD := ⟨("_law_behind", none), "_law_behind", "_law_behind", defArgs s_law_behind, defBody s_law_behind, defScope s_law_behind, [], []⟩
def d_law_due : He.DefD := ⟨("_law_due", none), "_law_due", "_law_due", defArgs s_law_due, defBody s_law_due, defScope s_law_due, [], []⟩
def d_law_piece : He.DefD := ⟨("_law_piece", none), "_law_piece", "_law_piece", defArgs s_law_piece, defBody s_law_piece, defScope s_law_piece, [], []⟩
def d_law : He.DefD := ⟨("law", none), "law", "law", defArgs s_law, defBody s_law, defScope s_law, [], []⟩
def d_BadText_init : He.DefD := ⟨("BadText", some "__init__"), "__init__", "BadText.__init__", defArgs s_BadText_init, defBody s_BadText_init, defScope s_BadText_init, [], []⟩
def fn : List He.DefD := [d_run_end, d_number_told, d_tokens, d_law_mix, d_law_open, d_law_nextcell, d_law_take, d_law_big, d_law_same, d_law_only, d_law_reading, d_law_behind, d_law_due, d_law_piece, d_law, d_BadText_init]
def fa : List He.Fa := ([.glo "run_end", .glo "number_told", .glo "tokens", .glo "_law_mix", .glo "_law_open", .glo "_law_nextcell", .glo "_law_take", .glo "_law_big", .glo "_law_same", .glo "_law_only", .glo "_law_reading", .glo "_law_behind", .glo "_law_due", .glo "_law_piece", .glo "law", .glo "Refused", .glo "TooMany", .glo "Mismatch", .glo "BadWidth", .glo "BadExit", .glo "BadName", .glo "BadOuts", .glo "BadText", .glo "BadTree", .glo "BadForm", .glo "BadScript", .glo "BadMove", .glo "BadDevice", .glo "NoStep", .glo "BadTable", .glo "Ring", .glo "BadCode", .glo "OffEnd", .glo "NoAnswer", .glo "NoPlace", .glo "NotCatching", .glo "NotScript", .glo "BadDivision", .glo "NotMergeable", .glo "NotPiece"] : List He.Fa) ++ ([.glo "Unknown", .glo "Doubled", .glo "BadPrice", .glo "Nothing", .free "ValueError", .free "abs", .free "all", .free "bool", .free "int", .free "isinstance", .free "len", .free "list", .free "range", .free "str", .free "sum", .free "tuple", .str "LETTERS" "abcdefghijklmnopqrstuvwxyz", .str "DIGITS" "0123456789", .str "SIGNS" "()[],=", .int "MOST_NUMBER" 40] : List He.Fa)
def kinds_BadText : List (Str × Bool) := ([("Refused", true), ("TooMany", false), ("Mismatch", false), ("BadWidth", false), ("BadExit", false), ("BadName", false), ("BadOuts", false), ("BadText", true), ("BadTree", false), ("BadForm", false), ("BadScript", false), ("BadMove", false), ("BadDevice", false), ("NoStep", false), ("BadTable", false), ("Ring", false), ("BadCode", false), ("OffEnd", false), ("NoAnswer", false), ("NoPlace", false), ("NotCatching", false), ("NotScript", false), ("BadDivision", false), ("NotMergeable", false), ("NotPiece", false), ("Unknown", false), ("Doubled", false), ("BadPrice", false), ("Nothing", false)] : List (Str × Bool))
def exB_BadText (K : PySem.W.Frag) : Bool := xcB K (He.ga K "BadText") && (kindsB K (He.ga K "BadText") kinds_BadText && (He.eqO (PySem.W.findIn K (.ref (He.ga K "BadText")) "__init__") (some (some (.ref (He.ma K (He.ga K "BadText") "__init__")))) && (decide (PySem.W.typeIn K (.ref (He.ma K (He.ga K "BadText") "__init__")) = some (.type "function")) && (decide (PySem.W.kitOne K (.ref (He.ga K "BadText")) (.type "ValueError") = some true) && (decide (PySem.W.exmOne K (.ref (He.ga K "BadText")) (.ref (He.ga K "BadText")) = some true) && allB (["called", "line", "at"] : List Str) fun f => He.eqO (PySem.W.findIn K (.ref (He.ga K "BadText")) f) (some none))))))
def ex (K : PySem.W.Frag) : Bool := exB_BadText K
abbrev R : PySem.W.OpenRow := PySem.W.OpenLaw.row PySem.Challenge.rw_exitspeeled_k24_every_sign_of_a_line_as
abbrev hk : PySem.W.Hook := hookB 5 fa fn ex
def ob (s : PySem.W.SharedT) : AlB := obsB 5 fa fn ex (HandSHeadRun.getT s)
theorem ob_eq (s : PySem.W.SharedT) : ob s = hk.obs s.abs := obsB_eq (HandSHeadRun.getT_eq s)
def loose : List Str := ([("run_end" : Str), ("number_told" : Str), ("tokens" : Str), ("_law_mix" : Str), ("_law_open" : Str), ("_law_nextcell" : Str), ("_law_take" : Str), ("_law_big" : Str), ("_law_same" : Str), ("_law_only" : Str), ("_law_reading" : Str), ("_law_behind" : Str), ("_law_due" : Str), ("_law_piece" : Str), ("Refused" : Str), ("TooMany" : Str), ("Mismatch" : Str), ("BadWidth" : Str), ("BadExit" : Str), ("BadName" : Str), ("BadOuts" : Str), ("BadText" : Str), ("BadTree" : Str), ("BadForm" : Str), ("BadScript" : Str), ("BadMove" : Str), ("BadDevice" : Str), ("NoStep" : Str), ("BadTable" : Str), ("Ring" : Str), ("BadCode" : Str), ("OffEnd" : Str), ("NoAnswer" : Str), ("NoPlace" : Str), ("NotCatching" : Str), ("NotScript" : Str), ("BadDivision" : Str), ("NotMergeable" : Str), ("NotPiece" : Str), ("Unknown" : Str)] : List Str) ++ ([("Doubled" : Str), ("BadPrice" : Str), ("Nothing" : Str), ("LETTERS" : Str), ("DIGITS" : Str), ("SIGNS" : Str), ("MOST_NUMBER" : Str)] : List Str)
theorem run (w : World) : HandSHeadRun.RunEq R (PySem.W.view R.prog [50]) hk ob 20000 loose w := by
  intro os
  kernel_rfl
end K24
namespace K24
open PySem PySem.Spec PyProof.Rows L2 Xq
/-- what the top has written -/
structure Tx (K : PySem.W.Frag) (mg : Str → Option Value) : Prop where
  c : He.SaysD fa fn K
  e : ex K = true
  g : ∀ {x : Str}, (He.Fa.glo x).ok K = true → mg x = some (.ref (He.ga K x))
  n : ∀ {x : Str}, (He.Fa.free x).ok K = true → mg x = none
  s : ∀ {x z : Str}, (He.Fa.str x z).ok K = true → ∃ t, mg x = some (.str z t)
  i : ∀ {x : Str} {z : Int}, (He.Fa.int x z).ok K = true → ∃ t, mg x = some (.int z t)
theorem tx_of {K : PySem.W.Frag} {h : Heap} {mg : Str → Option Value} (X : K.In h) (G : h.Ns mainGlobals mg) (c : He.SaysD fa fn K) (e : ex K = true) : Tx K mg := ⟨c, e, fun q => He.glo_ok X G q, fun q => He.free_ok X G q, fun q => He.str_ok X G q, fun q => He.int_ok X G q⟩
section
variable {P : Program} {w : World} {K : PySem.W.Frag} {mg : Str → Option Value} {base : Heap}
theorem dd_run_end (T : Tx K mg) : ∃ fd, Dd K mg "run_end" s_run_end (He.ga K "run_end") fd := by
  obtain ⟨fd, F⟩ := T.c.def_ 0 (d := d_run_end) rfl
  exact ⟨fd, F, T.g (T.c.fact 0 (f := .glo "run_end") rfl)⟩
theorem dd_number_told (T : Tx K mg) : ∃ fd, Dd K mg "number_told" s_number_told (He.ga K "number_told") fd := by
  obtain ⟨fd, F⟩ := T.c.def_ 1 (d := d_number_told) rfl
  exact ⟨fd, F, T.g (T.c.fact 1 (f := .glo "number_told") rfl)⟩
theorem dd_tokens (T : Tx K mg) : ∃ fd, Dd K mg "tokens" s_tokens (He.ga K "tokens") fd := by
  obtain ⟨fd, F⟩ := T.c.def_ 2 (d := d_tokens) rfl
  exact ⟨fd, F, T.g (T.c.fact 2 (f := .glo "tokens") rfl)⟩
theorem dd_law_mix (T : Tx K mg) : ∃ fd, Dd K mg "_law_mix" s_law_mix (He.ga K "_law_mix") fd := by
  obtain ⟨fd, F⟩ := T.c.def_ 3 (d := d_law_mix) rfl
  exact ⟨fd, F, T.g (T.c.fact 3 (f := .glo "_law_mix") rfl)⟩
theorem dd_law_open (T : Tx K mg) : ∃ fd, Dd K mg "_law_open" s_law_open (He.ga K "_law_open") fd := by
  obtain ⟨fd, F⟩ := T.c.def_ 4 (d := d_law_open) rfl
  exact ⟨fd, F, T.g (T.c.fact 4 (f := .glo "_law_open") rfl)⟩
theorem dd_law_nextcell (T : Tx K mg) : ∃ fd, Dd K mg "_law_nextcell" s_law_nextcell (He.ga K "_law_nextcell") fd := by
  obtain ⟨fd, F⟩ := T.c.def_ 5 (d := d_law_nextcell) rfl
  exact ⟨fd, F, T.g (T.c.fact 5 (f := .glo "_law_nextcell") rfl)⟩
theorem dd_law_take (T : Tx K mg) : ∃ fd, Dd K mg "_law_take" s_law_take (He.ga K "_law_take") fd := by
  obtain ⟨fd, F⟩ := T.c.def_ 6 (d := d_law_take) rfl
  exact ⟨fd, F, T.g (T.c.fact 6 (f := .glo "_law_take") rfl)⟩
theorem dd_law_big (T : Tx K mg) : ∃ fd, Dd K mg "_law_big" s_law_big (He.ga K "_law_big") fd := by
  obtain ⟨fd, F⟩ := T.c.def_ 7 (d := d_law_big) rfl
  exact ⟨fd, F, T.g (T.c.fact 7 (f := .glo "_law_big") rfl)⟩
theorem dd_law_same (T : Tx K mg) : ∃ fd, Dd K mg "_law_same" s_law_same (He.ga K "_law_same") fd := by
  obtain ⟨fd, F⟩ := T.c.def_ 8 (d := d_law_same) rfl
  exact ⟨fd, F, T.g (T.c.fact 8 (f := .glo "_law_same") rfl)⟩
theorem dd_law_only (T : Tx K mg) : ∃ fd, Dd K mg "_law_only" s_law_only (He.ga K "_law_only") fd := by
  obtain ⟨fd, F⟩ := T.c.def_ 9 (d := d_law_only) rfl
  exact ⟨fd, F, T.g (T.c.fact 9 (f := .glo "_law_only") rfl)⟩
theorem dd_law_reading (T : Tx K mg) : ∃ fd, Dd K mg "_law_reading" s_law_reading (He.ga K "_law_reading") fd := by
  obtain ⟨fd, F⟩ := T.c.def_ 10 (d := d_law_reading) rfl
  exact ⟨fd, F, T.g (T.c.fact 10 (f := .glo "_law_reading") rfl)⟩
theorem dd_law_behind (T : Tx K mg) : ∃ fd, Dd K mg "_law_behind" s_law_behind (He.ga K "_law_behind") fd := by
  obtain ⟨fd, F⟩ := T.c.def_ 11 (d := d_law_behind) rfl
  exact ⟨fd, F, T.g (T.c.fact 11 (f := .glo "_law_behind") rfl)⟩
theorem dd_law_due (T : Tx K mg) : ∃ fd, Dd K mg "_law_due" s_law_due (He.ga K "_law_due") fd := by
  obtain ⟨fd, F⟩ := T.c.def_ 12 (d := d_law_due) rfl
  exact ⟨fd, F, T.g (T.c.fact 12 (f := .glo "_law_due") rfl)⟩
theorem dd_law_piece (T : Tx K mg) : ∃ fd, Dd K mg "_law_piece" s_law_piece (He.ga K "_law_piece") fd := by
  obtain ⟨fd, F⟩ := T.c.def_ 13 (d := d_law_piece) rfl
  exact ⟨fd, F, T.g (T.c.fact 13 (f := .glo "_law_piece") rfl)⟩
theorem dd_law (T : Tx K mg) : ∃ fd, Dd K mg "law" s_law (He.ga K "law") fd := by
  obtain ⟨fd, F⟩ := T.c.def_ 14 (d := d_law) rfl
  exact ⟨fd, F, T.g (T.c.fact 14 (f := .glo "law") rfl)⟩
theorem g_Refused (T : Tx K mg) : mg "Refused" = some (.ref (He.ga K "Refused")) := T.g (T.c.fact 15 (f := .glo "Refused") rfl)
theorem g_TooMany (T : Tx K mg) : mg "TooMany" = some (.ref (He.ga K "TooMany")) := T.g (T.c.fact 16 (f := .glo "TooMany") rfl)
theorem g_Mismatch (T : Tx K mg) : mg "Mismatch" = some (.ref (He.ga K "Mismatch")) := T.g (T.c.fact 17 (f := .glo "Mismatch") rfl)
theorem g_BadWidth (T : Tx K mg) : mg "BadWidth" = some (.ref (He.ga K "BadWidth")) := T.g (T.c.fact 18 (f := .glo "BadWidth") rfl)
theorem g_BadExit (T : Tx K mg) : mg "BadExit" = some (.ref (He.ga K "BadExit")) := T.g (T.c.fact 19 (f := .glo "BadExit") rfl)
theorem g_BadName (T : Tx K mg) : mg "BadName" = some (.ref (He.ga K "BadName")) := T.g (T.c.fact 20 (f := .glo "BadName") rfl)
theorem g_BadOuts (T : Tx K mg) : mg "BadOuts" = some (.ref (He.ga K "BadOuts")) := T.g (T.c.fact 21 (f := .glo "BadOuts") rfl)
theorem g_BadText (T : Tx K mg) : mg "BadText" = some (.ref (He.ga K "BadText")) := T.g (T.c.fact 22 (f := .glo "BadText") rfl)
theorem g_BadTree (T : Tx K mg) : mg "BadTree" = some (.ref (He.ga K "BadTree")) := T.g (T.c.fact 23 (f := .glo "BadTree") rfl)
theorem g_BadForm (T : Tx K mg) : mg "BadForm" = some (.ref (He.ga K "BadForm")) := T.g (T.c.fact 24 (f := .glo "BadForm") rfl)
theorem g_BadScript (T : Tx K mg) : mg "BadScript" = some (.ref (He.ga K "BadScript")) := T.g (T.c.fact 25 (f := .glo "BadScript") rfl)
theorem g_BadMove (T : Tx K mg) : mg "BadMove" = some (.ref (He.ga K "BadMove")) := T.g (T.c.fact 26 (f := .glo "BadMove") rfl)
theorem g_BadDevice (T : Tx K mg) : mg "BadDevice" = some (.ref (He.ga K "BadDevice")) := T.g (T.c.fact 27 (f := .glo "BadDevice") rfl)
theorem g_NoStep (T : Tx K mg) : mg "NoStep" = some (.ref (He.ga K "NoStep")) := T.g (T.c.fact 28 (f := .glo "NoStep") rfl)
theorem g_BadTable (T : Tx K mg) : mg "BadTable" = some (.ref (He.ga K "BadTable")) := T.g (T.c.fact 29 (f := .glo "BadTable") rfl)
theorem g_Ring (T : Tx K mg) : mg "Ring" = some (.ref (He.ga K "Ring")) := T.g (T.c.fact 30 (f := .glo "Ring") rfl)
theorem g_BadCode (T : Tx K mg) : mg "BadCode" = some (.ref (He.ga K "BadCode")) := T.g (T.c.fact 31 (f := .glo "BadCode") rfl)
theorem g_OffEnd (T : Tx K mg) : mg "OffEnd" = some (.ref (He.ga K "OffEnd")) := T.g (T.c.fact 32 (f := .glo "OffEnd") rfl)
theorem g_NoAnswer (T : Tx K mg) : mg "NoAnswer" = some (.ref (He.ga K "NoAnswer")) := T.g (T.c.fact 33 (f := .glo "NoAnswer") rfl)
theorem g_NoPlace (T : Tx K mg) : mg "NoPlace" = some (.ref (He.ga K "NoPlace")) := T.g (T.c.fact 34 (f := .glo "NoPlace") rfl)
theorem g_NotCatching (T : Tx K mg) : mg "NotCatching" = some (.ref (He.ga K "NotCatching")) := T.g (T.c.fact 35 (f := .glo "NotCatching") rfl)
theorem g_NotScript (T : Tx K mg) : mg "NotScript" = some (.ref (He.ga K "NotScript")) := T.g (T.c.fact 36 (f := .glo "NotScript") rfl)
theorem g_BadDivision (T : Tx K mg) : mg "BadDivision" = some (.ref (He.ga K "BadDivision")) := T.g (T.c.fact 37 (f := .glo "BadDivision") rfl)
theorem g_NotMergeable (T : Tx K mg) : mg "NotMergeable" = some (.ref (He.ga K "NotMergeable")) := T.g (T.c.fact 38 (f := .glo "NotMergeable") rfl)
theorem g_NotPiece (T : Tx K mg) : mg "NotPiece" = some (.ref (He.ga K "NotPiece")) := T.g (T.c.fact 39 (f := .glo "NotPiece") rfl)
theorem g_Unknown (T : Tx K mg) : mg "Unknown" = some (.ref (He.ga K "Unknown")) := T.g (T.c.fact 40 (f := .glo "Unknown") rfl)
theorem g_Doubled (T : Tx K mg) : mg "Doubled" = some (.ref (He.ga K "Doubled")) := T.g (T.c.fact 41 (f := .glo "Doubled") rfl)
theorem g_BadPrice (T : Tx K mg) : mg "BadPrice" = some (.ref (He.ga K "BadPrice")) := T.g (T.c.fact 42 (f := .glo "BadPrice") rfl)
theorem g_Nothing (T : Tx K mg) : mg "Nothing" = some (.ref (He.ga K "Nothing")) := T.g (T.c.fact 43 (f := .glo "Nothing") rfl)
theorem m_ValueError (T : Tx K mg) : mg "ValueError" = none := T.n (T.c.fact 44 (f := .free "ValueError") rfl)
theorem m_abs (T : Tx K mg) : mg "abs" = none := T.n (T.c.fact 45 (f := .free "abs") rfl)
theorem m_all (T : Tx K mg) : mg "all" = none := T.n (T.c.fact 46 (f := .free "all") rfl)
theorem m_bool (T : Tx K mg) : mg "bool" = none := T.n (T.c.fact 47 (f := .free "bool") rfl)
theorem m_int (T : Tx K mg) : mg "int" = none := T.n (T.c.fact 48 (f := .free "int") rfl)
theorem m_isinstance (T : Tx K mg) : mg "isinstance" = none := T.n (T.c.fact 49 (f := .free "isinstance") rfl)
theorem m_len (T : Tx K mg) : mg "len" = none := T.n (T.c.fact 50 (f := .free "len") rfl)
theorem m_list (T : Tx K mg) : mg "list" = none := T.n (T.c.fact 51 (f := .free "list") rfl)
theorem m_range (T : Tx K mg) : mg "range" = none := T.n (T.c.fact 52 (f := .free "range") rfl)
theorem m_str (T : Tx K mg) : mg "str" = none := T.n (T.c.fact 53 (f := .free "str") rfl)
theorem m_sum (T : Tx K mg) : mg "sum" = none := T.n (T.c.fact 54 (f := .free "sum") rfl)
theorem m_tuple (T : Tx K mg) : mg "tuple" = none := T.n (T.c.fact 55 (f := .free "tuple") rfl)
theorem c_LETTERS (T : Tx K mg) : ∃ t, mg "LETTERS" = some (.str "abcdefghijklmnopqrstuvwxyz" t) := T.s (T.c.fact 56 (f := .str "LETTERS" "abcdefghijklmnopqrstuvwxyz") rfl)
theorem c_DIGITS (T : Tx K mg) : ∃ t, mg "DIGITS" = some (.str "0123456789" t) := T.s (T.c.fact 57 (f := .str "DIGITS" "0123456789") rfl)
theorem c_SIGNS (T : Tx K mg) : ∃ t, mg "SIGNS" = some (.str "()[],=" t) := T.s (T.c.fact 58 (f := .str "SIGNS" "()[],=") rfl)
theorem c_MOST_NUMBER (T : Tx K mg) : ∃ t, mg "MOST_NUMBER" = some (.int 40 t) := T.i (T.c.fact 59 (f := .int "MOST_NUMBER" 40) rfl)
theorem ex_BadText (T : Tx K mg) : exB_BadText K = true := by
  have h : ex K = true := T.e
  exact h
theorem xc_BadText (T : Tx K mg) : Xc K (He.ga K "BadText") := xcB_ok (He.ba (ex_BadText T)).1
theorem ki_BadText (T : Tx K mg) {x : Str} {b : Bool} (h : (x, b) ∈ kinds_BadText) : PySem.W.kitOne K (.ref (He.ga K "BadText")) (.ref (He.ga K x)) = some b := kindsB_ok (He.ba (He.ba (ex_BadText T)).2).1 h
theorem in_BadText (T : Tx K mg) : PySem.W.findIn K (.ref (He.ga K "BadText")) "__init__" = some (some (.ref (He.ma K (He.ga K "BadText") "__init__"))) := He.eqO_ok (He.ba (He.ba (He.ba (ex_BadText T)).2).2).1
theorem it_BadText (T : Tx K mg) : PySem.W.typeIn K (.ref (He.ma K (He.ga K "BadText") "__init__")) = some (.type "function") := of_decide_eq_true (He.ba (He.ba (He.ba (He.ba (ex_BadText T)).2).2).2).1
theorem ve_BadText (T : Tx K mg) : PySem.W.kitOne K (.ref (He.ga K "BadText")) (.type "ValueError") = some true := of_decide_eq_true (He.ba (He.ba (He.ba (He.ba (He.ba (ex_BadText T)).2).2).2).2).1
theorem em_BadText (T : Tx K mg) : PySem.W.exmOne K (.ref (He.ga K "BadText")) (.ref (He.ga K "BadText")) = some true := of_decide_eq_true (He.ba (He.ba (He.ba (He.ba (He.ba (He.ba (ex_BadText T)).2).2).2).2).2).1
theorem fl_BadText (T : Tx K mg) {f : Str} (h : f ∈ (["called", "line", "at"] : List Str)) : PySem.W.findIn K (.ref (He.ga K "BadText")) f = some none := He.eqO_ok (allB_ok (p := fun f => He.eqO (PySem.W.findIn K (.ref (He.ga K "BadText")) f) (some none)) (He.ba (He.ba (He.ba (He.ba (He.ba (He.ba (ex_BadText T)).2).2).2).2).2).2 h)
def mk_BadText : List V → List (Str × V) := fun vs => [("at", vs.getD 1 .non), ("line", vs.getD 0 .non), ("called", .str "BadText")]
theorem sc_BadText : FnScope ["self", "line", "at"] ["self", "line", "at"] (defScope s_BadText_init) := ⟨rfl, rfl, rfl, by decide +kernel, rfl, by decide +kernel, by decide +kernel⟩
theorem x_BadText (T : Tx K mg) : XM P w K mg base "BadText" (He.ga K "BadText") 2 mk_BadText := by
  obtain ⟨fd, F⟩ := T.c.def_ 15 (d := d_BadText_init) rfl
  refine ⟨xc_BadText T, g_BadText T, ⟨He.ma K (He.ga K "BadText") "__init__", fd, ["self", "line", "at"], in_BadText T, it_BadText T, ?_, F.bindsN fun _ _ _ _ _ _ us hl => match us, hl with | [_, _, _], _ => rfl⟩⟩
  refine F.ok sc_BadText (fun vs H Q E h => ?_) (fun cdv A outer s H vs Q E hr h => ?_)
  · obtain ⟨a, ws, rfl, hl, _⟩ := h
    exact congrArg Nat.succ hl
  · obtain ⟨a, ws, rfl, hl, ha, q⟩ := h
    obtain ⟨w0, w1, rfl⟩ : ∃ w0 w1, ws = [w0, w1] := by
      match ws, hl with
      | [w0, w1], _ => exact ⟨w0, w1, rfl⟩
    refine ⟨_, PSs.nox (pss_cons (ps_ost (pv 0) pe_str) (pss_cons (ps_ost (pv 0) (pv 1)) (pss_one (ps_ost (pv 0) (pv 2))))), ?_⟩
    refine ⟨_, rfl, a, _, rfl, (xc_BadText T).o, fl_BadText T (by decide), Or.inl ⟨ha, fun d nd ne => ?_⟩⟩
    refine ⟨_, rfl, _, rfl, a, _, rfl, (xc_BadText T).o, fl_BadText T (by decide), Or.inr ⟨d, _, upd_same, ini_at ne, by simp, ?_⟩⟩
    rw [ini_more ne]
    refine ⟨_, rfl, _, rfl, a, _, rfl, (xc_BadText T).o, fl_BadText T (by decide), Or.inr ⟨d, _, upd_same, ini_at ne, by simp, ?_⟩⟩
    rw [ini_more ne]
    exact q d nd ne
end
end K24
namespace K24
open PySem PySem.Spec PyProof.Rows L2 Xq
/-! ### the law's draws (common) -/
/-- all that stood but a -/
def Kp (a : Addr) (H H' : Hp) : Prop := ∀ b o, H b = some o → b ≠ a → H' b = some o
theorem Kp.refl (a : Addr) (H : Hp) : Kp a H H := fun _ _ h _ => h
theorem Kp.trans {a : Addr} {H H1 H2 : Hp} (x : Kp a H H1) (y : Kp a H1 H2) : Kp a H H2 := fun b o h n => y b o (x b o h n) n
theorem Kp.put {a : Addr} {H : Hp} {o : HO} : Kp a H (upd H a o) := fun b u h n => by rw [upd_ne n]; exact h
theorem Kp.of {a : Addr} {H H' : Hp} (x : Same H H') : Kp a H H' := fun b o h _ => x b o h
/-- the store -/
def sto (ce : Addr) (pos : Nat) (cur left beat seed mode : Int) : HO := .lst [.ref ce, .int pos, .int cur, .int left, .int beat, .int seed, .int mode]
def St7 (H : Hp) (a ce : Addr) : Prop := ∃ (cs : List Int) (pos : Nat) (cur left beat seed mode : Int), H a = some (sto ce pos cur left beat seed mode) ∧ H ce = some (.lst (cs.map V.int)) ∧ cs.length ≤ 63 ∧ ce ≠ a
theorem St7.same {H H' : Hp} {a ce : Addr} (x : Same H H') (h : St7 H a ce) : St7 H' a ce := by
  obtain ⟨cs, pos, cur, left, beat, seed, mode, h1, h2, h3, h4⟩ := h
  exact ⟨cs, pos, cur, left, beat, seed, mode, x _ _ h1, x _ _ h2, h3, h4⟩
theorem St7.there {H : Hp} {a ce : Addr} (h : St7 H a ce) : ∃ xs, H a = some (.lst xs) := by
  obtain ⟨cs, pos, cur, left, beat, seed, mode, h1, _⟩ := h
  exact ⟨_, h1⟩
def spMix : Sp := fun vs H Q _ => ∃ n b : Int, vs = [.int n, .int b] ∧ ∀ r : Int, 0 ≤ r → Q (.int r) H
def spNext : Sp := fun vs H Q _ => ∃ a ce : Addr, vs = [.ref a] ∧ St7 H a ce ∧ ∀ H', Kp a H H' → St7 H' a ce → Q .non H'
def spTake : Sp := fun vs H Q _ => ∃ (a : Addr) (m : Int) (ce : Addr), vs = [.ref a, .int m] ∧ m < 1606938044258990275541962092341162602522202993782792835301376 ∧ St7 H a ce ∧
  ∀ (n : Int) (H' : Hp), 0 ≤ n → (2 ≤ m → n < m) → (m < 2 → n = 0) → Kp a H H' → St7 H' a ce → Q (.int n) H'
def spOpen (K : PySem.W.Frag) : Sp := fun vs H Q _ => ∃ (a : Addr) (ns : List Int), vs = [.ref a] ∧ SqL K H a (ns.map V.int) ∧ ns.length ≤ 63 ∧ ∀ (p ce : Addr) (H' : Hp), H p = none → Same H H' → St7 H' p ce → Q (.ref p) H'
theorem pow_ok {i j : Int} (h : 0 ≤ j ∧ (Builtin.Int.intBits i : Int) * j ≤ 2 ^ 27) : CPowW i j := h
section
variable {P : Program} {w : World} {K : PySem.W.Frag} {mg : Str → Option Value} {base : Heap}
abbrev N_law_mix : List Str := ["number", "beat", "prime", "mixed"]
theorem sc_law_mix : FnScope N_law_mix ["number", "beat"] (defScope s_law_mix) := ⟨rfl, rfl, rfl, by decide +kernel, rfl, by decide +kernel, by decide +kernel⟩
theorem bi_law_mix {K : PySem.W.Frag} {mg : Str → Option Value} {f : Addr} {fd : FuncData} (D : Dd K mg "_law_mix" s_law_mix f fd) : Binds K fd ["number", "beat"] [] := D.fn.bindsN fun _ _ _ _ _ _ us hl => match us, hl with | [_, _], _ => rfl
theorem ok_law_mix (T : Tx K mg) : OkF P w K mg base CX0 1 "_law_mix" ["number", "beat"] spMix := by
  obtain ⟨fd, D⟩ := dd_law_mix T
  refine okF0 D sc_law_mix (bi_law_mix D) (fun vs H Q E h => ?_) (fun cdv A outer s H vs Q E hr h => ?_)
  · obtain ⟨n, b, rfl, _⟩ := h
    rfl
  · obtain ⟨n, b, rfl, q⟩ := h
    refine ⟨_, (pss_cons (ps_set (i := 2) sc_law_mix.nd rfl (Or.inl rfl) pe_int)
      (pss_cons (ps_set (i := 3) sc_law_mix.nd rfl (Or.inl rfl) (pe_op op_mod (pe_callTy call_int1 (by rfl) (m_int T) (by decide +kernel) (pa_cons (pe_op op_add (pe_op op_add (pe_op op_mul (pv 0) pe_int) (pe_op op_mul (pv 1) pe_int)) pe_int) pa_nil)) (pv 2)))
      (pss_cons (ps_set (i := 3) sc_law_mix.nd rfl (Or.inl rfl) (pe_op op_mod (pe_callTy call_int1 (by rfl) (m_int T) (by decide +kernel) (pa_cons (pe_op op_add (pe_op op_add (pe_op op_mul (pv 3) (pv 3)) (pe_op op_mul (pv 1) pe_int)) (pv 0)) pa_nil)) (pv 2)))
      (pss_one (ps_ret (pe_op op_fdivW (pe_op op_mod (pe_callTy call_int1 (by rfl) (m_int T) (by decide +kernel) (pa_cons (pe_op op_mul (pv 3) (pv 3)) pa_nil)) (pv 2)) pe_int)))))), ?_⟩
    have pp : (0 : Int) < 2305843009213693951 := by decide
    have e1 : CMul n 6364136223846793005 := .inr (by decide)
    have e2 : ∀ x : Int, CMul x 1442695040888963407 := fun x => .inr (by decide)
    have e3 : ∀ x : Int, CMul x 2862933555777941757 := fun x => .inr (by decide)
    have e4 : ∀ x : Int, CMul (x % 2305843009213693951) (x % 2305843009213693951) := fun x => .inr ⟨by omega, by omega⟩
    refine ⟨_, rfl, _, _, rfl, rfl, e1, _, rfl, _, _, rfl, rfl, e2 _, _, _, rfl, rfl, _, _, rfl, rfl, .inl ⟨_, rfl, _, rfl, _, _, rfl, rfl, pp, ?_⟩⟩
    refine ⟨_, rfl, _, rfl, _, _, rfl, rfl, e4 _, _, rfl, _, _, rfl, rfl, e3 _, _, _, rfl, rfl, _, rfl, _, _, rfl, rfl, .inl ⟨_, rfl, _, rfl, _, _, rfl, rfl, pp, ?_⟩⟩
    refine ⟨_, rfl, _, rfl, _, _, rfl, rfl, e4 _, .inl ⟨_, rfl, _, rfl, _, _, rfl, rfl, pp, _, _, rfl, rfl, wide_div (b := 20) (by decide) (by decide) (by decide) (by decide), ?_⟩⟩
    exact q _ (Int.ediv_nonneg (Int.emod_nonneg _ (by decide)) (by decide))
abbrev N_law_nextcell : List Str := ["store", "cells"]
theorem sc_law_nextcell : FnScope N_law_nextcell ["store"] (defScope s_law_nextcell) := ⟨rfl, rfl, rfl, by decide +kernel, rfl, by decide +kernel, by decide +kernel⟩
theorem bi_law_nextcell {K : PySem.W.Frag} {mg : Str → Option Value} {f : Addr} {fd : FuncData} (D : Dd K mg "_law_nextcell" s_law_nextcell f fd) : Binds K fd ["store"] [] := D.fn.bindsN fun _ _ _ _ _ _ us hl => match us, hl with | [_], _ => rfl
theorem ok_law_nextcell (T : Tx K mg) : OkF P w K mg base CX0 1 "_law_nextcell" ["store"] spNext := by
  obtain ⟨fd, D⟩ := dd_law_nextcell T
  refine okF0 D sc_law_nextcell (bi_law_nextcell D) (fun vs H Q E h => ?_) (fun cdv A outer s H vs Q E hr h => ?_)
  · obtain ⟨a, ce, rfl, _⟩ := h
    rfl
  · obtain ⟨a, ce, rfl, ⟨cs, pos, cur, left, beat, seed, mode, h1, h2, h3, h4⟩, q⟩ := h
    refine ⟨_, (pss_cons (ps_set (i := 1) sc_law_nextcell.nd rfl (Or.inl rfl) (pe_ix ix_list (pv 0) pe_int (fun _ _ => rfl)))
      (pss_one (ps_if (pt_cmpR op_lt (pe_ix ix_list (pv 0) pe_int (fun _ _ => rfl)) (pe_callB call_len_seq (by rfl) (m_len T) (by decide +kernel) (pa_cons (pv 1) pa_nil)) (nomark _))
      (pss_cons (ps_asg (pe_ix ix_list (pv 1) (pe_ix ix_list (pv 0) pe_int (fun _ _ => rfl)) (fun _ _ => rfl)) (pg_sub (pv 0) pe_int set_list))
      (pss_cons (ps_asg (pe_op op_add (pe_ix ix_list (pv 0) pe_int (fun _ _ => rfl)) pe_int) (pg_sub (pv 0) pe_int set_list))
      (pss_cons (ps_asg (pe_callTy call_int1 (by rfl) (m_int T) (by decide +kernel) (pa_cons (pe_cmpR op_ge (pe_ix ix_list (pv 0) pe_int (fun _ _ => rfl)) (pe_op op_powW pe_int pe_int) (nomark _)) pa_nil)) (pg_sub (pv 0) pe_int set_list))
      (pss_one (ps_asg (pe_op op_add pe_int (pe_op op_mul pe_int (pe_ix ix_list (pv 0) pe_int (fun _ _ => rfl)))) (pg_sub (pv 0) pe_int set_list))))))
      (pss_cons (ps_asg (pe_ix ix_list (pv 0) pe_int (fun _ _ => rfl)) (pg_sub (pv 0) pe_int set_list))
      (pss_one (ps_asg pe_int (pg_sub (pv 0) pe_int set_list))))))), ?_⟩
    have hC : ∀ {u : HO}, (upd H a u) ce = some (.lst (cs.map V.int)) := fun {u} => by rw [upd_ne h4]; exact h2
    have s1 : SqL K H a [.ref ce, .int pos, .int cur, .int left, .int beat, .int seed, .int mode] := SqL.of h1
    refine ⟨_, rfl, _, _, _, _, rfl, rfl, s1, rfl, ?_⟩
    refine ⟨_, rfl, _, _, _, _, rfl, rfl, s1, rfl, _, rfl, ce, _, rfl, .inl (SqL.of h2), _, _, rfl, rfl, _, rfl, ite2 (fun c => ?_) (fun c => ?_)⟩
    · have lt : pos < cs.length := by
        have c' := of_decide_eq_true c
        rw [List.length_map] at c'
        omega
      have g : atI (cs.map V.int) (pos : Int) = some (.int cs[pos]) := atI_nat (by rw [List.getElem?_map, List.getElem?_eq_getElem lt]; rfl)
      -- store[2] = cells[store[1]]
      refine ⟨_, rfl, _, rfl, _, _, _, _, rfl, rfl, s1, rfl, _, _, _, _, rfl, rfl, SqL.of h2, g, _, rfl, _, _, _, _, rfl, rfl, h1, rfl, ?_⟩
      -- store[1] = store[1] + 1
      have s2 : SqL K (upd H a (sto ce pos cs[pos] left beat seed mode)) a [.ref ce, .int pos, .int cs[pos], .int left, .int beat, .int seed, .int mode] := SqL.of upd_same
      refine ⟨_, rfl, _, _, _, _, rfl, rfl, s2, rfl, _, _, rfl, rfl, _, rfl, _, _, _, _, rfl, rfl, upd_same, rfl, ?_⟩
      rw [upd_upd]
      have s3 : SqL K (upd H a (sto ce (pos + 1) cs[pos] left beat seed mode)) a [.ref ce, .int (pos + 1 : Nat), .int cs[pos], .int left, .int beat, .int seed, .int mode] := SqL.of upd_same
      -- store[6] = int(store[2] >= 10 ** 18)
      refine ⟨_, rfl, _, _, _, _, rfl, rfl, s3, rfl, _, _, rfl, rfl, pow_ok (by decide +kernel), _, _, rfl, rfl, .inr ⟨_, rfl, _, rfl, _, _, _, _, rfl, rfl, upd_same, rfl, ?_⟩⟩
      rw [upd_upd]
      -- store[3] = 6 + 54 * store[6]
      refine ⟨_, rfl, _, _, _, _, rfl, rfl, SqL.of upd_same, rfl, _, _, rfl, rfl, .inl (by decide), _, _, rfl, rfl, _, rfl, _, _, _, _, rfl, rfl, upd_same, rfl, ?_⟩
      rw [upd_upd]
      exact q _ Kp.put ⟨cs, pos + 1, _, _, _, _, _, upd_same, hC, h3, h4⟩
    · -- store[2] = store[5]; store[6] = 2
      refine ⟨_, rfl, _, _, _, _, rfl, rfl, s1, rfl, _, rfl, _, _, _, _, rfl, rfl, h1, rfl, ?_⟩
      refine ⟨_, rfl, _, _, _, _, rfl, rfl, upd_same, rfl, ?_⟩
      rw [upd_upd]
      exact q _ Kp.put ⟨cs, pos, _, _, _, _, _, upd_same, hC, h3, h4⟩
abbrev N_law_take : List Str := ["store", "many", "number"]
theorem sc_law_take : FnScope N_law_take ["store", "many"] (defScope s_law_take) := ⟨rfl, rfl, rfl, by decide +kernel, rfl, by decide +kernel, by decide +kernel⟩
theorem bi_law_take {K : PySem.W.Frag} {mg : Str → Option Value} {f : Addr} {fd : FuncData} (D : Dd K mg "_law_take" s_law_take f fd) : Binds K fd ["store", "many"] [] := D.fn.bindsN fun _ _ _ _ _ _ us hl => match us, hl with | [_, _], _ => rfl
theorem ok_law_take (T : Tx K mg) : OkF P w K mg base CX0 2 "_law_take" ["store", "many"] spTake := by
  obtain ⟨fd, D⟩ := dd_law_take T
  refine okF0 D sc_law_take (bi_law_take D) (fun vs H Q E h => ?_) (fun cdv A outer s H vs Q E hr h => ?_)
  · obtain ⟨a, m, ce, rfl, _⟩ := h
    rfl
  · obtain ⟨a, m, ce, rfl, hm, ⟨cs, pos, cur, left, beat, seed, mode, h1, h2, h3, h4⟩, q⟩ := h
    refine ⟨_, (pss_cons (ps_if (pt_cmpR op_lt (pv 1) pe_int (nomark _))
      (pss_one (ps_ret pe_int))
      pss_nil)
      (pss_cons (ps_asg (pe_op op_add (pe_ix ix_list (pv 0) pe_int (fun _ _ => rfl)) pe_int) (pg_sub (pv 0) pe_int set_list))
      (C8.pss_cut (ps_if (PW.pt (pw_and (pt_cmpR op_lt (pe_ix ix_list (pv 0) pe_int (fun _ _ => rfl)) pe_int (nomark _)) (pw_and1 (PW.pt (pw_or (pt_cmpR op_eq (pe_ix ix_list (pv 0) pe_int (fun _ _ => rfl)) pe_int (nomark _)) (pw_or1 (PW.pt (pw_and (pt_cmpR op_eq (pe_ix ix_list (pv 0) pe_int (fun _ _ => rfl)) pe_int (nomark _)) (pw_and1 (pt_cmpR op_eq (pe_ix ix_list (pv 0) pe_int (fun _ _ => rfl)) pe_int (nomark _)))))))))))
      (pss_one (ps_expr (pe_callO (ok_law_nextcell T) (hr.mono (by decide)) pass0 (pa_cons (pv 0) pa_nil))))
      pss_nil)
      (pss_cons (ps_asg (pe_op op_sub (pe_ix ix_list (pv 0) pe_int (fun _ _ => rfl)) pe_int) (pg_sub (pv 0) pe_int set_list))
      (pss_cons (ps_set (i := 2) sc_law_take.nd rfl (Or.inl rfl) (pe_callTy call_int1 (by rfl) (m_int T) (by decide +kernel) (pa_cons (pe_ix ix_list (pv 0) pe_int (fun _ _ => rfl)) pa_nil)))
      (pss_cons (ps_if (pt_cmpR op_eq (pe_ix ix_list (pv 0) pe_int (fun _ _ => rfl)) pe_int (nomark _))
      (pss_cons (ps_asg (pe_op op_fdivW (pv 2) (pv 1)) (pg_sub (pv 0) pe_int set_list))
      (pss_one (ps_ret (pe_op op_mod (pe_callTy call_int1 (by rfl) (m_int T) (by decide +kernel) (pa_cons (pv 2) pa_nil)) (pv 1)))))
      pss_nil)
      (pss_one (ps_ret (pe_op op_mod (pe_callTy call_int1 (by rfl) (m_int T) (by decide +kernel) (pa_cons (pe_callO (ok_law_mix T) (hr.mono (by decide)) pass0 (pa_cons (pv 2) (pa_cons (pe_ix ix_list (pv 0) pe_int (fun _ _ => rfl)) pa_nil))) pa_nil)) (pv 1)))))))))), ?_⟩
    have hC : ∀ {u : HO}, (upd H a u) ce = some (.lst (cs.map V.int)) := fun {u} => by rw [upd_ne h4]; exact h2
    refine ⟨_, rfl, _, _, rfl, rfl, _, rfl, ite2 (fun c => ?_) (fun c => ?_)⟩
    · have c' := of_decide_eq_true c
      exact q 0 H (by omega) (by omega) (fun _ => rfl) (Kp.refl _ _) ⟨cs, pos, cur, left, beat, seed, mode, h1, h2, h3, h4⟩
    have m2 : 2 ≤ m := by
      have c' : ¬ m < 2 := fun z => c (decide_eq_true z)
      omega
    -- store[4] = store[4] + 1
    refine ⟨_, rfl, _, _, _, _, rfl, rfl, SqL.of h1, rfl, _, _, rfl, rfl, _, rfl, _, _, _, _, rfl, rfl, h1, rfl, ?_⟩
    -- behind the if
    refine ⟨fun σ' H' => σ' = [some (.ref a), some (.int m), none] ∧ Kp a H H' ∧ St7 H' a ce, ?_, fun σ' H' hM => ?_⟩
    · have s2 : SqL K (upd H a (sto ce pos cur left (beat + 1) seed mode)) a [.ref ce, .int pos, .int cur, .int left, .int (beat + 1), .int seed, .int mode] := SqL.of upd_same
      have k2 : St7 (upd H a (sto ce pos cur left (beat + 1) seed mode)) a ce := ⟨cs, pos, _, _, _, _, _, upd_same, hC, h3, h4⟩
      have call : ∀ D : Ends, D.nx = (fun σ' H' => σ' = [some (.ref a), some (.int m), none] ∧ Kp a H H' ∧ St7 H' a ce) → tDrop (tCall spNext [] E0 (tCons (tVar 0) tNil)) D [some (.ref a), some (.int m), none] (upd H a (sto ce pos cur left (beat + 1) seed mode)) := fun D e => by
        refine ⟨_, rfl, a, ce, rfl, k2, fun H' kp st => ?_⟩
        rw [e]
        exact ⟨rfl, Kp.put.trans kp, st⟩
      refine ⟨_, rfl, _, _, _, _, rfl, rfl, s2, rfl, _, _, rfl, rfl, _, rfl, ite2 (fun c => ?_) (fun c => ?_)⟩
      · refine ⟨_, rfl, _, _, _, _, rfl, rfl, s2, rfl, rfl, _, rfl, ite2 (fun c => ?_) (fun c => ?_)⟩
        · exact iteT (call _ rfl)
        · refine ⟨_, rfl, _, _, _, _, rfl, rfl, s2, rfl, rfl, _, rfl, ite2 (fun c => ?_) (fun c => ?_)⟩
          · refine ⟨_, rfl, _, _, _, _, rfl, rfl, s2, rfl, rfl, _, rfl, ite2 (fun c => ?_) (fun c => ?_)⟩
            · exact call _ rfl
            · exact ⟨rfl, Kp.put, k2⟩
          · exact iteF ⟨rfl, Kp.put, k2⟩
      · exact iteF ⟨rfl, Kp.put, k2⟩
    · obtain ⟨rfl, kp, ⟨cs, pos, cur, left, beat, seed, mode, h1, h2, h3, h4⟩⟩ := hM
      have hC : ∀ {u : HO}, (upd H' a u) ce = some (.lst (cs.map V.int)) := fun {u} => by rw [upd_ne h4]; exact h2
      -- store[3] = store[3] - 1
      refine ⟨_, rfl, _, _, _, _, rfl, rfl, SqL.of h1, rfl, _, _, rfl, rfl, _, rfl, _, _, _, _, rfl, rfl, h1, rfl, ?_⟩
      have s2 : SqL K (upd H' a (sto ce pos cur (left - 1) beat seed mode)) a [.ref ce, .int pos, .int cur, .int (left - 1), .int beat, .int seed, .int mode] := SqL.of upd_same
      refine ⟨_, rfl, _, _, _, _, rfl, rfl, s2, rfl, .inl ⟨_, rfl, ?_⟩⟩
      refine ⟨_, rfl, _, _, _, _, rfl, rfl, s2, rfl, rfl, _, rfl, ite2 (fun c => ?_) (fun c => ?_)⟩
      · have p200 : (2 : Nat) ^ 200 = 1606938044258990275541962092341162602522202993782792835301376 := by decide +kernel
        have lg : CDivW cur m := wide_div (b := 200) (by omega) (by rw [p200]; omega) (by decide) (by decide)
        refine ⟨_, rfl, _, rfl, _, _, rfl, rfl, lg, _, rfl, _, _, _, _, rfl, rfl, upd_same, rfl, ?_⟩
        rw [upd_upd]
        refine ⟨_, rfl, .inl ⟨_, rfl, _, rfl, _, _, rfl, rfl, (by omega : 0 < m), ?_⟩⟩
        exact q _ _ (Int.emod_nonneg _ (by omega)) (fun _ => Int.emod_lt_of_pos _ (by omega)) (fun z => by omega) (kp.trans Kp.put) ⟨cs, pos, _, _, _, _, _, upd_same, hC, h3, h4⟩
      · refine ⟨_, rfl, _, rfl, _, _, _, _, rfl, rfl, s2, rfl, _, _, rfl, fun r h0 => ?_⟩
        refine .inl ⟨_, rfl, _, rfl, _, _, rfl, rfl, (by omega : 0 < m), ?_⟩
        exact q _ _ (Int.emod_nonneg _ (by omega)) (fun _ => Int.emod_lt_of_pos _ (by omega)) (fun z => by omega) (kp.trans Kp.put) ⟨cs, pos, _, _, _, _, _, upd_same, hC, h3, h4⟩
theorem cut_mem {xs : List V} {lo hi : Option Int} {i : Nat} {x : V} (h : (cutV xs lo hi)[i]? = some x) : x ∈ xs := List.mem_of_mem_drop (List.mem_of_mem_take (List.mem_of_getElem? h))
theorem cut_len {xs : List V} {lo hi : Option Int} : (cutV xs lo hi).length ≤ xs.length := by
  unfold cutV
  rw [List.length_take, List.length_drop]
  omega
abbrev N_law_open : List Str := ["script", "wide", "cells", "seed", "cell", "small"]
theorem sc_law_open : FnScope N_law_open ["script"] (defScope s_law_open) := ⟨rfl, rfl, rfl, by decide +kernel, rfl, by decide +kernel, by decide +kernel⟩
theorem bi_law_open {K : PySem.W.Frag} {mg : Str → Option Value} {f : Addr} {fd : FuncData} (D : Dd K mg "_law_open" s_law_open f fd) : Binds K fd ["script"] [] := D.fn.bindsN fun _ _ _ _ _ _ us hl => match us, hl with | [_], _ => rfl
theorem ok_law_open (T : Tx K mg) : OkF P w K mg base CX0 1 "_law_open" ["script"] (spOpen K) := by
  obtain ⟨fd, D⟩ := dd_law_open T
  refine okF0 D sc_law_open (bi_law_open D) (fun vs H Q E h => ?_) (fun cdv A outer s H vs Q E hr h => ?_)
  · obtain ⟨a, ns, rfl, _⟩ := h
    rfl
  · obtain ⟨a, ns, rfl, hS, hlen, q⟩ := h
    refine ⟨_, (pss_cons (ps_set (i := 1) sc_law_open.nd rfl (Or.inl rfl) (pe_op op_powW (pe_op op_powW pe_int pe_int) pe_int))
      (pss_cons (ps_set (i := 2) sc_law_open.nd rfl (Or.inl rfl) (pe_lst pa_nil))
      (pss_cons (ps_set (i := 3) sc_law_open.nd rfl (Or.inl rfl) pe_int)
      (pss_cons (ps_for PassesOwn.never rfl (pi_list (pe_slice sl_list (pv 0) po_none (po_some pe_int))) (pg_name (i := 4) sc_law_open.nd rfl (Or.inl rfl))
      (pss_cons (ps_set (i := 5) sc_law_open.nd rfl (Or.inl rfl) (pe_op op_mod (pe_callB call_abs (by rfl) (m_abs T) (by decide +kernel) (pa_cons (pe_callTy call_int1 (by rfl) (m_int T) (by decide +kernel) (pa_cons (pv 4) pa_nil)) pa_nil)) (pv 1)))
      (C8.pss_cut (ps_if (PW.pt (pw_and (pt_cmpR op_lt (pv 5) (pe_op op_powW pe_int pe_int) (nomark _)) (pw_and1 (pt_cmpR op_lt (pv 4) pe_int (nomark _)))))
      (pss_one (ps_set (i := 5) sc_law_open.nd rfl (Or.inl rfl) (pe_op op_sub (pe_op op_sub (pe_op op_powW pe_int pe_int) pe_int) (pv 5))))
      pss_nil)
      (pss_cons (ps_expr (pe_bm PySem.F.plainAttrs_list PySem.F.slot_list_append PySem.F.type_list_append mt_append (pv 2) (pa_cons (pv 5) pa_nil)))
      (pss_one (ps_set (i := 3) sc_law_open.nd rfl (Or.inl rfl) (pe_op op_mod (pe_callTy call_int1 (by rfl) (m_int T) (by decide +kernel) (pa_cons (pe_op op_add (pe_op op_add (pe_op op_mul (pv 3) pe_int) (pv 5)) pe_int) pa_nil)) pe_int)))))))
      (pss_one (ps_ret (pe_lst (pa_cons (pv 2) (pa_cons pe_int (pa_cons pe_int (pa_cons pe_int (pa_cons pe_int (pa_cons (pv 3) (pa_cons pe_int pa_nil)))))))))))))), ?_⟩
    refine ⟨_, _, rfl, rfl, pow_ok (by decide +kernel), _, _, rfl, rfl, pow_ok (by decide +kernel), Nat.zero_le _, fun ce nce => ?_⟩
    have s1 : Same H (upd H ce (.lst [])) := fun b o e => by rw [upd_ne (ne_of_none e nce)]; exact e
    refine ⟨_, rfl, _, rfl, a, _, rfl, s1.seq hS, fun c nc => ?_⟩
    have pp : (0 : Int) < 2305843009213693951 := by decide
    have wp : (0 : Int) < (10 ^ Int.toNat 64) ^ Int.toNat 10 := by decide +kernel
    have necc : ce ≠ c := fun z => by rw [← z, upd_same] at nc; cases nc
    refine ⟨c, rfl, ⟨_, SqL.of upd_same⟩, for_list (K := K) (a := c) (xs := cutV (ns.map V.int) none (some 63)) (fun i σ H' => ∃ (cs : List Int) (seed : Int) (v4 v5 : Option V), σ = [some (.ref a), some (.int ((10 ^ Int.toNat 64) ^ Int.toNat 10)), some (.ref ce), some (.int seed), v4, v5] ∧
      H' ce = some (.lst (cs.map V.int)) ∧ cs.length = i ∧ Same H H' ∧ H' c = some (.lst (cutV (ns.map V.int) none (some 63))))
      ⟨[], _, none, none, rfl, by rw [upd_ne necc, upd_same]; rfl, rfl, fun b o e => by rw [upd_ne (ne_of_none (s1 b o e) nc)]; exact s1 b o e, upd_same⟩ (fun i σ H' _ ⟨_, _, _, _, _, _, _, _, e⟩ => SqL.of e) ?_ ?_⟩
    · rintro i x σ H' hx ⟨cs, seed, v4, v5, rfl, h1, h2, h3, h4⟩
      obtain ⟨z, _, rfl⟩ := List.mem_map.mp (cut_mem hx)
      have hi : i < 63 := by
        have h5 : i < (cutV (ns.map V.int) none (some 63)).length := (List.getElem?_eq_some_iff.mp hx).1
        have h6 := @cut_len (ns.map V.int) none (some 63)
        rw [List.length_map] at h6
        omega
      refine ⟨_, rfl, .inl ⟨_, rfl, _, rfl, _, rfl, _, _, rfl, rfl, wp, ?_⟩⟩
      refine ⟨fun σ' H2 => ∃ n : Int, σ' = [some (.ref a), some (.int ((10 ^ Int.toNat 64) ^ Int.toNat 10)), some (.ref ce), some (.int seed), some (.int z), some (.int n)] ∧ H2 = H', ?_, fun σ' H2 hM => ?_⟩
      · refine ⟨_, rfl, _, _, rfl, rfl, pow_ok (by decide +kernel), _, _, rfl, rfl, _, rfl, ite2 (fun c => ?_) (fun c => ?_)⟩
        · refine ⟨_, rfl, _, _, rfl, rfl, _, rfl, ite2 (fun c => ?_) (fun c => ?_)⟩
          · exact ⟨_, _, rfl, rfl, pow_ok (by decide +kernel), _, _, rfl, rfl, _, rfl, _, _, rfl, rfl, _, rfl, rfl⟩
          · exact ⟨_, rfl, rfl⟩
        · exact iteF ⟨_, rfl, rfl⟩
      · obtain ⟨n, rfl, rfl⟩ := hM
        refine ⟨_, rfl, .inl ⟨rfl, _, SqL.of h1⟩, _, rfl, ce, _, _, rfl, rfl, h1, by rw [List.length_map]; exact small1000 (by omega), ?_⟩
        have nek : ∀ b o, H b = some o → b ≠ ce := fun b o e => ne_of_none e nce
        refine ⟨_, rfl, _, _, rfl, rfl, .inr (by decide), _, rfl, _, _, rfl, rfl, _, _, rfl, rfl, .inl ⟨_, rfl, _, _, rfl, rfl, pp, ?_⟩⟩
        exact ⟨cs ++ [n], _, _, _, rfl, by rw [upd_same, List.map_append]; rfl, by simp [h2], fun b o e => by rw [upd_ne (nek b o e)]; exact h3 b o e, by rw [upd_ne necc.symm]; exact h4⟩
    · rintro σ H' ⟨cs, seed, v4, v5, rfl, h1, h2, h3, h4⟩
      refine ⟨_, rfl, _, rfl, (by show 7 ≤ sizeLine; decide), fun p np => ?_⟩
      have hl : cs.length ≤ 63 := by
        have h6 := @cut_len (ns.map V.int) none (some 63)
        rw [List.length_map] at h6
        omega
      have nep : ce ≠ p := ne_of_none h1 np
      exact q p ce _ (h3.free np) (fun b o e => by rw [upd_ne (ne_of_none (h3 b o e) np)]; exact h3 b o e) ⟨cs, 0, _, _, _, _, _, upd_same, by rw [upd_ne nep]; exact h1, hl, nep⟩
end
/-! ### the law's comparing (common) -/
def spSame (K : PySem.W.Frag) : Sp := fun vs H Q _ => ∃ (x y : V) (d e : PyData), vs = [x, y] ∧ Dp K H x d ∧ Dp K H y e ∧ nd e ≤ 999999 ∧ ∀ H', Same H H' → (d = e → Q (.bl true) H') ∧ (d ≠ e → Q (.bl false) H')
/-- a pair on the pile at l: a list of two values that stood in H0 -/
def OnPile (K : PySem.W.Frag) (H0 : Hp) (l : Addr) (H' : Hp) (v : V) (p : PyData × PyData) : Prop := ∃ (pa : Addr) (x y : V), v = .ref pa ∧ pa ≠ l ∧ H' pa = some (.lst [x, y]) ∧ Dp K H0 x p.1 ∧ Dp K H0 y p.2
theorem OnPile.put {K : PySem.W.Frag} {H0 H' : Hp} {l : Addr} {o : HO} {v : V} {p : PyData × PyData} (h : OnPile K H0 l H' v p) : OnPile K H0 l (upd H' l o) v p := by
  obtain ⟨pa, x, y, e, n, g, a, b⟩ := h
  exact ⟨pa, x, y, e, n, by rw [upd_ne n]; exact g, a, b⟩
theorem OnPile.new {K : PySem.W.Frag} {H0 H' : Hp} {l q : Addr} {o : HO} {v : V} {p : PyData × PyData} (f : H' q = none) (h : OnPile K H0 l H' v p) : OnPile K H0 l (upd H' q o) v p := by
  obtain ⟨pa, x, y, e, n, g, a, b⟩ := h
  exact ⟨pa, x, y, e, n, by rw [upd_ne (ne_of_none g f)]; exact g, a, b⟩
theorem same_new {H H' : Hp} {q : Addr} {o : HO} (s : Same H H') (f : H' q = none) : Same H (upd H' q o) := fun b u e => by
  rw [upd_ne (ne_of_none (s b u e) f)]
  exact s b u e
theorem same_put {H H' : Hp} {q : Addr} {o : HO} (s : Same H H') (f : H q = none) : Same H (upd H' q o) := fun b u e => by
  rw [upd_ne (ne_of_none e f)]
  exact s b u e
section
variable {P : Program} {w : World} {K : PySem.W.Frag} {mg : Str → Option Value} {base : Heap}
abbrev N_law_same : List Str := ["actual", "due", "left", "k", "pair", "one", "two", "at"]
theorem sc_law_same : FnScope N_law_same ["actual", "due"] (defScope s_law_same) := ⟨rfl, rfl, rfl, by decide +kernel, rfl, by decide +kernel, by decide +kernel⟩
theorem bi_law_same {K : PySem.W.Frag} {mg : Str → Option Value} {f : Addr} {fd : FuncData} (D : Dd K mg "_law_same" s_law_same f fd) : Binds K fd ["actual", "due"] [] := D.fn.bindsN fun _ _ _ _ _ _ us hl => match us, hl with | [_, _], _ => rfl
theorem ok_law_same (T : Tx K mg) : OkF P w K mg base CX0 1 "_law_same" ["actual", "due"] (spSame K) := by
  obtain ⟨fd, D⟩ := dd_law_same T
  refine okF0 D sc_law_same (bi_law_same D) (fun vs H Q E h => ?_) (fun cdv A outer s H vs Q E hr h => ?_)
  · obtain ⟨x, y, d, e, rfl, _⟩ := h
    rfl
  ·
    obtain ⟨x0, y0, d0, e0, rfl, hx0, hy0, hnd, q⟩ := h
    refine ⟨_, (pss_cons (ps_set (i := 2) sc_law_same.nd rfl (Or.inl rfl) (pe_lst (pa_cons (pe_lst (pa_cons (pv 0) (pa_cons (pv 1) pa_nil))) pa_nil)))
      (pss_cons (ps_for PassesOwn.never rfl (pi_range1 rfl (m_range T) (pa_cons pe_int pa_nil)) (pg_name (i := 3) sc_law_same.nd rfl (Or.inl rfl))
      (pss_cons (ps_if (pt_cmpR op_eq (pe_callB call_len_seq (by rfl) (m_len T) (by decide +kernel) (pa_cons (pv 2) pa_nil)) pe_int (nomark _))
      (pss_one (ps_ret pe_bl))
      pss_nil)
      (pss_cons (ps_set (i := 4) sc_law_same.nd rfl (Or.inl rfl) (pe_bm0 PySem.F.plainAttrs_list PySem.F.slot_list_pop PySem.F.type_list_pop mt_pop (pv 2)))
      (pss_cons (ps_set (i := 5) sc_law_same.nd rfl (Or.inl rfl) (pe_ix ix_list (pv 4) pe_int (fun _ _ => rfl)))
      (pss_cons (ps_set (i := 6) sc_law_same.nd rfl (Or.inl rfl) (pe_ix ix_list (pv 4) pe_int (fun _ _ => rfl)))
      (pss_one (ps_if (pt_cmpR op_isN (pv 6) pe_non (nomark _))
      (pss_one (ps_if (pt_cmpR op_notN (pv 5) pe_non (nomark _))
      (pss_one (ps_ret pe_bl))
      pss_nil))
      (pss_one (ps_if (pt_val (pe_callB call_isiT (by rfl) (m_isinstance T) (by decide +kernel) (pa_cons (pv 6) (pa_cons (pe_tup (pa_cons (pe_bltn (v := .ty "tuple") (by rfl) (m_tuple T) (by decide +kernel) rfl) (pa_cons (pe_bltn (v := .ty "list") (by rfl) (m_list T) (by decide +kernel) rfl) pa_nil))) pa_nil))))
      (pss_cons (ps_if (PW.pt (pw_or (pt_cmpR op_ne (pe_callB call_isi (by rfl) (m_isinstance T) (by decide +kernel) (pa_cons (pv 6) (pa_cons (pe_bltn (v := .ty "tuple") (by rfl) (m_tuple T) (by decide +kernel) rfl) pa_nil))) (pe_callB call_isi (by rfl) (m_isinstance T) (by decide +kernel) (pa_cons (pv 5) (pa_cons (pe_bltn (v := .ty "tuple") (by rfl) (m_tuple T) (by decide +kernel) rfl) pa_nil))) (nomark _)) (pw_or1 (pt_cmpR op_ne (pe_callB call_isi (by rfl) (m_isinstance T) (by decide +kernel) (pa_cons (pv 6) (pa_cons (pe_bltn (v := .ty "list") (by rfl) (m_list T) (by decide +kernel) rfl) pa_nil))) (pe_callB call_isi (by rfl) (m_isinstance T) (by decide +kernel) (pa_cons (pv 5) (pa_cons (pe_bltn (v := .ty "list") (by rfl) (m_list T) (by decide +kernel) rfl) pa_nil))) (nomark _)))))
      (pss_one (ps_ret pe_bl))
      pss_nil)
      (pss_cons (ps_if (pt_cmpR op_ne (pe_callB call_len (by rfl) (m_len T) (by decide +kernel) (pa_cons (pv 5) pa_nil)) (pe_callB call_len (by rfl) (m_len T) (by decide +kernel) (pa_cons (pv 6) pa_nil)) (nomark _))
      (pss_one (ps_ret pe_bl))
      pss_nil)
      (pss_one (ps_for PassesOwn.never rfl (pi_range1 rfl (m_range T) (pa_cons (pe_callB call_len (by rfl) (m_len T) (by decide +kernel) (pa_cons (pv 6) pa_nil)) pa_nil)) (pg_name (i := 7) sc_law_same.nd rfl (Or.inl rfl))
      (pss_one (ps_expr (pe_bm PySem.F.plainAttrs_list PySem.F.slot_list_append PySem.F.type_list_append mt_append (pv 2) (pa_cons (pe_lst (pa_cons (pe_ix ix_seq (pv 5) (pv 7) (fun _ _ => rfl)) (pa_cons (pe_ix ix_seq (pv 6) (pv 7) (fun _ _ => rfl)) pa_nil))) pa_nil))))))))
      (pss_one (ps_if (PW.pt (pw_or (pt_cmpR op_ne (pe_callB call_isi (by rfl) (m_isinstance T) (by decide +kernel) (pa_cons (pv 6) (pa_cons (pe_bltn (v := .ty "bool") (by rfl) (m_bool T) (by decide +kernel) rfl) pa_nil))) (pe_callB call_isi (by rfl) (m_isinstance T) (by decide +kernel) (pa_cons (pv 5) (pa_cons (pe_bltn (v := .ty "bool") (by rfl) (m_bool T) (by decide +kernel) rfl) pa_nil))) (nomark _)) (pw_or1 (pt_cmpR op_ne (pe_callB call_isi (by rfl) (m_isinstance T) (by decide +kernel) (pa_cons (pv 6) (pa_cons (pe_bltn (v := .ty "str") (by rfl) (m_str T) (by decide +kernel) rfl) pa_nil))) (pe_callB call_isi (by rfl) (m_isinstance T) (by decide +kernel) (pa_cons (pv 5) (pa_cons (pe_bltn (v := .ty "str") (by rfl) (m_str T) (by decide +kernel) rfl) pa_nil))) (nomark _)))))
      (pss_one (ps_ret pe_bl))
      (pss_one (ps_if (PW.pt (pw_or (PW.pt (pw_and (pt_not (pt_val (pe_callB call_isi (by rfl) (m_isinstance T) (by decide +kernel) (pa_cons (pv 6) (pa_cons (pe_bltn (v := .ty "str") (by rfl) (m_str T) (by decide +kernel) rfl) pa_nil))))) (pw_and1 (pt_not (pt_val (pe_callB call_isi (by rfl) (m_isinstance T) (by decide +kernel) (pa_cons (pv 5) (pa_cons (pe_bltn (v := .ty "int") (by rfl) (m_int T) (by decide +kernel) rfl) pa_nil)))))))) (pw_or1 (pt_cmpR (op_ne) (pv 5) (pv 6) (nomark _)))))
      (pss_one (ps_ret pe_bl))
      pss_nil)))))))))))))
      (pss_one (ps_ret pe_bl)))), ?_⟩
    refine ⟨_, rfl, _, rfl, (by show 2 ≤ sizeLine; decide), fun p0 np0 => ⟨(by show 1 ≤ sizeLine; decide), fun l nl => ?_⟩⟩
    have nlH : H l = none := (show Same H (upd H p0 (.lst [x0, y0])) from same_new (Same.refl H) np0).free nl
    have np0l : p0 ≠ l := fun z => by rw [← z, upd_same] at nl; cases nl
    refine ⟨1000000, rfl, by decide, by decide, for_range (lo := 0) (n := (1000000 : Int).toNat) (fun i σ H' => ∃ (v3 v4 v5 v6 v7 : Option V) (ps : List V) (st : List (PyData × PyData)), σ = [some x0, some y0, some (.ref l), v3, v4, v5, v6, v7] ∧ Same H H' ∧ H' l = some (.lst ps) ∧ Paired (OnPile K H l H') ps st ∧ i + work st ≤ 999999 ∧ (d0 = e0 ↔ ∀ p ∈ st, p.1 = p.2))
      ⟨none, none, none, none, none, [.ref p0], [(d0, e0)], rfl, same_new (same_new (Same.refl H) np0) nl, upd_same, .cons ⟨p0, x0, y0, rfl, np0l, by rw [upd_ne np0l, upd_same], hx0, hy0⟩ .nil, by simpa [work] using hnd, by simp⟩ ?_ ?_⟩
    · rintro i σ H' hi ⟨v3, v4, v5, v6, v7, ps, st, rfl, sm, hl, pr, hw, eqv⟩
      -- len(left) == 0
      refine ⟨_, rfl, l, ps, rfl, .inl (SqL.of hl), rfl, _, rfl, ite2 (fun c => ?_) (fun c => ?_)⟩
      · have e1 : ps.length = 0 := by
          have z := V.int.inj (of_decide_eq_true c)
          omega
        have e2 : ps = [] := List.length_eq_zero_iff.mp e1
        subst e2
        cases pr
        exact (q H' sm).1 (eqv.mpr (by simp))
      have ne : ps ≠ [] := fun z => by
        subst z
        exact c (decide_eq_true rfl)
      obtain ⟨qs, v, st', ⟨d, e⟩, rfl, rfl, pr', ⟨pa, x, y, rfl, npl, hpa, hx, hy⟩⟩ := paired_last pr ne
      have hx : Dp K H x d := hx
      have hy : Dp K H y e := hy
      -- pair = left.pop(); one = pair[0]; two = pair[1]
      refine ⟨_, rfl, .inl ⟨rfl, _, .inl (.inl hl)⟩, l, _, .ref pa, rfl, rfl, hl, by simp, ?_⟩
      rw [List.dropLast_concat]
      have sm1 : Same H (upd H' l (.lst qs)) := same_put sm nlH
      have hpa1 : (upd H' l (.lst qs)) pa = some (.lst [x, y]) := by rw [upd_ne npl]; exact hpa
      have pr1 : Paired (OnPile K H l (upd H' l (.lst qs))) qs st' := paired_map (fun _ _ h => h.put) pr'
      generalize hH1 : upd H' l (.lst qs) = H1 at sm1 hpa1 pr1
      have hl1 : H1 l = some (.lst qs) := by rw [← hH1]; exact upd_same
      refine ⟨_, rfl, _, _, _, _, rfl, rfl, SqL.of hpa1, rfl, _, rfl, _, _, _, _, rfl, rfl, SqL.of hpa1, rfl, ?_⟩
      have wsum : work (st' ++ [(d, e)]) = work st' + nd e := by rw [work_app]; simp [work]
      have ndp := nd_pos e
      rw [wsum] at hw
      have eqv2 : (d0 = e0 ↔ (∀ p ∈ st', p.1 = p.2) ∧ d = e) := by
        rw [eqv]
        constructor
        · intro h
          exact ⟨fun p hp => h p (List.mem_append_left _ hp), h (d, e) (List.mem_append_right _ (List.mem_singleton.mpr rfl))⟩
        · rintro ⟨h1, h2⟩ p hp
          rcases List.mem_append.mp hp with hp | hp
          · exact h1 p hp
          · rw [List.mem_singleton.mp hp]
            exact h2
      have bad : ∀ H2, Same H H2 → d ≠ e → Q (.bl false) H2 := fun H2 s2 n => (q H2 s2).2 fun z => n (eqv2.mp z).2
      have good : ∀ (a5 a6 a7 : Option V) (a4 : Option V) (a3 : Option V) (H2 : Hp), Same H H2 → H2 l = some (.lst qs) → Paired (OnPile K H l H2) qs st' → d = e → ∃ (v3 v4 v5 v6 v7 : Option V) (ps : List V) (st : List (PyData × PyData)), [some x0, some y0, some (V.ref l), a3, a4, a5, a6, a7] = [some x0, some y0, some (.ref l), v3, v4, v5, v6, v7] ∧ Same H H2 ∧ H2 l = some (.lst ps) ∧ Paired (OnPile K H l H2) ps st ∧ (i + 1) + work st ≤ 999999 ∧ (d0 = e0 ↔ ∀ p ∈ st, p.1 = p.2) := fun a5 a6 a7 a4 a3 H2 s2 l2 p2 z =>
        ⟨_, _, _, _, _, qs, st', rfl, s2, l2, p2, by omega, eqv2.trans ⟨fun h => h.1, fun h => ⟨h, z⟩⟩⟩
      -- two is None
      refine ⟨_, rfl, rfl, _, rfl, ite2 (fun c => ?_) (fun c => ?_)⟩
      · have ee : e = .none := (dp_non hy).mp (of_decide_eq_true c)
        refine ⟨_, rfl, rfl, _, rfl, ite2 (fun c => ?_) (fun c => ?_)⟩
        · refine bad _ sm1 fun z => ?_
          rw [ee] at z
          rw [(dp_non hx).mpr z] at c
          cases c
        · refine good _ _ _ _ _ _ sm1 hl1 pr1 ?_
          rw [ee]
          refine (dp_non hx).mp ?_
          by_cases z : x = .non
          · exact z
          · rw [decide_eq_false z] at c
            exact absurd rfl c
      have ne' : e ≠ .none := fun z => c (decide_eq_true ((dp_non hy).mpr z))
      -- isinstance(two, (tuple, list))
      refine ⟨_, rfl, (by show 2 ≤ sizeLine; decide), fun tp ntp => ⟨_, _, _, _, _, _, rfl, upd_same, cls2, ty_at hy (same_new sm1 ntp), kit_seqT e, _, rfl, ?_⟩⟩
      have sm2 : Same H (upd H1 tp (.tup [.ty "tuple", .ty "list"])) := same_new sm1 ntp
      have pr2 : Paired (OnPile K H l (upd H1 tp (.tup [.ty "tuple", .ty "list"]))) qs st' := paired_map (fun _ _ h => h.new ntp) pr1
      have hl2 : (upd H1 tp (.tup [.ty "tuple", .ty "list"])) l = some (.lst qs) := by rw [upd_ne (ne_of_none hl1 ntp)]; exact hl1
      generalize upd H1 tp (.tup [.ty "tuple", .ty "list"]) = H2 at sm2 pr2 hl2
      refine ite2 (fun cq => ?_) (fun cq => ?_)
      · -- two is a sequence
        have other : ∀ b1 b2 : Bool, (!decide (V.bl b1 = V.bl b2)) = true → b1 ≠ b2 := fun b1 b2 h z => by
          rw [z, decide_eq_true rfl] at h
          cases h
        have alike : ∀ b1 b2 : Bool, ¬ (!decide (V.bl b1 = V.bl b2)) = true → b1 = b2 := fun b1 b2 h => by
          by_cases z : b1 = b2
          · exact z
          · exact absurd (show (!decide (V.bl b1 = V.bl b2)) = true by rw [decide_eq_false fun y => z (V.bl.inj y)]; rfl) h
        refine ⟨_, rfl, _, _, _, _, _, rfl, .ty _, ty_at hy sm2, kit_ty (kit_tup e), ⟨_, rfl, _, _, _, _, _, rfl, .ty _, ty_at hx sm2, kit_ty (kit_tup d), ⟨rfl, _, rfl, ite2 (fun c1 => iteT (bad _ sm2 fun z => other _ _ c1 (by rw [z]))) (fun c1 => ?_)⟩⟩⟩
        refine ⟨_, rfl, _, _, _, _, _, rfl, .ty _, ty_at hy sm2, kit_ty (kit_lst e), ⟨_, rfl, _, _, _, _, _, rfl, .ty _, ty_at hx sm2, kit_ty (kit_lst d), ⟨rfl, _, rfl, ite2 (fun c2 => bad _ sm2 fun z => other _ _ c2 (by rw [z])) (fun c2 => ?_)⟩⟩⟩
        have k1 := alike _ _ c1
        have k2 := alike _ _ c2
        have kd : (isTup d || isLst d) = true := by rw [← k1, ← k2]; exact cq
        obtain ⟨ax, xs, rfl, sx, ox⟩ := dp_seq hx kd
        obtain ⟨ay, ys, rfl, sy, oy⟩ := dp_seq hy cq
        have lx := dpAll_len ox
        have ly := dpAll_len oy
        -- len(one) != len(two)
        refine ⟨_, rfl, _, _, rfl, len_rd (sq_same sm2 sx), _, rfl, _, _, rfl, len_rd (sq_same sm2 sy), rfl, _, rfl, ite2 (fun c3 => ?_) (fun c3 => ?_)⟩
        · refine bad _ sm2 fun z => ?_
          rw [lx, ly, z, decide_eq_true rfl] at c3
          cases c3
        have ll : (kids d).length = (kids e).length := by
          by_cases z : V.int (xs.length : Int) = V.int (ys.length : Int)
          · have := V.int.inj z
            omega
          · rw [decide_eq_false z] at c3
            exact absurd rfl c3
        have nk := nd_kids cq
        have big : ys.length ≤ 999999 := by
          have h1 := work_len ((kids d).zip (kids e))
          rw [work_zip _ _ ll, List.length_zip] at h1
          omega
        refine ⟨_, rfl, _, _, rfl, len_rd (sq_same sm2 sy), _, rfl, by omega, by omega, for_range (lo := 0) (n := ((ys.length : Nat) : Int).toNat) (fun j σ H3 => ∃ (v7 : Option V) (ps : List V), σ = [some x0, some y0, some (.ref l), some (.int (0 + (i : Int))), some (.ref pa), some (.ref ax), some (.ref ay), v7] ∧ Same H H3 ∧ H3 l = some (.lst ps) ∧ Paired (OnPile K H l H3) ps (st' ++ ((kids d).zip (kids e)).take j))
          ⟨v7, qs, rfl, sm2, hl2, by simpa using pr2⟩ ?_ ?_⟩
        · rintro j σ H3 hj ⟨v7, ps, rfl, s3, l3, p3⟩
          have hj' : j < (kids e).length := by omega
          have hj2 : j < (kids d).length := by omega
          obtain ⟨u, gu, du⟩ := dpAll_get ox j _ (List.getElem?_eq_getElem hj2)
          obtain ⟨z, gz, dz⟩ := dpAll_get oy j _ (List.getElem?_eq_getElem hj')
          have lps : ps.length < sizeLine := by
            have h1 := Paired.length p3
            have h2 := work_len (st' ++ ((kids d).zip (kids e)).take j)
            have h3 := work_len st'
            have h4 : (((kids d).zip (kids e)).take j).length ≤ ys.length := by
              rw [List.length_take, List.length_zip]
              omega
            rw [List.length_append] at h1
            have := sizeLine_eq
            omega
          have gu' : atI xs (0 + (j : Int)) = some u := by rw [Int.zero_add]; exact atI_nat gu
          have gz' : atI ys (0 + (j : Int)) = some z := by rw [Int.zero_add]; exact atI_nat gz
          have gz2 : ((kids d).zip (kids e))[j]? = some ((kids d)[j], (kids e)[j]) := by
            rw [List.getElem?_zip_eq_some]
            exact ⟨List.getElem?_eq_getElem hj2, List.getElem?_eq_getElem hj'⟩
          have done : ∀ pn : Addr, H3 pn = none → ∃ (v7 : Option V) (ps' : List V), [some x0, some y0, some (V.ref l), some (.int (0 + (i : Int))), some (.ref pa), some (.ref ax), some (.ref ay), some (.int (0 + (j : Int)))] = [some x0, some y0, some (.ref l), some (.int (0 + (i : Int))), some (.ref pa), some (.ref ax), some (.ref ay), v7] ∧ Same H (upd (upd H3 pn (.lst [u, z])) l (.lst (ps ++ [.ref pn]))) ∧
              (upd (upd H3 pn (.lst [u, z])) l (.lst (ps ++ [.ref pn]))) l = some (.lst ps') ∧ Paired (OnPile K H l (upd (upd H3 pn (.lst [u, z])) l (.lst (ps ++ [.ref pn])))) ps' (st' ++ ((kids d).zip (kids e)).take (j + 1)) := fun pn npn => by
            have npl2 : pn ≠ l := (ne_of_none l3 npn).symm
            refine ⟨_, ps ++ [.ref pn], rfl, same_put (same_new s3 npn) nlH, upd_same, ?_⟩
            rw [List.take_add_one, gz2, ← List.append_assoc]
            exact paired_snoc (paired_map (fun _ _ h => (h.new npn).put) p3) ⟨pn, u, z, rfl, npl2, by rw [upd_ne npl2, upd_same], du, dz⟩
          refine ⟨_, rfl, .inl ⟨rfl, _, .inl (.inl l3)⟩, _, rfl, _, rfl, ?_⟩
          rcases sq_same s3 sx with gx | gx <;> rcases sq_same s3 sy with gy | gy
          all_goals first
            | refine .inl ⟨_, _, _, _, rfl, rfl, gx, gu', _, rfl, _, rfl, ?_⟩
            | refine .inr (.inl ⟨_, _, _, _, rfl, rfl, gx, gu', _, rfl, _, rfl, ?_⟩)
          all_goals first
            | refine .inl ⟨_, _, _, _, rfl, rfl, gy, gz', (by show 2 ≤ sizeLine; decide), fun pn npn => ?_⟩
            | refine .inr (.inl ⟨_, _, _, _, rfl, rfl, gy, gz', (by show 2 ≤ sizeLine; decide), fun pn npn => ?_⟩)
          all_goals exact ⟨l, ps, .ref pn, rfl, rfl, by rw [upd_ne (ne_of_none l3 npn)]; exact l3, lps, done pn npn⟩
        · rintro σ H3 ⟨v7, ps, rfl, s3, l3, p3⟩
          have full : ((kids d).zip (kids e)).take ((ys.length : Nat) : Int).toNat = (kids d).zip (kids e) := List.take_of_length_le (by rw [List.length_zip]; omega)
          rw [full] at p3
          refine ⟨_, _, _, _, _, ps, _, rfl, s3, l3, p3, ?_, ?_⟩
          · rw [work_app, work_zip _ _ ll]
            omega
          · rw [eqv2, kind_eq k1 k2 cq, zip_eq _ _ ll]
            constructor
            · rintro ⟨h1, h2⟩ p hp
              exact (List.mem_append.mp hp).elim (h1 p) (h2 p)
            · intro h
              exact ⟨fun p hp => h p (List.mem_append_left _ hp), fun p hp => h p (List.mem_append_right _ hp)⟩
      · -- two is a leaf
        have cs : (isTup e || isLst e) = false := by
          cases z : (isTup e || isLst e) with
          | true => exact absurd z cq
          | false => rfl
        have other : ∀ b1 b2 : Bool, (!decide (V.bl b1 = V.bl b2)) = true → b1 ≠ b2 := fun b1 b2 h z => by
          rw [z, decide_eq_true rfl] at h
          cases h
        have alike : ∀ b1 b2 : Bool, ¬ (!decide (V.bl b1 = V.bl b2)) = true → b1 = b2 := fun b1 b2 h => by
          by_cases z : b1 = b2
          · exact z
          · exact absurd (show (!decide (V.bl b1 = V.bl b2)) = true by rw [decide_eq_false fun y => z (V.bl.inj y)]; rfl) h
        refine ⟨_, rfl, _, _, _, _, _, rfl, .ty _, ty_at hy sm2, kit_ty (kit_bl e), ⟨_, rfl, _, _, _, _, _, rfl, .ty _, ty_at hx sm2, kit_ty (kit_bl d), ⟨rfl, _, rfl, ite2 (fun c1 => iteT (bad _ sm2 fun z => other _ _ c1 (by rw [z]))) (fun c1 => ?_)⟩⟩⟩
        refine ⟨_, rfl, _, _, _, _, _, rfl, .ty _, ty_at hy sm2, kit_ty (kit_st e), ⟨_, rfl, _, _, _, _, _, rfl, .ty _, ty_at hx sm2, kit_ty (kit_st d), ⟨rfl, _, rfl, ite2 (fun c2 => bad _ sm2 fun z => other _ _ c2 (by rw [z])) (fun c2 => ?_)⟩⟩⟩
        have k1 := alike _ _ c1
        have k2 := alike _ _ c2
        -- not isinstance(two, str) and not isinstance(one, int) or one != two
        refine ⟨_, rfl, _, _, _, _, _, rfl, .ty _, ty_at hy sm2, kit_ty (kit_st e), ⟨_, rfl, ?_⟩⟩
        have last : (isSt e = true ∨ isIn d = true) → scal x y = true ∧ ((!decide (x = y)) = true → d ≠ e) ∧ (¬ (!decide (x = y)) = true → d = e) := fun h => by
          obtain ⟨h1, h2⟩ := leaf_ne hx hy ne' cs k1 k2 h
          refine ⟨h1, fun z y' => ?_, fun z => ?_⟩
          · rw [decide_eq_true (h2.mpr y')] at z
            cases z
          · refine h2.mp ?_
            by_cases y' : x = y
            · exact y'
            · rw [decide_eq_false y'] at z
              exact absurd rfl z
        cases hst : isSt e with
        | true =>
          obtain ⟨h1, h2, h3⟩ := last (.inl hst)
          refine ⟨_, rfl, _, rfl, h1, _, rfl, ite2 (fun c4 => bad _ sm2 (h2 c4)) (fun c4 => good _ _ _ _ _ _ sm2 hl2 pr2 (h3 c4))⟩
        | false =>
          refine ⟨_, rfl, _, _, _, _, _, rfl, .ty _, ty_at hx sm2, kit_ty (kit_in d), ⟨_, rfl, ?_⟩⟩
          cases hin : isIn d with
          | true =>
            obtain ⟨h1, h2, h3⟩ := last (.inr hin)
            refine ⟨_, rfl, _, rfl, h1, _, rfl, ite2 (fun c4 => bad _ sm2 (h2 c4)) (fun c4 => good _ _ _ _ _ _ sm2 hl2 pr2 (h3 c4))⟩
          | false =>
            refine bad _ sm2 fun z => ?_
            subst z
            cases hy <;> simp_all [isTup, isLst, isSt, isIn]
    · rintro σ H' ⟨v3, v4, v5, v6, v7, ps, st, rfl, sm, hl, pr, hw, eqv⟩
      exact absurd hw (by show ¬ (1000000 + work st ≤ 999999); omega)
theorem okH_law_same (T : Tx K mg) : OkH P w K mg base CX0 1 "_law_same" ["actual", "due"] (spSame K) := by
  obtain ⟨fd, D⟩ := dd_law_same T
  refine okH0 D sc_law_same (bi_law_same D) (fun vs H Q E h => ?_) (fun cdv A outer s H vs Q E p _ hot1 hr h => ?_)
  · obtain ⟨x, y, d, e, rfl, _⟩ := h
    rfl
  · have hot : L2H.HotC (L2H.cxH CX0 P w K mg base N_law_same "_law_same" (defScope s_law_same) (He.ga K "_law_same") cdv A outer s H E p).nox := ⟨p, hot1, List.mem_cons_self⟩
    obtain ⟨x0, y0, d0, e0, rfl, hx0, hy0, hnd, q⟩ := h
    refine ⟨_, (pss_cons (ps_set (i := 2) sc_law_same.nd rfl (Or.inl rfl) (pe_lst (pa_cons (pe_lst (pa_cons (pv 0) (pa_cons (pv 1) pa_nil))) pa_nil)))
      (pss_cons (L2H.ps_forH PassesOwn.never hot (L2H.pi_range1H rfl (m_range T) (pa_cons pe_int pa_nil)) (pg_name (i := 3) sc_law_same.nd rfl (Or.inl rfl))
      (pss_cons (ps_if (pt_cmpR op_eq (pe_callB call_len_seq (by rfl) (m_len T) (by decide +kernel) (pa_cons (pv 2) pa_nil)) pe_int (nomark _))
      (pss_one (ps_ret pe_bl))
      pss_nil)
      (pss_cons (ps_set (i := 4) sc_law_same.nd rfl (Or.inl rfl) (pe_bm0 PySem.F.plainAttrs_list PySem.F.slot_list_pop PySem.F.type_list_pop mt_pop (pv 2)))
      (pss_cons (ps_set (i := 5) sc_law_same.nd rfl (Or.inl rfl) (pe_ix ix_list (pv 4) pe_int (fun _ _ => rfl)))
      (pss_cons (ps_set (i := 6) sc_law_same.nd rfl (Or.inl rfl) (pe_ix ix_list (pv 4) pe_int (fun _ _ => rfl)))
      (pss_one (ps_if (pt_cmpR op_isN (pv 6) pe_non (nomark _))
      (pss_one (ps_if (pt_cmpR op_notN (pv 5) pe_non (nomark _))
      (pss_one (ps_ret pe_bl))
      pss_nil))
      (pss_one (ps_if (pt_val (pe_callB call_isiT (by rfl) (m_isinstance T) (by decide +kernel) (pa_cons (pv 6) (pa_cons (pe_tup (pa_cons (pe_bltn (v := .ty "tuple") (by rfl) (m_tuple T) (by decide +kernel) rfl) (pa_cons (pe_bltn (v := .ty "list") (by rfl) (m_list T) (by decide +kernel) rfl) pa_nil))) pa_nil))))
      (pss_cons (ps_if (PW.pt (pw_or (pt_cmpR op_ne (pe_callB call_isi (by rfl) (m_isinstance T) (by decide +kernel) (pa_cons (pv 6) (pa_cons (pe_bltn (v := .ty "tuple") (by rfl) (m_tuple T) (by decide +kernel) rfl) pa_nil))) (pe_callB call_isi (by rfl) (m_isinstance T) (by decide +kernel) (pa_cons (pv 5) (pa_cons (pe_bltn (v := .ty "tuple") (by rfl) (m_tuple T) (by decide +kernel) rfl) pa_nil))) (nomark _)) (pw_or1 (pt_cmpR op_ne (pe_callB call_isi (by rfl) (m_isinstance T) (by decide +kernel) (pa_cons (pv 6) (pa_cons (pe_bltn (v := .ty "list") (by rfl) (m_list T) (by decide +kernel) rfl) pa_nil))) (pe_callB call_isi (by rfl) (m_isinstance T) (by decide +kernel) (pa_cons (pv 5) (pa_cons (pe_bltn (v := .ty "list") (by rfl) (m_list T) (by decide +kernel) rfl) pa_nil))) (nomark _)))))
      (pss_one (ps_ret pe_bl))
      pss_nil)
      (pss_cons (ps_if (pt_cmpR op_ne (pe_callB call_len (by rfl) (m_len T) (by decide +kernel) (pa_cons (pv 5) pa_nil)) (pe_callB call_len (by rfl) (m_len T) (by decide +kernel) (pa_cons (pv 6) pa_nil)) (nomark _))
      (pss_one (ps_ret pe_bl))
      pss_nil)
      (pss_one (L2H.ps_forH PassesOwn.never hot (L2H.pi_range1H rfl (m_range T) (pa_cons (pe_callB call_len (by rfl) (m_len T) (by decide +kernel) (pa_cons (pv 6) pa_nil)) pa_nil)) (pg_name (i := 7) sc_law_same.nd rfl (Or.inl rfl))
      (pss_one (ps_expr (pe_bm PySem.F.plainAttrs_list PySem.F.slot_list_append PySem.F.type_list_append mt_append (pv 2) (pa_cons (pe_lst (pa_cons (pe_ix ix_seq (pv 5) (pv 7) (fun _ _ => rfl)) (pa_cons (pe_ix ix_seq (pv 6) (pv 7) (fun _ _ => rfl)) pa_nil))) pa_nil))))))))
      (pss_one (ps_if (PW.pt (pw_or (pt_cmpR op_ne (pe_callB call_isi (by rfl) (m_isinstance T) (by decide +kernel) (pa_cons (pv 6) (pa_cons (pe_bltn (v := .ty "bool") (by rfl) (m_bool T) (by decide +kernel) rfl) pa_nil))) (pe_callB call_isi (by rfl) (m_isinstance T) (by decide +kernel) (pa_cons (pv 5) (pa_cons (pe_bltn (v := .ty "bool") (by rfl) (m_bool T) (by decide +kernel) rfl) pa_nil))) (nomark _)) (pw_or1 (pt_cmpR op_ne (pe_callB call_isi (by rfl) (m_isinstance T) (by decide +kernel) (pa_cons (pv 6) (pa_cons (pe_bltn (v := .ty "str") (by rfl) (m_str T) (by decide +kernel) rfl) pa_nil))) (pe_callB call_isi (by rfl) (m_isinstance T) (by decide +kernel) (pa_cons (pv 5) (pa_cons (pe_bltn (v := .ty "str") (by rfl) (m_str T) (by decide +kernel) rfl) pa_nil))) (nomark _)))))
      (pss_one (ps_ret pe_bl))
      (pss_one (ps_if (PW.pt (pw_or (PW.pt (pw_and (pt_not (pt_val (pe_callB call_isi (by rfl) (m_isinstance T) (by decide +kernel) (pa_cons (pv 6) (pa_cons (pe_bltn (v := .ty "str") (by rfl) (m_str T) (by decide +kernel) rfl) pa_nil))))) (pw_and1 (pt_not (pt_val (pe_callB call_isi (by rfl) (m_isinstance T) (by decide +kernel) (pa_cons (pv 5) (pa_cons (pe_bltn (v := .ty "int") (by rfl) (m_int T) (by decide +kernel) rfl) pa_nil)))))))) (pw_or1 (pt_cmpR (op_ne) (pv 5) (pv 6) (nomark _)))))
      (pss_one (ps_ret pe_bl))
      pss_nil)))))))))))))
      (pss_one (ps_ret pe_bl)))), ?_⟩
    refine ⟨_, rfl, _, rfl, (by show 2 ≤ sizeLine; decide), fun p0 np0 => ⟨(by show 1 ≤ sizeLine; decide), fun l nl => ?_⟩⟩
    have nlH : H l = none := (show Same H (upd H p0 (.lst [x0, y0])) from same_new (Same.refl H) np0).free nl
    have np0l : p0 ≠ l := fun z => by rw [← z, upd_same] at nl; cases nl
    refine ⟨1000000, rfl, by decide, by decide, for_range (lo := 0) (n := (1000000 : Int).toNat) (fun i σ H' => ∃ (v3 v4 v5 v6 v7 : Option V) (ps : List V) (st : List (PyData × PyData)), σ = [some x0, some y0, some (.ref l), v3, v4, v5, v6, v7] ∧ Same H H' ∧ H' l = some (.lst ps) ∧ Paired (OnPile K H l H') ps st ∧ i + work st ≤ 999999 ∧ (d0 = e0 ↔ ∀ p ∈ st, p.1 = p.2))
      ⟨none, none, none, none, none, [.ref p0], [(d0, e0)], rfl, same_new (same_new (Same.refl H) np0) nl, upd_same, .cons ⟨p0, x0, y0, rfl, np0l, by rw [upd_ne np0l, upd_same], hx0, hy0⟩ .nil, by simpa [work] using hnd, by simp⟩ ?_ ?_⟩
    · rintro i σ H' hi ⟨v3, v4, v5, v6, v7, ps, st, rfl, sm, hl, pr, hw, eqv⟩
      -- len(left) == 0
      refine ⟨_, rfl, l, ps, rfl, .inl (SqL.of hl), rfl, _, rfl, ite2 (fun c => ?_) (fun c => ?_)⟩
      · have e1 : ps.length = 0 := by
          have z := V.int.inj (of_decide_eq_true c)
          omega
        have e2 : ps = [] := List.length_eq_zero_iff.mp e1
        subst e2
        cases pr
        exact (q H' sm).1 (eqv.mpr (by simp))
      have ne : ps ≠ [] := fun z => by
        subst z
        exact c (decide_eq_true rfl)
      obtain ⟨qs, v, st', ⟨d, e⟩, rfl, rfl, pr', ⟨pa, x, y, rfl, npl, hpa, hx, hy⟩⟩ := paired_last pr ne
      have hx : Dp K H x d := hx
      have hy : Dp K H y e := hy
      -- pair = left.pop(); one = pair[0]; two = pair[1]
      refine ⟨_, rfl, .inl ⟨rfl, _, .inl (.inl hl)⟩, l, _, .ref pa, rfl, rfl, hl, by simp, ?_⟩
      rw [List.dropLast_concat]
      have sm1 : Same H (upd H' l (.lst qs)) := same_put sm nlH
      have hpa1 : (upd H' l (.lst qs)) pa = some (.lst [x, y]) := by rw [upd_ne npl]; exact hpa
      have pr1 : Paired (OnPile K H l (upd H' l (.lst qs))) qs st' := paired_map (fun _ _ h => h.put) pr'
      generalize hH1 : upd H' l (.lst qs) = H1 at sm1 hpa1 pr1
      have hl1 : H1 l = some (.lst qs) := by rw [← hH1]; exact upd_same
      refine ⟨_, rfl, _, _, _, _, rfl, rfl, SqL.of hpa1, rfl, _, rfl, _, _, _, _, rfl, rfl, SqL.of hpa1, rfl, ?_⟩
      have wsum : work (st' ++ [(d, e)]) = work st' + nd e := by rw [work_app]; simp [work]
      have ndp := nd_pos e
      rw [wsum] at hw
      have eqv2 : (d0 = e0 ↔ (∀ p ∈ st', p.1 = p.2) ∧ d = e) := by
        rw [eqv]
        constructor
        · intro h
          exact ⟨fun p hp => h p (List.mem_append_left _ hp), h (d, e) (List.mem_append_right _ (List.mem_singleton.mpr rfl))⟩
        · rintro ⟨h1, h2⟩ p hp
          rcases List.mem_append.mp hp with hp | hp
          · exact h1 p hp
          · rw [List.mem_singleton.mp hp]
            exact h2
      have bad : ∀ H2, Same H H2 → d ≠ e → Q (.bl false) H2 := fun H2 s2 n => (q H2 s2).2 fun z => n (eqv2.mp z).2
      have good : ∀ (a5 a6 a7 : Option V) (a4 : Option V) (a3 : Option V) (H2 : Hp), Same H H2 → H2 l = some (.lst qs) → Paired (OnPile K H l H2) qs st' → d = e → ∃ (v3 v4 v5 v6 v7 : Option V) (ps : List V) (st : List (PyData × PyData)), [some x0, some y0, some (V.ref l), a3, a4, a5, a6, a7] = [some x0, some y0, some (.ref l), v3, v4, v5, v6, v7] ∧ Same H H2 ∧ H2 l = some (.lst ps) ∧ Paired (OnPile K H l H2) ps st ∧ (i + 1) + work st ≤ 999999 ∧ (d0 = e0 ↔ ∀ p ∈ st, p.1 = p.2) := fun a5 a6 a7 a4 a3 H2 s2 l2 p2 z =>
        ⟨_, _, _, _, _, qs, st', rfl, s2, l2, p2, by omega, eqv2.trans ⟨fun h => h.1, fun h => ⟨h, z⟩⟩⟩
      -- two is None
      refine ⟨_, rfl, rfl, _, rfl, ite2 (fun c => ?_) (fun c => ?_)⟩
      · have ee : e = .none := (dp_non hy).mp (of_decide_eq_true c)
        refine ⟨_, rfl, rfl, _, rfl, ite2 (fun c => ?_) (fun c => ?_)⟩
        · refine bad _ sm1 fun z => ?_
          rw [ee] at z
          rw [(dp_non hx).mpr z] at c
          cases c
        · refine good _ _ _ _ _ _ sm1 hl1 pr1 ?_
          rw [ee]
          refine (dp_non hx).mp ?_
          by_cases z : x = .non
          · exact z
          · rw [decide_eq_false z] at c
            exact absurd rfl c
      have ne' : e ≠ .none := fun z => c (decide_eq_true ((dp_non hy).mpr z))
      -- isinstance(two, (tuple, list))
      refine ⟨_, rfl, (by show 2 ≤ sizeLine; decide), fun tp ntp => ⟨_, _, _, _, _, _, rfl, upd_same, cls2, ty_at hy (same_new sm1 ntp), kit_seqT e, _, rfl, ?_⟩⟩
      have sm2 : Same H (upd H1 tp (.tup [.ty "tuple", .ty "list"])) := same_new sm1 ntp
      have pr2 : Paired (OnPile K H l (upd H1 tp (.tup [.ty "tuple", .ty "list"]))) qs st' := paired_map (fun _ _ h => h.new ntp) pr1
      have hl2 : (upd H1 tp (.tup [.ty "tuple", .ty "list"])) l = some (.lst qs) := by rw [upd_ne (ne_of_none hl1 ntp)]; exact hl1
      generalize upd H1 tp (.tup [.ty "tuple", .ty "list"]) = H2 at sm2 pr2 hl2
      refine ite2 (fun cq => ?_) (fun cq => ?_)
      · -- two is a sequence
        have other : ∀ b1 b2 : Bool, (!decide (V.bl b1 = V.bl b2)) = true → b1 ≠ b2 := fun b1 b2 h z => by
          rw [z, decide_eq_true rfl] at h
          cases h
        have alike : ∀ b1 b2 : Bool, ¬ (!decide (V.bl b1 = V.bl b2)) = true → b1 = b2 := fun b1 b2 h => by
          by_cases z : b1 = b2
          · exact z
          · exact absurd (show (!decide (V.bl b1 = V.bl b2)) = true by rw [decide_eq_false fun y => z (V.bl.inj y)]; rfl) h
        refine ⟨_, rfl, _, _, _, _, _, rfl, .ty _, ty_at hy sm2, kit_ty (kit_tup e), ⟨_, rfl, _, _, _, _, _, rfl, .ty _, ty_at hx sm2, kit_ty (kit_tup d), ⟨rfl, _, rfl, ite2 (fun c1 => iteT (bad _ sm2 fun z => other _ _ c1 (by rw [z]))) (fun c1 => ?_)⟩⟩⟩
        refine ⟨_, rfl, _, _, _, _, _, rfl, .ty _, ty_at hy sm2, kit_ty (kit_lst e), ⟨_, rfl, _, _, _, _, _, rfl, .ty _, ty_at hx sm2, kit_ty (kit_lst d), ⟨rfl, _, rfl, ite2 (fun c2 => bad _ sm2 fun z => other _ _ c2 (by rw [z])) (fun c2 => ?_)⟩⟩⟩
        have k1 := alike _ _ c1
        have k2 := alike _ _ c2
        have kd : (isTup d || isLst d) = true := by rw [← k1, ← k2]; exact cq
        obtain ⟨ax, xs, rfl, sx, ox⟩ := dp_seq hx kd
        obtain ⟨ay, ys, rfl, sy, oy⟩ := dp_seq hy cq
        have lx := dpAll_len ox
        have ly := dpAll_len oy
        -- len(one) != len(two)
        refine ⟨_, rfl, _, _, rfl, len_rd (sq_same sm2 sx), _, rfl, _, _, rfl, len_rd (sq_same sm2 sy), rfl, _, rfl, ite2 (fun c3 => ?_) (fun c3 => ?_)⟩
        · refine bad _ sm2 fun z => ?_
          rw [lx, ly, z, decide_eq_true rfl] at c3
          cases c3
        have ll : (kids d).length = (kids e).length := by
          by_cases z : V.int (xs.length : Int) = V.int (ys.length : Int)
          · have := V.int.inj z
            omega
          · rw [decide_eq_false z] at c3
            exact absurd rfl c3
        have nk := nd_kids cq
        have big : ys.length ≤ 999999 := by
          have h1 := work_len ((kids d).zip (kids e))
          rw [work_zip _ _ ll, List.length_zip] at h1
          omega
        refine ⟨_, rfl, _, _, rfl, len_rd (sq_same sm2 sy), _, rfl, by omega, by omega, for_range (lo := 0) (n := ((ys.length : Nat) : Int).toNat) (fun j σ H3 => ∃ (v7 : Option V) (ps : List V), σ = [some x0, some y0, some (.ref l), some (.int (0 + (i : Int))), some (.ref pa), some (.ref ax), some (.ref ay), v7] ∧ Same H H3 ∧ H3 l = some (.lst ps) ∧ Paired (OnPile K H l H3) ps (st' ++ ((kids d).zip (kids e)).take j))
          ⟨v7, qs, rfl, sm2, hl2, by simpa using pr2⟩ ?_ ?_⟩
        · rintro j σ H3 hj ⟨v7, ps, rfl, s3, l3, p3⟩
          have hj' : j < (kids e).length := by omega
          have hj2 : j < (kids d).length := by omega
          obtain ⟨u, gu, du⟩ := dpAll_get ox j _ (List.getElem?_eq_getElem hj2)
          obtain ⟨z, gz, dz⟩ := dpAll_get oy j _ (List.getElem?_eq_getElem hj')
          have lps : ps.length < sizeLine := by
            have h1 := Paired.length p3
            have h2 := work_len (st' ++ ((kids d).zip (kids e)).take j)
            have h3 := work_len st'
            have h4 : (((kids d).zip (kids e)).take j).length ≤ ys.length := by
              rw [List.length_take, List.length_zip]
              omega
            rw [List.length_append] at h1
            have := sizeLine_eq
            omega
          have gu' : atI xs (0 + (j : Int)) = some u := by rw [Int.zero_add]; exact atI_nat gu
          have gz' : atI ys (0 + (j : Int)) = some z := by rw [Int.zero_add]; exact atI_nat gz
          have gz2 : ((kids d).zip (kids e))[j]? = some ((kids d)[j], (kids e)[j]) := by
            rw [List.getElem?_zip_eq_some]
            exact ⟨List.getElem?_eq_getElem hj2, List.getElem?_eq_getElem hj'⟩
          have done : ∀ pn : Addr, H3 pn = none → ∃ (v7 : Option V) (ps' : List V), [some x0, some y0, some (V.ref l), some (.int (0 + (i : Int))), some (.ref pa), some (.ref ax), some (.ref ay), some (.int (0 + (j : Int)))] = [some x0, some y0, some (.ref l), some (.int (0 + (i : Int))), some (.ref pa), some (.ref ax), some (.ref ay), v7] ∧ Same H (upd (upd H3 pn (.lst [u, z])) l (.lst (ps ++ [.ref pn]))) ∧
              (upd (upd H3 pn (.lst [u, z])) l (.lst (ps ++ [.ref pn]))) l = some (.lst ps') ∧ Paired (OnPile K H l (upd (upd H3 pn (.lst [u, z])) l (.lst (ps ++ [.ref pn])))) ps' (st' ++ ((kids d).zip (kids e)).take (j + 1)) := fun pn npn => by
            have npl2 : pn ≠ l := (ne_of_none l3 npn).symm
            refine ⟨_, ps ++ [.ref pn], rfl, same_put (same_new s3 npn) nlH, upd_same, ?_⟩
            rw [List.take_add_one, gz2, ← List.append_assoc]
            exact paired_snoc (paired_map (fun _ _ h => (h.new npn).put) p3) ⟨pn, u, z, rfl, npl2, by rw [upd_ne npl2, upd_same], du, dz⟩
          refine ⟨_, rfl, .inl ⟨rfl, _, .inl (.inl l3)⟩, _, rfl, _, rfl, ?_⟩
          rcases sq_same s3 sx with gx | gx <;> rcases sq_same s3 sy with gy | gy
          all_goals first
            | refine .inl ⟨_, _, _, _, rfl, rfl, gx, gu', _, rfl, _, rfl, ?_⟩
            | refine .inr (.inl ⟨_, _, _, _, rfl, rfl, gx, gu', _, rfl, _, rfl, ?_⟩)
          all_goals first
            | refine .inl ⟨_, _, _, _, rfl, rfl, gy, gz', (by show 2 ≤ sizeLine; decide), fun pn npn => ?_⟩
            | refine .inr (.inl ⟨_, _, _, _, rfl, rfl, gy, gz', (by show 2 ≤ sizeLine; decide), fun pn npn => ?_⟩)
          all_goals exact ⟨l, ps, .ref pn, rfl, rfl, by rw [upd_ne (ne_of_none l3 npn)]; exact l3, lps, done pn npn⟩
        · rintro σ H3 ⟨v7, ps, rfl, s3, l3, p3⟩
          have full : ((kids d).zip (kids e)).take ((ys.length : Nat) : Int).toNat = (kids d).zip (kids e) := List.take_of_length_le (by rw [List.length_zip]; omega)
          rw [full] at p3
          refine ⟨_, _, _, _, _, ps, _, rfl, s3, l3, p3, ?_, ?_⟩
          · rw [work_app, work_zip _ _ ll]
            omega
          · rw [eqv2, kind_eq k1 k2 cq, zip_eq _ _ ll]
            constructor
            · rintro ⟨h1, h2⟩ p hp
              exact (List.mem_append.mp hp).elim (h1 p) (h2 p)
            · intro h
              exact ⟨fun p hp => h p (List.mem_append_left _ hp), fun p hp => h p (List.mem_append_right _ hp)⟩
      · -- two is a leaf
        have cs : (isTup e || isLst e) = false := by
          cases z : (isTup e || isLst e) with
          | true => exact absurd z cq
          | false => rfl
        have other : ∀ b1 b2 : Bool, (!decide (V.bl b1 = V.bl b2)) = true → b1 ≠ b2 := fun b1 b2 h z => by
          rw [z, decide_eq_true rfl] at h
          cases h
        have alike : ∀ b1 b2 : Bool, ¬ (!decide (V.bl b1 = V.bl b2)) = true → b1 = b2 := fun b1 b2 h => by
          by_cases z : b1 = b2
          · exact z
          · exact absurd (show (!decide (V.bl b1 = V.bl b2)) = true by rw [decide_eq_false fun y => z (V.bl.inj y)]; rfl) h
        refine ⟨_, rfl, _, _, _, _, _, rfl, .ty _, ty_at hy sm2, kit_ty (kit_bl e), ⟨_, rfl, _, _, _, _, _, rfl, .ty _, ty_at hx sm2, kit_ty (kit_bl d), ⟨rfl, _, rfl, ite2 (fun c1 => iteT (bad _ sm2 fun z => other _ _ c1 (by rw [z]))) (fun c1 => ?_)⟩⟩⟩
        refine ⟨_, rfl, _, _, _, _, _, rfl, .ty _, ty_at hy sm2, kit_ty (kit_st e), ⟨_, rfl, _, _, _, _, _, rfl, .ty _, ty_at hx sm2, kit_ty (kit_st d), ⟨rfl, _, rfl, ite2 (fun c2 => bad _ sm2 fun z => other _ _ c2 (by rw [z])) (fun c2 => ?_)⟩⟩⟩
        have k1 := alike _ _ c1
        have k2 := alike _ _ c2
        -- not isinstance(two, str) and not isinstance(one, int) or one != two
        refine ⟨_, rfl, _, _, _, _, _, rfl, .ty _, ty_at hy sm2, kit_ty (kit_st e), ⟨_, rfl, ?_⟩⟩
        have last : (isSt e = true ∨ isIn d = true) → scal x y = true ∧ ((!decide (x = y)) = true → d ≠ e) ∧ (¬ (!decide (x = y)) = true → d = e) := fun h => by
          obtain ⟨h1, h2⟩ := leaf_ne hx hy ne' cs k1 k2 h
          refine ⟨h1, fun z y' => ?_, fun z => ?_⟩
          · rw [decide_eq_true (h2.mpr y')] at z
            cases z
          · refine h2.mp ?_
            by_cases y' : x = y
            · exact y'
            · rw [decide_eq_false y'] at z
              exact absurd rfl z
        cases hst : isSt e with
        | true =>
          obtain ⟨h1, h2, h3⟩ := last (.inl hst)
          refine ⟨_, rfl, _, rfl, h1, _, rfl, ite2 (fun c4 => bad _ sm2 (h2 c4)) (fun c4 => good _ _ _ _ _ _ sm2 hl2 pr2 (h3 c4))⟩
        | false =>
          refine ⟨_, rfl, _, _, _, _, _, rfl, .ty _, ty_at hx sm2, kit_ty (kit_in d), ⟨_, rfl, ?_⟩⟩
          cases hin : isIn d with
          | true =>
            obtain ⟨h1, h2, h3⟩ := last (.inr hin)
            refine ⟨_, rfl, _, rfl, h1, _, rfl, ite2 (fun c4 => bad _ sm2 (h2 c4)) (fun c4 => good _ _ _ _ _ _ sm2 hl2 pr2 (h3 c4))⟩
          | false =>
            refine bad _ sm2 fun z => ?_
            subst z
            cases hy <;> simp_all [isTup, isLst, isSt, isIn]
    · rintro σ H' ⟨v3, v4, v5, v6, v7, ps, st, rfl, sm, hl, pr, hw, eqv⟩
      exact absurd hw (by show ¬ (1000000 + work st ≤ 999999); omega)
end
/-! ### K24: the program's own defs -/
open M24
def spRun : Sp := fun vs H Q _ => ∃ (z k : Str) (i : Nat), vs = [.str z, .int i, .str k] ∧ i ≤ z.length ∧ z.length ≤ 300000 ∧ Q (.int (runE z.cps.toList k i : Nat)) H
section
variable {P : Program} {w : World} {K : PySem.W.Frag} {mg : Str → Option Value} {base : Heap}
theorem str300 {z : Str} (h : z.length ≤ 300000) : z.length ≤ sizeLine := by
  have := sizeLine_eq
  omega
theorem cps_len {z : Str} : z.cps.toList.length = z.length := Array.length_toList
theorem cps_at {z : Str} {i : Nat} (h : i < z.length) : ∃ c, z.cps.toList[i]? = some c := ⟨_, List.getElem?_eq_getElem (by rw [cps_len]; exact h)⟩
abbrev N_run_end : List Str := ["words", "at", "kept"]
theorem sc_run_end : FnScope N_run_end ["words", "at", "kept"] (defScope s_run_end) := ⟨rfl, rfl, rfl, by decide +kernel, rfl, by decide +kernel, by decide +kernel⟩
theorem bi_run_end {K : PySem.W.Frag} {mg : Str → Option Value} {f : Addr} {fd : FuncData} (D : Dd K mg "run_end" s_run_end f fd) : Binds K fd ["words", "at", "kept"] [] := D.fn.bindsN fun _ _ _ _ _ _ us hl => match us, hl with | [_, _, _], _ => rfl
theorem ok_run_end (T : Tx K mg) : OkF P w K mg base CX0 1 "run_end" ["words", "at", "kept"] spRun := by
  obtain ⟨fd, D⟩ := dd_run_end T
  refine okF0 D sc_run_end (bi_run_end D) (fun vs H Q E h => ?_) (fun cdv A outer s H vs Q E hr h => ?_)
  · obtain ⟨z, k, i, rfl, _⟩ := h
    rfl
  · obtain ⟨z, k, i, rfl, hi, hz, q⟩ := h
    refine ⟨_, (pss_cons (ps_while PassesOwn.never (PW.pt (pw_and (pt_cmpR op_lt (pv 1) (pe_callB call_len_str (by rfl) (m_len T) (by decide +kernel) (pa_cons (pv 0) pa_nil)) (nomark _)) (pw_and1 (pt_cmpR op_in_sign (pe_ix ix_str (pv 0) (pv 1) (fun _ _ => rfl)) (pv 2) (by rfl)))))
      (pss_one (ps_aug (i := 1) sc_run_end.nd rfl (Or.inl rfl) pe_int ip_add)))
      (pss_one (ps_ret (pv 1)))), ?_⟩
    refine ⟨fun m σ H' => ∃ j : Nat, σ = [some (.str z), some (.int j), some (.str k)] ∧ H' = H ∧ j ≤ z.length ∧ m = z.length - j ∧ runE z.cps.toList k i = runE z.cps.toList k j, ⟨_, i, rfl, rfl, hi, rfl, rfl⟩, ?_⟩
    rintro m σ H' ⟨j, rfl, rfl, hj, rfl, e⟩
    have out : (j = z.length ∨ ∃ c, z.cps.toList[j]? = some c ∧ inS k c = false) → Q (.int j) H' := fun h => by
      have e2 : runE z.cps.toList k j = j := by
        rcases h with h | ⟨c, h1, h2⟩
        · exact runE_end (by rw [cps_len]; omega)
        · exact runE_out h1 h2
      rw [e, e2] at q
      exact q
    refine ⟨_, rfl, _, rfl, z, rfl, str300 hz, _, _, rfl, rfl, _, rfl, ite2 (fun c => ?_) (fun c => ?_)⟩
    · have lt : j < z.length := by
        have := of_decide_eq_true c
        omega
      obtain ⟨d, hd⟩ := cps_at lt
      refine ⟨_, rfl, _, rfl, z, _, d, rfl, rfl, str300 hz, atI_nat hd, _, rfl, d, k, rfl, rfl, _, rfl, ite2 (fun c2 => ?_) (fun c2 => ?_)⟩
      · refine ⟨_, fun σ' H' h => h, _, rfl, _, _, rfl, rfl, ?_⟩
        exact ⟨z.length - (j + 1), by omega, j + 1, rfl, rfl, lt, rfl, by rw [e, runE_in hd (decide_eq_true (of_decide_eq_true c2))]⟩
      · exact ⟨_, rfl, out (.inr ⟨d, hd, by simpa using c2⟩)⟩
    · refine iteF ⟨_, rfl, out (.inl ?_)⟩
      have : ¬ j < z.length := fun h => c (decide_eq_true (by omega))
      omega
theorem sign_eq {c : Nat} {k : Nat} {u : Str} (hu : u = ⟨#[k]⟩) (h : decide (V.str ⟨#[c]⟩ = V.str u) = true) : c = k := by
  have h1 := V.str.inj (of_decide_eq_true h)
  rw [hu] at h1
  have h2 := congrArg (fun z : Str => z.cps.toList) h1
  simpa using h2
theorem sign_ne {c : Nat} {k : Nat} {u : Str} (hu : u = ⟨#[k]⟩) (h : ¬ decide (V.str ⟨#[c]⟩ = V.str u) = true) : c ≠ k := fun e => h (decide_eq_true (by rw [e, hu]))
/-- what a number is told as: none, what is no number here -/
def badNum (z : Str) : Prop := z.cps.toList[0]? = some 48 ∨ z.length > 2 ∨ numOf z > 40
def spNum (K : PySem.W.Frag) : Sp := fun vs H Q E => ∃ (line : Int) (at_ : Int) (z : Str), vs = [.int line, .int at_, .str z] ∧ z.length ≤ 300000 ∧ z.length ≠ 0 ∧ (¬ z.length > 2 → PySem.intText? z = some (numOf z)) ∧
  (badNum z → ∀ d, H d = none → E (.ref (He.ga K "BadText")) (some d) (upd H d (.xd (mk_BadText [.int line, .int at_])))) ∧ (¬ badNum z → Q (.int (numOf z)) H)
abbrev N_number_told : List Str := ["line", "at", "digits"]
theorem sc_number_told : FnScope N_number_told ["line", "at", "digits"] (defScope s_number_told) := ⟨rfl, rfl, rfl, by decide +kernel, rfl, by decide +kernel, by decide +kernel⟩
theorem bi_number_told {K : PySem.W.Frag} {mg : Str → Option Value} {f : Addr} {fd : FuncData} (D : Dd K mg "number_told" s_number_told f fd) : Binds K fd ["line", "at", "digits"] [] := D.fn.bindsN fun _ _ _ _ _ _ us hl => match us, hl with | [_, _, _], _ => rfl
theorem ok_number_told (T : Tx K mg) : OkF P w K mg base (L2N.CX P w) 3 "number_told" ["line", "at", "digits"] (spNum K) := by
  obtain ⟨fd, D⟩ := dd_number_told T
  refine okFN D sc_number_told (bi_number_told D) (fun vs H Q E h => ?_) (fun cdv A outer s H vs Q E hr h => ?_)
  · obtain ⟨line, at_, z, rfl, _⟩ := h
    rfl
  · obtain ⟨line, at_, z, rfl, hz, hz0, hn, hbad, hgood⟩ := h
    refine ⟨_, (pss_cons (ps_if (PW.pt (pw_or (pt_cmpR op_eq (pe_ix ix_str (pv 2) pe_int (fun _ _ => rfl)) pe_str (nomark _)) (pw_or (pt_cmpR op_gt (pe_callB call_len_str (by rfl) (m_len T) (by decide +kernel) (pa_cons (pv 2) pa_nil)) pe_int (nomark _)) (pw_or1 (pt_cmpR op_gt (pe_callTy call_int_str (by rfl) (m_int T) (by decide +kernel) (pa_cons (pv 2) pa_nil)) (pe_globI (c_MOST_NUMBER T)) (nomark _))))))
      (pss_one (L2N.ps_raise rfl (L2N.takes_of rfl rfl rfl rfl) (pmk_x (x_BadText T) hr (by decide) (by decide) (pa_cons (pv 0) (pa_cons (pv 1) pa_nil)))))
      pss_nil)
      (pss_one (ps_ret (pe_callTy call_int_str (by rfl) (m_int T) (by decide +kernel) (pa_cons (pv 2) pa_nil))))), ?_⟩
    obtain ⟨d0, hd0⟩ := cps_at (z := z) (i := 0) (by omega)
    have raise : ∀ (σ : L2.St), σ = [some (.int line), some (.int at_), some (.str z)] → badNum z → tMkX (He.ga K "BadText") 2 mk_BadText (tCons (tVar 0) (tCons (tVar 1) tNil)) σ H fun cls d H' => E cls d H' := fun σ e b => by
      subst e
      exact ⟨_, rfl, _, rfl, rfl, fun d nd => hbad b d nd⟩
    refine ⟨_, rfl, z, _, d0, rfl, rfl, str300 hz, atI_nat (j := 0) hd0, rfl, _, rfl, ite2 (fun c => ?_) (fun c => ?_)⟩
    · rw [sign_eq (k := 48) (by decide +kernel) c] at hd0
      exact iteT (raise _ rfl (.inl hd0))
    · refine ⟨_, rfl, z, rfl, str300 hz, _, _, rfl, rfl, _, rfl, ite2 (fun c2 => ?_) (fun c2 => ?_)⟩
      · exact iteT (raise _ rfl (.inr (.inl (by have := of_decide_eq_true c2; omega))))
      · have l2 : ¬ z.length > 2 := fun h => c2 (decide_eq_true (by omega))
        refine ⟨_, rfl, z, _, rfl, hn l2, by omega, _, _, rfl, rfl, _, rfl, ite2 (fun c3 => ?_) (fun c3 => ?_)⟩
        · exact raise _ rfl (.inr (.inr (of_decide_eq_true c3)))
        · refine ⟨_, rfl, z, _, rfl, hn l2, by omega, hgood ?_⟩
          rintro (h | h | h)
          · rw [hd0] at h
            exact sign_ne (k := 48) (by decide +kernel) c (Option.some.inj h)
          · exact l2 h
          · exact c3 (decide_eq_true h)
end
section
variable {P : Program} {w : World} {K : PySem.W.Frag} {mg : Str → Option Value} {base : Heap}
/-- tokens: what is found, or where it is bad -/
def spTok (K : PySem.W.Frag) : Sp := fun vs H Q E => ∃ (line : Int) (z : Str), vs = [.int line, .str z] ∧ z.length ≤ 300000 ∧
  (∀ i, outcome z = .inl i → ∀ (d : Addr) (H' : Hp), Same H H' → H' d = none → E (.ref (He.ga K "BadText")) (some d) (upd H' d (.xd (mk_BadText [.int line, .int (i : Int)])))) ∧
  (∀ acc, outcome z = .inr acc → ∀ (p : Addr) (vs : List V) (H' : Hp), Same H H' → SqT K H' p vs → DpAll K H' vs acc → Q (.ref p) H')
abbrev N_tokens : List Str := ["line", "words", "found", "at", "sign", "behind"]
theorem sc_tokens : FnScope N_tokens ["line", "words"] (defScope s_tokens) := ⟨rfl, rfl, rfl, by decide +kernel, rfl, by decide +kernel, by decide +kernel⟩
theorem bi_tokens {K : PySem.W.Frag} {mg : Str → Option Value} {f : Addr} {fd : FuncData} (D : Dd K mg "tokens" s_tokens f fd) : Binds K fd ["line", "words"] [] := D.fn.bindsN fun _ _ _ _ _ _ us hl => match us, hl with | [_, _], _ => rfl
theorem ok_tokens (T : Tx K mg) : OkF P w K mg base (L2N.CX P w) 4 "tokens" ["line", "words"] (spTok K) := by
  obtain ⟨fd, D⟩ := dd_tokens T
  refine okFN D sc_tokens (bi_tokens D) (fun vs H Q E h => ?_) (fun cdv A outer s H vs Q E hr h => ?_)
  · obtain ⟨line, z, rfl, _⟩ := h
    rfl
  · obtain ⟨line, z, rfl, hz, hbad, hgood⟩ := h
    refine ⟨_, (pss_cons (ps_set (i := 2) sc_tokens.nd rfl (Or.inl rfl) (pe_lst pa_nil))
      (pss_cons (ps_set (i := 3) sc_tokens.nd rfl (Or.inl rfl) pe_int)
      (pss_cons (ps_while PassesOwn.leaving (pt_cmpR op_lt (pv 3) (pe_callB call_len_str (by rfl) (m_len T) (by decide +kernel) (pa_cons (pv 1) pa_nil)) (nomark _))
      (pss_cons (ps_set (i := 4) sc_tokens.nd rfl (Or.inl rfl) (pe_ix ix_str (pv 1) (pv 3) (fun _ _ => rfl)))
      (pss_cons (ps_set (i := 5) sc_tokens.nd rfl (Or.inl rfl) (pe_op op_add (pv 3) pe_int))
      (C8.pss_cut (ps_if (pt_cmpR op_in_sign (pv 4) (pe_globS (c_LETTERS T)) (by rfl))
      (pss_cons (ps_set (i := 5) sc_tokens.nd rfl (Or.inl rfl) (pe_callO (ok_run_end T) (hr.mono (by decide)) pass0 (pa_cons (pv 1) (pa_cons (pv 3) (pa_cons (pe_globS (c_LETTERS T)) pa_nil)))))
      (pss_one (ps_expr (pe_bm PySem.F.plainAttrs_list PySem.F.slot_list_append PySem.F.type_list_append mt_append (pv 2) (pa_cons (pe_tup (pa_cons (pe_slice sl_str (pv 1) (po_some (pv 3)) (po_some (pv 5))) (pa_cons (pv 3) pa_nil))) pa_nil)))))
      (pss_one (ps_if (pt_cmpR op_in_sign (pv 4) (pe_globS (c_DIGITS T)) (by rfl))
      (pss_cons (ps_set (i := 5) sc_tokens.nd rfl (Or.inl rfl) (pe_callO (ok_run_end T) (hr.mono (by decide)) pass0 (pa_cons (pv 1) (pa_cons (pv 3) (pa_cons (pe_globS (c_DIGITS T)) pa_nil)))))
      (pss_one (ps_expr (pe_bm PySem.F.plainAttrs_list PySem.F.slot_list_append PySem.F.type_list_append mt_append (pv 2) (pa_cons (pe_tup (pa_cons (pe_callO (ok_number_told T) (hr.mono (by decide)) (L2N.passes_call (L2N.takes_of rfl rfl rfl rfl) fun _ _ _ _ z => z) (pa_cons (pv 0) (pa_cons (pv 3) (pa_cons (pe_slice sl_str (pv 1) (po_some (pv 3)) (po_some (pv 5))) pa_nil)))) (pa_cons (pv 3) pa_nil))) pa_nil)))))
      (pss_one (ps_if (pt_cmpR op_in_sign (pv 4) (pe_globS (c_SIGNS T)) (by rfl))
      (pss_one (ps_expr (pe_bm PySem.F.plainAttrs_list PySem.F.slot_list_append PySem.F.type_list_append mt_append (pv 2) (pa_cons (pe_tup (pa_cons (pv 4) (pa_cons (pv 3) pa_nil))) pa_nil))))
      (pss_one (ps_if (pt_cmpR op_ne (pv 4) pe_str (nomark _))
      (pss_one (L2N.ps_raise rfl (L2N.takes_of rfl rfl rfl rfl) (pmk_x (x_BadText T) hr (by decide) (by decide) (pa_cons (pv 0) (pa_cons (pv 3) pa_nil)))))
      pss_nil)))))))
      (pss_one (ps_set (i := 3) sc_tokens.nd rfl (Or.inl rfl) (pv 5)))))))
      (pss_cons (ps_if (pt_not (pt_truth (pv 2) (by intro _; rfl)))
      (pss_one (L2N.ps_raise rfl (L2N.takes_of rfl rfl rfl rfl) (pmk_x (x_BadText T) hr (by decide) (by decide) (pa_cons (pv 0) (pa_cons pe_int pa_nil)))))
      pss_nil)
      (pss_one (ps_ret (pe_callTy call_tuple_of (by rfl) (m_tuple T) (by decide +kernel) (pa_cons (pv 2) pa_nil)))))))), ?_⟩
    refine ⟨(by show 0 ≤ sizeLine; decide), fun fo nfo => ?_⟩
    refine ⟨fun m σ H' => ∃ (i : Nat) (v4 v5 : Option V) (us : List V) (acc : List PyData), σ = [some (.int line), some (.str z), some (.ref fo), some (.int i), v4, v5] ∧ Same H H' ∧ H' fo = some (.lst us) ∧ DpAll K H' us acc ∧ flatTs acc = true ∧ acc.length ≤ i ∧ i ≤ z.length ∧ scanAt z i acc = scanAt z 0 [] ∧ m = z.length - i,
      ⟨_, 0, none, none, [], [], rfl, same_new (Same.refl H) nfo, upd_same, .nil, rfl, Nat.le_refl _, Nat.zero_le _, rfl, rfl⟩, ?_⟩
    rintro m σ H' ⟨i, v4, v5, us, acc, rfl, sm, hf, ha, hfl, hlen, hi, hsc, rfl⟩
    refine ⟨_, rfl, _, rfl, z, rfl, str300 hz, _, _, rfl, rfl, _, rfl, ite2 (fun c => ?_) (fun c => ?_)⟩
    · have lt : i < z.length := by
        have := of_decide_eq_true c
        omega
      obtain ⟨d, hd⟩ := cps_at lt
      refine ⟨_, fun σ' H' h => h, ?_⟩
      have bad : stepAt z i = none → outcome z = .inl i := fun e => by
        unfold outcome
        rw [← hsc, scan_bad lt e]
      have lus : us.length < sizeLine := by
        have h1 := dpAll_len ha
        have := sizeLine_eq
        omega
      -- sign = words[at]; behind = at + 1
      refine ⟨_, rfl, _, rfl, z, _, d, rfl, rfl, str300 hz, atI_nat hd, _, rfl, _, _, rfl, rfl, ?_⟩
      -- the chain, then at = behind
      refine ⟨fun σ' H2 => ∃ (e : Nat) (new : List PyData) (us2 : List V), stepAt z i = some (e, new) ∧ σ' = [some (.int line), some (.str z), some (.ref fo), some (.int i), some (.str ⟨#[d]⟩), some (.int e)] ∧ Same H H2 ∧ H2 fo = some (.lst us2) ∧ DpAll K H2 us2 (acc ++ new) ∧ flatTs new = true ∧ new.length ≤ 1, ?_, ?_⟩
      · have put : ∀ (e : Nat) (x : V) (dx : PyData) (σ' : L2.St), (∀ H2, Dp K H2 x dx) → flatT dx = true → stepAt z i = some (e, [.tuple [dx, .int i]]) → σ' = [some (.int line), some (.str z), some (.ref fo), some (.int i), some (.str ⟨#[d]⟩), some (.int e)] →
            ∀ pt, H' pt = none → ∃ l xs y, V.ref fo = .ref l ∧ [V.ref pt] = [y] ∧ (upd H' pt (.tup [x, .int i])) l = some (.lst xs) ∧ xs.length < sizeLine ∧ ∃ (e : Nat) (new : List PyData) (us2 : List V), stepAt z i = some (e, new) ∧ σ' = [some (.int line), some (.str z), some (.ref fo), some (.int i), some (.str ⟨#[d]⟩), some (.int e)] ∧ Same H (upd (upd H' pt (.tup [x, .int i])) l (.lst (xs ++ [y]))) ∧
              (upd (upd H' pt (.tup [x, .int i])) l (.lst (xs ++ [y]))) fo = some (.lst us2) ∧ DpAll K (upd (upd H' pt (.tup [x, .int i])) l (.lst (xs ++ [y]))) us2 (acc ++ new) ∧ flatTs new = true ∧ new.length ≤ 1 := fun e x dx σ' hx hfx hs eσ pt npt => by
          have npf : pt ≠ fo := (ne_of_none hf npt).symm
          have hf2 : (upd H' pt (.tup [x, .int i])) fo = some (.lst us) := by rw [upd_ne npf.symm]; exact hf
          refine ⟨fo, us, _, rfl, rfl, hf2, lus, e, _, _, hs, eσ, same_put (same_new sm npt) nfo, upd_same, ?_, by simp [flatTs, flatT, hfx], Nat.le_refl _⟩
          refine dpAll_snoc (dpAll_put hf2 (fun _ => lst_tup) (fun _ _ => lst_frz) hfl (dpAll_same (same_new (Same.refl _) npt) ha)) ?_
          exact .tup (.inl (.inl (by rw [upd_ne npf, upd_same]))) (.cons (hx _) (.cons (.int _) .nil))
        refine ⟨_, rfl, d, _, rfl, rfl, _, rfl, ite2 (fun c1 => ?_) (fun c1 => ?_)⟩
        · have s1 : stepAt z i = some (runE z.cps.toList sLet i, [.tuple [.str (cutN z i (runE z.cps.toList sLet i)), .int i]]) := by
            unfold stepAt
            rw [hd]
            exact if_pos c1
          have rl := (step_le s1).2
          refine ⟨_, rfl, _, rfl, z, _, i, rfl, hi, hz, ?_⟩
          refine ⟨_, rfl, .inl ⟨rfl, _, SqL.of hf⟩, _, rfl, _, rfl, _, rfl, _, rfl, _, rfl, z, rfl, str300 hz, _, rfl, (by show 2 ≤ sizeLine; decide), fun pt npt => ?_⟩
          exact put _ _ _ _ (fun _ => .str _) rfl s1 rfl pt npt
        · refine ⟨_, rfl, d, _, rfl, rfl, _, rfl, ite2 (fun c2 => ?_) (fun c2 => ?_)⟩
          · refine ⟨_, rfl, _, rfl, z, _, i, rfl, hi, hz, ?_⟩
            have r2 := runE_le (l := z.cps.toList) (k := sDig) (i := i) (by rw [cps_len]; omega)
            rw [cps_len] at r2
            have r3 : i < runE z.cps.toList sDig i := by
              rw [runE_in (k := sDig) hd c2]
              exact Nat.lt_of_lt_of_le (Nat.lt_succ_self i) runE_ge
            have cl := cutN_len (Nat.le_of_lt r3) r2
            have c0 : (cutN z i (runE z.cps.toList sDig i)).cps.toList[0]? = some d := by
              rw [cutN_get (Nat.le_of_lt r3) r2 (by omega)]
              exact hd
            have cb : badNum (cutN z i (runE z.cps.toList sDig i)) ↔ (d = 48 ∨ runE z.cps.toList sDig i - i > 2 ∨ numOf (cutN z i (runE z.cps.toList sDig i)) > 40) := by
              unfold badNum
              rw [c0, cl]
              exact or_congr_left ⟨Option.some.inj, congrArg some⟩
            have s0 : stepAt z i = (if d = 48 ∨ runE z.cps.toList sDig i - i > 2 ∨ numOf (cutN z i (runE z.cps.toList sDig i)) > 40 then none else some (runE z.cps.toList sDig i, [.tuple [.int (numOf (cutN z i (runE z.cps.toList sDig i))), .int i]])) := by
              unfold stepAt
              rw [hd]
              exact (if_neg c1).trans (if_pos c2)
            refine ⟨_, rfl, .inl ⟨rfl, _, SqL.of hf⟩, _, rfl, _, rfl, _, rfl, _, rfl, _, rfl, _, rfl, _, rfl, z, rfl, str300 hz, line, i, cutN z i (runE z.cps.toList sDig i), rfl, by omega, by omega, fun hl => ?_, fun hb d2 nd2 => ?_, fun hb => ?_⟩
            · exact cut_num lt ⟨d, hd, c2⟩ (by omega)
            · exact hbad i (bad (s0.trans (if_pos (cb.mp hb)))) d2 H' sm nd2
            · have s1 := s0.trans (if_neg fun h => hb (cb.mpr h))
              refine ⟨_, rfl, (by show 2 ≤ sizeLine; decide), fun pt npt => ?_⟩
              exact put _ _ _ _ (fun _ => .int _) rfl s1 rfl pt npt
          · refine ⟨_, rfl, d, _, rfl, rfl, _, rfl, ite2 (fun c3 => ?_) (fun c3 => ?_)⟩
            · have s1 : stepAt z i = some (i + 1, [.tuple [.str ⟨#[d]⟩, .int i]]) := by
                unfold stepAt
                rw [hd]
                exact (if_neg c1).trans ((if_neg c2).trans (if_pos c3))
              refine ⟨_, rfl, .inl ⟨rfl, _, SqL.of hf⟩, _, rfl, _, rfl, (by show 2 ≤ sizeLine; decide), fun pt npt => ?_⟩
              exact put _ _ _ _ (fun _ => .str _) rfl s1 rfl pt npt
            · have s0 : stepAt z i = (if d = 32 then some (i + 1, []) else none) := by
                unfold stepAt
                rw [hd]
                exact (if_neg c1).trans ((if_neg c2).trans (if_neg c3))
              refine ⟨_, rfl, rfl, _, rfl, ite2 (fun c4 => ?_) (fun c4 => ?_)⟩
              · refine ⟨_, rfl, _, rfl, rfl, fun d2 nd2 => hbad i (bad (s0.trans (if_neg fun h => ?_))) d2 H' sm nd2⟩
                subst h
                cases c4
              · have e32 : d = 32 := by
                  refine sign_eq (k := 32) (u := " ") (by decide +kernel) ?_
                  by_cases y : V.str ⟨#[d]⟩ = V.str " "
                  · exact decide_eq_true y
                  · exact absurd (show (!decide (V.str ⟨#[d]⟩ = V.str " ")) = true by rw [decide_eq_false y]; rfl) c4
                exact ⟨i + 1, [], us, s0.trans (if_pos e32), rfl, sm, hf, by rw [List.append_nil]; exact ha, rfl, Nat.zero_le _⟩
      · rintro σ' H2 ⟨e, new, us2, hs, rfl, sm2, hf2, ha2, hfl2, hl2⟩
        have le := step_le hs
        refine ⟨_, rfl, z.length - e, by omega, e, _, _, us2, acc ++ new, rfl, sm2, hf2, ha2, by rw [flatTs_app, hfl, hfl2]; rfl, by rw [List.length_append]; omega, le.2, by rw [← scan_step lt hs]; exact hsc, rfl⟩
    · have ge : z.length ≤ i := by
        have : ¬ i < z.length := fun h => c (decide_eq_true (by omega))
        omega
      have fin : scanAt z 0 [] = .inr acc := by rw [← hsc, scan_end ge]
      refine ⟨_, rfl, !us.isEmpty, .inl ⟨us, SqL.of hf, rfl⟩, ?_⟩
      cases us with
      | nil =>
        cases ha
        exact ⟨_, rfl, rfl, fun d2 nd2 => hbad 0 (by unfold outcome; rw [fin]) d2 H' sm nd2⟩
      | cons u us =>
        refine ⟨_, rfl, fo, u :: us, rfl, .inl ⟨SqL.of hf, fun p np => ?_⟩⟩
        have e : outcome z = .inr acc := by
          unfold outcome
          rw [fin]
          cases ha
          rfl
        exact hgood acc e p (u :: us) _ (same_new sm np) (.inl (.inl upd_same)) (dpAll_same (same_new (Same.refl _) np) ha)
end
/-! ### K24: what is due -/
open M24
section
variable {P : Program} {w : World} {K : PySem.W.Frag} {mg : Str → Option Value} {base : Heap}
theorem grow_tok {H H' : Hp} {fo pt : Addr} {us : List V} {acc : List PyData} {x : V} {dx : PyData} {i : Int} (sm : Same H H') (nfo : H fo = none) (hf : H' fo = some (.lst us)) (ha : DpAll K H' us acc) (hfl : flatTs acc = true) (npt : H' pt = none) (hx : ∀ H2, Dp K H2 x dx) :
    (upd H' pt (.tup [x, .int i])) fo = some (.lst us) ∧ Same H (upd (upd H' pt (.tup [x, .int i])) fo (.lst (us ++ [.ref pt]))) ∧ DpAll K (upd (upd H' pt (.tup [x, .int i])) fo (.lst (us ++ [.ref pt]))) (us ++ [.ref pt]) (acc ++ [.tuple [dx, .int i]]) := by
  have npf : pt ≠ fo := (ne_of_none hf npt).symm
  have hf2 : (upd H' pt (.tup [x, .int i])) fo = some (.lst us) := by rw [upd_ne npf.symm]; exact hf
  refine ⟨hf2, same_put (same_new sm npt) nfo, ?_⟩
  refine dpAll_snoc (dpAll_put hf2 (fun _ => lst_tup) (fun _ _ => lst_frz) hfl (dpAll_same (same_new (Same.refl _) npt) ha)) ?_
  exact .tup (.inl (.inl (by rw [upd_ne npf, upd_same]))) (.cons (hx _) (.cons (.int _) .nil))
abbrev N_law_behind : List Str := ["words", "at", "signs", "n"]
theorem sc_law_behind : FnScope N_law_behind ["words", "at", "signs"] (defScope s_law_behind) := ⟨rfl, rfl, rfl, by decide +kernel, rfl, by decide +kernel, by decide +kernel⟩
theorem bi_law_behind {K : PySem.W.Frag} {mg : Str → Option Value} {f : Addr} {fd : FuncData} (D : Dd K mg "_law_behind" s_law_behind f fd) : Binds K fd ["words", "at", "signs"] [] := D.fn.bindsN fun _ _ _ _ _ _ us hl => match us, hl with | [_, _, _], _ => rfl
theorem ok_law_behind (T : Tx K mg) : OkF P w K mg base CX0 1 "_law_behind" ["words", "at", "signs"] spRun := by
  obtain ⟨fd, D⟩ := dd_law_behind T
  refine okF0 D sc_law_behind (bi_law_behind D) (fun vs H Q E h => ?_) (fun cdv A outer s H vs Q E hr h => ?_)
  · obtain ⟨z, k, i, rfl, _⟩ := h
    rfl
  · obtain ⟨z, k, i, rfl, hi, hz, q⟩ := h
    refine ⟨_, (pss_cons (ps_for PassesOwn.never rfl (pi_range2 (by rfl) (m_range T) (pa_cons (pv 1) (pa_cons (pe_callB call_len_str (by rfl) (m_len T) (by decide +kernel) (pa_cons (pv 0) pa_nil)) pa_nil))) (pg_name (i := 3) sc_law_behind.nd rfl (Or.inl rfl))
      (pss_one (ps_if (pt_cmpR op_notIn_sign (pe_ix ix_str (pv 0) (pv 3) (fun _ _ => rfl)) (pv 2) (by rfl))
      (pss_one (ps_ret (pv 3)))
      pss_nil)))
      (pss_one (ps_ret (pe_callB call_len_str (by rfl) (m_len T) (by decide +kernel) (pa_cons (pv 0) pa_nil))))), ?_⟩
    refine ⟨_, rfl, _, rfl, z, rfl, str300 hz, (i : Int), (z.length : Int), rfl, ⟨by omega, by omega, by omega, by omega⟩, ?_⟩
    refine for_range (lo := (i : Int)) (n := ((z.length : Int) - (i : Int)).toNat) (fun j σ H' => ∃ v3, σ = [some (.str z), some (.int i), some (.str k), v3] ∧ H' = H ∧ runE z.cps.toList k i = runE z.cps.toList k (i + j))
      ⟨_, rfl, rfl, rfl⟩ ?_ ?_
    · rintro j σ H' hj ⟨v3, rfl, rfl, e⟩
      have lt : i + j < z.length := by omega
      obtain ⟨d, hd⟩ := cps_at lt
      have g : atI z.cps.toList ((i : Int) + (j : Int)) = some d := by
        rw [← Int.natCast_add]
        exact atI_nat hd
      refine ⟨_, rfl, _, rfl, z, _, d, rfl, rfl, str300 hz, g, _, rfl, d, k, rfl, rfl, _, rfl, ite2 (fun c => ?_) (fun c => ?_)⟩
      · have o : inS k d = false := by simpa using c
        refine ⟨_, rfl, ?_⟩
        rw [e, runE_out hd o, Int.natCast_add] at q
        exact q
      · exact ⟨_, rfl, rfl, by rw [e, runE_in hd (by simpa using c)]; rfl⟩
    · rintro σ H' ⟨v3, rfl, rfl, e⟩
      refine ⟨_, rfl, z, rfl, str300 hz, ?_⟩
      have o : i + ((z.length : Int) - (i : Int)).toNat = z.length := by omega
      rw [e, o, runE_end (by rw [cps_len]; exact Nat.le_refl _)] at q
      exact q
/-- what is due -/
def spDue (K : PySem.W.Frag) : Sp := fun vs H Q E => ∃ (line : Int) (z : Str), vs = [.int line, .str z] ∧ z.length ≤ 300000 ∧ (∀ (p : Addr) (H' : Hp), Same H H' → Dp K H' (.ref p) (due line z) → Q (.ref p) H')
theorem step_flat {z : Str} {i e : Nat} {new : List PyData} (h : stepAt z i = some (e, new)) : flatTs new = true ∧ new.length ≤ 1 := by
  unfold stepAt at h
  cases hc : z.cps.toList[i]? with
  | none => rw [hc] at h; cases h
  | some c =>
    rw [hc] at h
    simp only at h
    repeat' split at h
    all_goals cases h
    all_goals exact ⟨rfl, by simp⟩
abbrev N_law_due : List Str := ["line", "words", "letters", "figures", "found", "begin", "at", "sign"]
theorem sc_law_due : FnScope N_law_due ["line", "words"] (defScope s_law_due) := ⟨rfl, rfl, rfl, by decide +kernel, rfl, by decide +kernel, by decide +kernel⟩
theorem bi_law_due {K : PySem.W.Frag} {mg : Str → Option Value} {f : Addr} {fd : FuncData} (D : Dd K mg "_law_due" s_law_due f fd) : Binds K fd ["line", "words"] [] := D.fn.bindsN fun _ _ _ _ _ _ us hl => match us, hl with | [_, _], _ => rfl
theorem ok_law_due (T : Tx K mg) : OkF P w K mg base CX0 2 "_law_due" ["line", "words"] (spDue K) := by
  obtain ⟨fd, D⟩ := dd_law_due T
  refine okF0 D sc_law_due (bi_law_due D) (fun vs H Q E h => ?_) (fun cdv A outer s H vs Q E hr h => ?_)
  · obtain ⟨line, z, rfl, _⟩ := h
    rfl
  · obtain ⟨line, z, rfl, hz, q⟩ := h
    refine ⟨_, (pss_cons (ps_set (i := 2) sc_law_due.nd rfl (Or.inl rfl) pe_str)
      (pss_cons (ps_set (i := 3) sc_law_due.nd rfl (Or.inl rfl) pe_str)
      (pss_cons (ps_set (i := 4) sc_law_due.nd rfl (Or.inl rfl) (pe_lst pa_nil))
      (pss_cons (ps_set (i := 5) sc_law_due.nd rfl (Or.inl rfl) pe_int)
      (pss_cons (ps_for PassesOwn.never rfl (pi_range1 rfl (m_range T) (pa_cons (pe_callB call_len_str (by rfl) (m_len T) (by decide +kernel) (pa_cons (pv 1) pa_nil)) pa_nil)) (pg_name (i := 6) sc_law_due.nd rfl (Or.inl rfl))
      (pss_cons (ps_if (PW.pt (pw_or (pt_cmpR op_lt (pv 6) (pv 5) (nomark _)) (pw_or1 (pt_cmpR op_eq (pe_ix ix_str (pv 1) (pv 6) (fun _ _ => rfl)) pe_str (nomark _)))))
      (pss_one ps_continue)
      pss_nil)
      (pss_cons (ps_set (i := 7) sc_law_due.nd rfl (Or.inl rfl) (pe_ix ix_str (pv 1) (pv 6) (fun _ _ => rfl)))
      (pss_cons (ps_set (i := 5) sc_law_due.nd rfl (Or.inl rfl) (pe_op op_add (pv 6) pe_int))
      (pss_one (ps_if (pt_cmpR op_in_sign (pv 7) (pv 2) (by rfl))
      (pss_cons (ps_set (i := 5) sc_law_due.nd rfl (Or.inl rfl) (pe_callO (ok_law_behind T) (hr.mono (by decide)) pass0 (pa_cons (pv 1) (pa_cons (pv 6) (pa_cons (pv 2) pa_nil)))))
      (pss_one (ps_expr (pe_bm PySem.F.plainAttrs_list PySem.F.slot_list_append PySem.F.type_list_append mt_append (pv 4) (pa_cons (pe_tup (pa_cons (pe_slice sl_str (pv 1) (po_some (pv 6)) (po_some (pv 5))) (pa_cons (pv 6) pa_nil))) pa_nil)))))
      (pss_one (ps_if (pt_cmpR op_in_sign (pv 7) (pv 3) (by rfl))
      (pss_cons (ps_set (i := 5) sc_law_due.nd rfl (Or.inl rfl) (pe_callO (ok_law_behind T) (hr.mono (by decide)) pass0 (pa_cons (pv 1) (pa_cons (pv 6) (pa_cons (pv 3) pa_nil)))))
      (pss_cons (ps_if (PW.pt (pw_or (pt_cmpR op_eq (pv 7) pe_str (nomark _)) (pw_or (pt_cmpR op_gt (pe_op op_sub (pv 5) (pv 6)) pe_int (nomark _)) (pw_or1 (pt_cmpR op_gt (pe_callTy call_int_str (by rfl) (m_int T) (by decide +kernel) (pa_cons (pe_slice sl_str (pv 1) (po_some (pv 6)) (po_some (pv 5))) pa_nil)) pe_int (nomark _))))))
      (pss_one (ps_ret (pe_lst (pa_cons pe_str (pa_cons (pe_tup (pa_cons (pv 0) (pa_cons (pv 6) pa_nil))) pa_nil)))))
      pss_nil)
      (pss_one (ps_expr (pe_bm PySem.F.plainAttrs_list PySem.F.slot_list_append PySem.F.type_list_append mt_append (pv 4) (pa_cons (pe_tup (pa_cons (pe_callTy call_int_str (by rfl) (m_int T) (by decide +kernel) (pa_cons (pe_slice sl_str (pv 1) (po_some (pv 6)) (po_some (pv 5))) pa_nil)) (pa_cons (pv 6) pa_nil))) pa_nil))))))
      (pss_one (ps_if (pt_cmpR op_in_sign (pv 7) pe_str (by rfl))
      (pss_one (ps_expr (pe_bm PySem.F.plainAttrs_list PySem.F.slot_list_append PySem.F.type_list_append mt_append (pv 4) (pa_cons (pe_tup (pa_cons (pv 7) (pa_cons (pv 6) pa_nil))) pa_nil))))
      (pss_one (ps_ret (pe_lst (pa_cons pe_str (pa_cons (pe_tup (pa_cons (pv 0) (pa_cons (pv 6) pa_nil))) pa_nil)))))))))))))))
      (pss_cons (ps_if (pt_cmpR op_eq (pe_callB call_len_seq (by rfl) (m_len T) (by decide +kernel) (pa_cons (pv 4) pa_nil)) pe_int (nomark _))
      (pss_one (ps_ret (pe_lst (pa_cons pe_str (pa_cons (pe_tup (pa_cons (pv 0) (pa_cons pe_int pa_nil))) pa_nil)))))
      pss_nil)
      (pss_one (ps_ret (pe_lst (pa_cons pe_str (pa_cons (pe_callTy call_tuple_of (by rfl) (m_tuple T) (by decide +kernel) (pa_cons (pv 4) pa_nil)) pa_nil))))))))))), ?_⟩
    refine ⟨(by show 0 ≤ sizeLine; decide), fun fo nfo => ?_⟩
    have badEnd : ∀ (i : Nat) (H' : Hp), Same H H' → outcome z = .inl i → ∀ pt, H' pt = none → (2 ≤ sizeLine) ∧ ∀ pl, (upd H' pt (.tup [.int line, .int i])) pl = none → Q (.ref pl) (upd (upd H' pt (.tup [.int line, .int i])) pl (.lst [.str "BadText", .ref pt])) := fun i H' sm e pt npt => ⟨by decide, fun pl npl => by
      have npp : pt ≠ pl := fun z => by rw [← z, upd_same] at npl; cases npl
      refine q pl _ (same_new (same_new sm npt) npl) ?_
      have ed : due line z = .list [.str "BadText", .tuple [.int line, .int (i : Int)]] := by
        unfold due
        rw [e]
      rw [ed]
      exact .lst (SqL.of upd_same) (.cons (.str _) (.cons (.tup (.inl (.inl (by rw [upd_ne npp, upd_same]))) (.cons (.int _) (.cons (.int _) .nil))) .nil))⟩
    refine ⟨_, rfl, z, rfl, str300 hz, (z.length : Int), rfl, by omega, by omega, for_range (lo := 0) (n := ((z.length : Nat) : Int).toNat) (fun i σ H' => ∃ (b : Nat) (v6 v7 : Option V) (us : List V) (acc : List PyData), σ = [some (.int line), some (.str z), some (.str sLet), some (.str sDig), some (.ref fo), some (.int b), v6, v7] ∧ Same H H' ∧ H' fo = some (.lst us) ∧ DpAll K H' us acc ∧ flatTs acc = true ∧ acc.length ≤ max i b ∧ b ≤ z.length ∧ scanAt z (max i b) acc = scanAt z 0 [])
      ⟨0, none, none, [], [], rfl, same_new (Same.refl H) nfo, upd_same, .nil, rfl, Nat.le_refl _, Nat.zero_le _, rfl⟩ ?_ ?_⟩
    · rintro i σ H' hi ⟨b, v6, v7, us, acc, rfl, sm, hf, ha, hfl, hlen, hb, hsc⟩
      have lt : i < z.length := by omega
      obtain ⟨d, hd⟩ := cps_at lt
      have g : atI z.cps.toList (0 + (i : Int)) = some d := by
        rw [Int.zero_add]
        exact atI_nat hd
      refine ⟨_, rfl, _, rfl, _, _, rfl, rfl, _, rfl, ite2 (fun c => ?_) (fun c => ?_)⟩
      · have lb : i < b := by
          have := of_decide_eq_true c
          omega
        have mx : max i b = max (i + 1) b := by omega
        exact iteT ⟨b, _, _, us, acc, rfl, sm, hf, ha, hfl, by omega, hb, by rw [← mx]; exact hsc⟩
      have bi : b ≤ i := by
        have : ¬ (0 + (i : Int) < (b : Int)) := fun h => c (decide_eq_true h)
        omega
      have mx : max i b = i := by omega
      rw [mx] at hsc hlen
      have bad : stepAt z i = none → outcome z = .inl i := fun e => by
        unfold outcome
        rw [← hsc, scan_bad lt e]
      have lus : us.length < sizeLine := by
        have h1 := dpAll_len ha
        have := sizeLine_eq
        omega
      have next : ∀ (e : Nat) (new : List PyData) (us2 : List V) (v6 v7 : Option V) (H2 : Hp), stepAt z i = some (e, new) → Same H H2 → H2 fo = some (.lst us2) → DpAll K H2 us2 (acc ++ new) → ∃ (b : Nat) (v6' v7' : Option V) (us : List V) (acc : List PyData), [some (.int line), some (.str z), some (.str sLet), some (.str sDig), some (V.ref fo), some (.int e), v6, v7] = [some (.int line), some (.str z), some (.str sLet), some (.str sDig), some (.ref fo), some (.int b), v6', v7'] ∧ Same H H2 ∧ H2 fo = some (.lst us) ∧ DpAll K H2 us acc ∧ flatTs acc = true ∧ acc.length ≤ max (i + 1) b ∧ b ≤ z.length ∧ scanAt z (max (i + 1) b) acc = scanAt z 0 [] := fun e new us2 v6 v7 H2 hs s2 f2 a2 => by
        have le := step_le hs
        have fl := step_flat hs
        have mx2 : max (i + 1) e = e := by omega
        refine ⟨e, _, _, us2, acc ++ new, rfl, s2, f2, a2, by rw [flatTs_app, hfl, fl.1]; rfl, by rw [List.length_append]; omega, le.2, ?_⟩
        rw [mx2, ← scan_step lt hs]
        exact hsc
      refine ⟨_, rfl, _, rfl, z, _, d, rfl, rfl, str300 hz, g, rfl, _, rfl, ite2 (fun c0 => ?_) (fun c0 => ?_)⟩
      · have e32 : d = 32 := sign_eq (k := 32) (u := " ") (by decide +kernel) c0
        have s1 : stepAt z i = some (i + 1, []) := by
          unfold stepAt
          rw [hd, e32]
          exact (if_neg (by decide +kernel)).trans ((if_neg (by decide +kernel)).trans ((if_neg (by decide +kernel)).trans (if_pos rfl)))
        have mx1 : max (i + 1) b = i + 1 := by omega
        refine ⟨b, _, _, us, acc, rfl, sm, hf, ha, hfl, by omega, hb, ?_⟩
        rw [mx1]
        have h2 := scan_step (acc := acc) lt s1
        rw [List.append_nil] at h2
        rw [← h2]
        exact hsc
      have d32 : d ≠ 32 := sign_ne (k := 32) (u := " ") (by decide +kernel) c0
      refine ⟨_, rfl, _, rfl, z, _, d, rfl, rfl, str300 hz, g, _, rfl, _, _, rfl, rfl, ?_⟩
      have ii : (0 + (i : Int)) = (i : Int) := Int.zero_add _
      rw [ii]
      refine ⟨_, rfl, _, rfl, d, _, rfl, rfl, _, rfl, ite2 (fun c1 => ?_) (fun c1 => ?_)⟩
      · have s1 : stepAt z i = some (runE z.cps.toList sLet i, [.tuple [.str (cutN z i (runE z.cps.toList sLet i)), .int i]]) := by
          unfold stepAt
          rw [hd]
          exact if_pos c1
        refine ⟨_, rfl, _, rfl, _, rfl, z, _, i, rfl, by omega, hz, ?_⟩
        refine ⟨_, rfl, .inl ⟨rfl, _, SqL.of hf⟩, _, rfl, _, rfl, _, rfl, _, rfl, _, rfl, z, rfl, str300 hz, _, rfl, (by show 2 ≤ sizeLine; decide), fun pt npt => ?_⟩
        obtain ⟨g1, g2, g3⟩ := grow_tok (K := K) (i := (i : Int)) sm nfo hf ha hfl npt (fun _ => .str (cutN z i (runE z.cps.toList sLet i)))
        exact ⟨fo, us, _, rfl, rfl, g1, lus, next _ _ _ _ _ _ s1 g2 upd_same g3⟩
      refine ⟨_, rfl, _, rfl, d, _, rfl, rfl, _, rfl, ite2 (fun c2 => ?_) (fun c2 => ?_)⟩
      · refine ⟨_, rfl, _, rfl, _, rfl, z, _, i, rfl, by omega, hz, ?_⟩
        have r2 := runE_le (l := z.cps.toList) (k := sDig) (i := i) (by rw [cps_len]; omega)
        rw [cps_len] at r2
        have r3 : i < runE z.cps.toList sDig i := by
          rw [runE_in (k := sDig) hd c2]
          exact Nat.lt_of_lt_of_le (Nat.lt_succ_self i) runE_ge
        have cl := cutN_len (Nat.le_of_lt r3) r2
        have s0 : stepAt z i = (if d = 48 ∨ runE z.cps.toList sDig i - i > 2 ∨ numOf (cutN z i (runE z.cps.toList sDig i)) > 40 then none else some (runE z.cps.toList sDig i, [.tuple [.int (numOf (cutN z i (runE z.cps.toList sDig i))), .int i]])) := by
          unfold stepAt
          rw [hd]
          exact (if_neg c1).trans (if_pos c2)
        have un : (d = 48 ∨ runE z.cps.toList sDig i - i > 2 ∨ numOf (cutN z i (runE z.cps.toList sDig i)) > 40) → outcome z = .inl i := fun h => bad (s0.trans (if_pos h))
        refine ⟨_, rfl, rfl, _, rfl, ite2 (fun c3 => ?_) (fun c3 => ?_)⟩
        · refine iteT ⟨_, rfl, _, rfl, (by show 2 ≤ sizeLine; decide), fun pt npt => ?_⟩
          exact badEnd i _ sm (un (.inl (sign_eq (k := 48) (by decide +kernel) c3))) pt npt
        refine ⟨_, rfl, _, rfl, _, _, rfl, rfl, _, _, rfl, rfl, _, rfl, ite2 (fun c4 => ?_) (fun c4 => ?_)⟩
        · refine iteT ⟨_, rfl, _, rfl, (by show 2 ≤ sizeLine; decide), fun pt npt => ?_⟩
          exact badEnd i _ sm (un (.inr (.inl (by have := of_decide_eq_true c4; omega)))) pt npt
        have l2 : ¬ runE z.cps.toList sDig i - i > 2 := fun h => c4 (decide_eq_true (by omega))
        have hn := cut_num lt ⟨d, hd, c2⟩ l2
        refine ⟨_, rfl, _, rfl, _, rfl, _, rfl, _, rfl, z, rfl, str300 hz, cutN z i (runE z.cps.toList sDig i), _, rfl, hn, by omega, _, _, rfl, rfl, _, rfl, ite2 (fun c5 => ?_) (fun c5 => ?_)⟩
        · refine ⟨_, rfl, _, rfl, (by show 2 ≤ sizeLine; decide), fun pt npt => ?_⟩
          exact badEnd i _ sm (un (.inr (.inr (of_decide_eq_true c5)))) pt npt
        have s1 : stepAt z i = some (runE z.cps.toList sDig i, [.tuple [.int (numOf (cutN z i (runE z.cps.toList sDig i))), .int i]]) := by
          refine s0.trans (if_neg ?_)
          rintro (h | h | h)
          · exact sign_ne (k := 48) (by decide +kernel) c3 h
          · exact l2 h
          · exact c5 (decide_eq_true h)
        refine ⟨_, rfl, .inl ⟨rfl, _, SqL.of hf⟩, _, rfl, _, rfl, _, rfl, _, rfl, _, rfl, z, rfl, str300 hz, cutN z i (runE z.cps.toList sDig i), _, rfl, hn, by omega, _, rfl, (by show 2 ≤ sizeLine; decide), fun pt npt => ?_⟩
        obtain ⟨g1, g2, g3⟩ := grow_tok (K := K) (i := (i : Int)) sm nfo hf ha hfl npt (fun _ => .int (numOf (cutN z i (runE z.cps.toList sDig i))))
        exact ⟨fo, us, _, rfl, rfl, g1, lus, next _ _ _ _ _ _ s1 g2 upd_same g3⟩
      refine ⟨_, rfl, d, _, rfl, rfl, _, rfl, ite2 (fun c3 => ?_) (fun c3 => ?_)⟩
      · have s1 : stepAt z i = some (i + 1, [.tuple [.str ⟨#[d]⟩, .int i]]) := by
          unfold stepAt
          rw [hd]
          exact (if_neg c1).trans ((if_neg c2).trans (if_pos c3))
        refine ⟨_, rfl, .inl ⟨rfl, _, SqL.of hf⟩, _, rfl, _, rfl, (by show 2 ≤ sizeLine; decide), fun pt npt => ?_⟩
        obtain ⟨g1, g2, g3⟩ := grow_tok (K := K) (i := (i : Int)) sm nfo hf ha hfl npt (fun _ => .str ⟨#[d]⟩)
        exact ⟨fo, us, _, rfl, rfl, g1, lus, next _ _ _ _ _ _ s1 g2 upd_same g3⟩
      · have s0 : stepAt z i = none := by
          unfold stepAt
          rw [hd]
          exact (if_neg c1).trans ((if_neg c2).trans ((if_neg c3).trans (if_neg d32)))
        refine ⟨_, rfl, _, rfl, (by show 2 ≤ sizeLine; decide), fun pt npt => ?_⟩
        exact badEnd i _ sm (bad s0) pt npt
    · rintro σ H' ⟨b, v6, v7, us, acc, rfl, sm, hf, ha, hfl, hlen, hb, hsc⟩
      have mx : max ((z.length : Nat) : Int).toNat b = z.length := by omega
      rw [mx] at hsc
      have fin : scanAt z 0 [] = .inr acc := by rw [← hsc, scan_end (Nat.le_refl _)]
      refine ⟨_, rfl, fo, us, rfl, .inl (SqL.of hf), rfl, _, rfl, ite2 (fun c => ?_) (fun c => ?_)⟩
      · have e1 : us = [] := List.length_eq_zero_iff.mp (by
          have z := V.int.inj (of_decide_eq_true c)
          omega)
        subst e1
        cases ha
        refine ⟨_, rfl, (by show 2 ≤ sizeLine; decide), fun pt npt => ?_⟩
        exact badEnd 0 _ sm (by unfold outcome; rw [fin]) pt npt
      · have ne : us ≠ [] := fun z => by
          subst z
          exact c (decide_eq_true rfl)
        have e : outcome z = .inr acc := by
          unfold outcome
          rw [fin]
          cases ha with
          | nil => exact absurd rfl ne
          | cons _ _ => rfl
        refine ⟨_, rfl, fo, us, rfl, .inl ⟨SqL.of hf, fun pt npt => ⟨(by show 2 ≤ sizeLine; decide), fun pl npl => ?_⟩⟩⟩
        have npp : pt ≠ pl := fun z => by rw [← z, upd_same] at npl; cases npl
        have ed : due line z = .list [.str "", .tuple acc] := by
          unfold due
          rw [e]
        refine q pl _ (same_new (same_new sm npt) npl) ?_
        rw [ed]
        exact .lst (SqL.of upd_same) (.cons (.str _) (.cons (.tup (.inl (.inl (by rw [upd_ne npp, upd_same]))) (dpAll_same (same_new (same_new (Same.refl _) npt) npl) ha)) .nil))
end
/-! ### the law's big numbers (common) -/
def spBig : Sp := fun vs H Q _ => ∃ a ce : Addr, vs = [.ref a] ∧ St7 H a ce ∧ ∀ (n : Int) (H' : Hp), Kp a H H' → St7 H' a ce → Q (.int n) H'
section
variable {P : Program} {w : World} {K : PySem.W.Frag} {mg : Str → Option Value} {base : Heap}
theorem St7.new {H : Hp} {a ce p : Addr} {o : HO} (np : H p = none) (h : St7 H a ce) : St7 (upd H p o) a ce := h.same (fun b u e => by rw [upd_ne (ne_of_none e np)]; exact e)
theorem Kp.new {H H' : Hp} {a p : Addr} {o : HO} (np : H' p = none) (k : Kp a H H') : Kp a H (upd H' p o) := fun b u e n => by
  rw [upd_ne (ne_of_none (k b u e n) np)]
  exact k b u e n
theorem Kp.free {H H' : Hp} {a p : Addr} (k : Kp a H H') (np : H' p = none) (n : p ≠ a) : H p = none := by
  cases h : H p with
  | none => rfl
  | some o =>
    rw [k p o h n] at np
    cases np
theorem Kp.put_ne {a p : Addr} {H H' : Hp} {o : HO} (k : Kp a H H') (np : H p = none) : Kp a H (upd H' p o) := fun b u e n => by
  rw [upd_ne (ne_of_none e np)]
  exact k b u e n
theorem St7.put_ne {a ce p : Addr} {H : Hp} {o : HO} (h : St7 H a ce) (n : p ≠ a) (nc : p ≠ ce) : St7 (upd H p o) a ce := by
  obtain ⟨cs, pos, cur, left, beat, seed, mode, h1, h2, h3, h4⟩ := h
  exact ⟨cs, pos, cur, left, beat, seed, mode, by rw [upd_ne (Ne.symm n)]; exact h1, by rw [upd_ne (Ne.symm nc)]; exact h2, h3, h4⟩
/-- a free place is neither the store nor its cells -/
theorem St7.ne {a ce p : Addr} {H : Hp} (h : St7 H a ce) (np : H p = none) : p ≠ a ∧ p ≠ ce := by
  obtain ⟨cs, pos, cur, left, beat, seed, mode, h1, h2, h3, h4⟩ := h
  exact ⟨(ne_of_none h1 np).symm, (ne_of_none h2 np).symm⟩
theorem at2 {x y : V} {n : Int} (h0 : 0 ≤ n) (h1 : n < 2) : ∃ v, atI [x, y] n = some v ∧ (v = x ∨ v = y) := by
  obtain ⟨k, rfl⟩ : ∃ k : Nat, n = k := ⟨n.toNat, by omega⟩
  match k, h1 with
  | 0, _ => exact ⟨x, rfl, .inl rfl⟩
  | 1, _ => exact ⟨y, rfl, .inr rfl⟩
  | k + 2, h => exact absurd h (by omega)
/-- the place n of a list is one of its values -/
theorem at_of {xs : List V} {n : Int} (h0 : 0 ≤ n) (h1 : n < xs.length) : ∃ v, atI xs n = some v ∧ v ∈ xs := by
  obtain ⟨k, rfl⟩ : ∃ k : Nat, n = k := ⟨n.toNat, by omega⟩
  have lt : k < xs.length := by omega
  exact ⟨xs[k], atI_nat (List.getElem?_eq_getElem lt), List.getElem_mem lt⟩
abbrev N_law_big : List Str := ["store", "kind", "number", "k"]
theorem sc_law_big : FnScope N_law_big ["store"] (defScope s_law_big) := ⟨rfl, rfl, rfl, by decide +kernel, rfl, by decide +kernel, by decide +kernel⟩
theorem bi_law_big {K : PySem.W.Frag} {mg : Str → Option Value} {f : Addr} {fd : FuncData} (D : Dd K mg "_law_big" s_law_big f fd) : Binds K fd ["store"] [] := D.fn.bindsN fun _ _ _ _ _ _ us hl => match us, hl with | [_], _ => rfl
theorem ok_law_big (T : Tx K mg) : OkF P w K mg base CX0 3 "_law_big" ["store"] spBig := by
  obtain ⟨fd, D⟩ := dd_law_big T
  refine okF0 D sc_law_big (bi_law_big D) (fun vs H Q E h => ?_) (fun cdv A outer s H vs Q E hr h => ?_)
  · obtain ⟨a, ce, rfl, _⟩ := h
    rfl
  · obtain ⟨a, ce, rfl, st, q⟩ := h
    refine ⟨_, (pss_cons (ps_set (i := 1) sc_law_big.nd rfl (Or.inl rfl) (pe_callO (ok_law_take T) (hr.mono (by decide)) pass0 (pa_cons (pv 0) (pa_cons pe_int pa_nil))))
      (pss_cons (ps_if (pt_cmpR op_eq (pv 1) pe_int (nomark _))
      (pss_one (ps_ret (pe_op op_sub (pe_callO (ok_law_take T) (hr.mono (by decide)) pass0 (pa_cons (pv 0) (pa_cons pe_int pa_nil))) pe_int)))
      pss_nil)
      (pss_cons (ps_if (pt_cmpR op_eq (pv 1) pe_int (nomark _))
      (pss_one (ps_ret (pe_ix ix_list (pe_lst (pa_cons (pe_op op_sub (pe_op op_powW pe_int pe_int) pe_int) (pa_cons (pe_op op_sub pe_int (pe_op op_powW pe_int pe_int)) (pa_cons (pe_op op_powW pe_int pe_int) (pa_cons (pe_op op_powW pe_int pe_int) pa_nil))))) (pe_callO (ok_law_take T) (hr.mono (by decide)) pass0 (pa_cons (pv 0) (pa_cons pe_int pa_nil))) (fun _ _ => rfl))))
      pss_nil)
      (pss_cons (ps_if (pt_cmpR op_eq (pv 1) pe_int (nomark _))
      (pss_one (ps_ret (pe_op op_sub (pe_callO (ok_law_take T) (hr.mono (by decide)) pass0 (pa_cons (pv 0) (pa_cons pe_int pa_nil))) pe_int)))
      pss_nil)
      (pss_cons (ps_set (i := 2) sc_law_big.nd rfl (Or.inl rfl) pe_int)
      (pss_cons (ps_for PassesOwn.never rfl (pi_range1 rfl (m_range T) (pa_cons (pe_op op_add pe_int (pe_callO (ok_law_take T) (hr.mono (by decide)) pass0 (pa_cons (pv 0) (pa_cons pe_int pa_nil)))) pa_nil)) (pg_name (i := 3) sc_law_big.nd rfl (Or.inl rfl))
      (pss_one (ps_set (i := 2) sc_law_big.nd rfl (Or.inl rfl) (pe_op op_add (pe_op op_mul (pv 2) (pe_op op_powW pe_int pe_int)) (pe_callO (ok_law_take T) (hr.mono (by decide)) pass0 (pa_cons (pv 0) (pa_cons (pe_op op_powW pe_int pe_int) pa_nil)))))))
      (pss_one (ps_ret (pe_ix ix_list (pe_lst (pa_cons (pv 2) (pa_cons (pe_op op_sub pe_int (pv 2)) pa_nil))) (pe_callO (ok_law_take T) (hr.mono (by decide)) pass0 (pa_cons (pv 0) (pa_cons pe_int pa_nil))) (fun _ _ => rfl)))))))))), ?_⟩
    refine ⟨_, rfl, a, 9, ce, rfl, by decide, st, fun n H1 _ _ _ kp st1 => ?_⟩
    refine ⟨_, rfl, rfl, _, rfl, ite2 (fun c => ?_) (fun c => ?_)⟩
    · exact ⟨_, rfl, a, 5, ce, rfl, by decide, st1, fun n2 H2 _ _ _ kp2 st2 => ⟨_, _, rfl, rfl, q _ _ (kp.trans kp2) st2⟩⟩
    refine ⟨_, rfl, rfl, _, rfl, ite2 (fun c => ?_) (fun c => ?_)⟩
    · refine ⟨_, _, rfl, rfl, pow_ok (by decide +kernel), _, _, rfl, rfl, _, _, rfl, rfl, pow_ok (by decide +kernel), _, _, rfl, rfl, _, _, rfl, rfl, pow_ok (by decide +kernel), _, _, rfl, rfl, pow_ok (by decide +kernel), (by show 4 ≤ sizeLine; decide), fun p np => ?_⟩
      have s2 := St7.new (o := .lst [.int (10 ^ Int.toNat 60 - 1), .int (1 - 10 ^ Int.toNat 60), .int (10 ^ Int.toNat 59), .int (2 ^ Int.toNat 63)]) np st1
      have nap : p ≠ a := fun z => by
        obtain ⟨xs, e⟩ := st1.there
        rw [z, e] at np
        cases np
      refine ⟨_, rfl, a, 4, ce, rfl, by decide, s2, fun n2 H2 h0 h1 _ kp2 st2 => ?_⟩
      obtain ⟨v, g, m⟩ := at_of (xs := [.int (10 ^ Int.toNat 60 - 1), .int (1 - 10 ^ Int.toNat 60), .int (10 ^ Int.toNat 59), .int (2 ^ Int.toNat 63)]) h0 (h1 (by decide))
      have : ∃ i : Int, v = .int i := by
        simp only [List.mem_cons, List.not_mem_nil, or_false] at m
        rcases m with m | m | m | m <;> exact ⟨_, m⟩
      obtain ⟨i, rfl⟩ := this
      exact ⟨_, _, _, _, rfl, rfl, SqL.of (kp2 _ _ upd_same nap), g, q _ _ ((kp.new np).trans kp2) st2⟩
    refine ⟨_, rfl, rfl, _, rfl, ite2 (fun c => ?_) (fun c => ?_)⟩
    · exact ⟨_, rfl, a, 200, ce, rfl, by decide, st1, fun n2 H2 _ _ _ kp2 st2 => ⟨_, _, rfl, rfl, q _ _ (kp.trans kp2) st2⟩⟩
    refine ⟨_, rfl, a, 6, ce, rfl, by decide, st1, fun n2 H2 h0 h1 _ kp2 st2 => ?_⟩
    have h1 := h1 (by decide)
    refine ⟨_, _, rfl, rfl, (1 + n2 : Int), rfl, by omega, by omega, for_range (lo := 0) (n := (1 + n2).toNat) (fun i σ H' => ∃ (v : Option V) (num : Int) (v3 : Option V), σ = [some (.ref a), v, some (.int num), v3] ∧ Kp a H H' ∧ St7 H' a ce)
      ⟨_, _, _, rfl, kp.trans kp2, st2⟩ ?_ ?_⟩
    · rintro i σ H' hi ⟨v, num, v3, rfl, kp3, st3⟩
      refine ⟨_, rfl, _, _, rfl, rfl, pow_ok (by decide +kernel), _, _, rfl, rfl, .inr (by decide +kernel), _, rfl, _, _, rfl, rfl, pow_ok (by decide +kernel), a, _, ce, rfl, by decide +kernel, st3, fun n4 H4 _ _ _ kp4 st4 => ?_⟩
      exact ⟨_, _, rfl, rfl, _, _, _, rfl, kp3.trans kp4, st4⟩
    · rintro σ H' ⟨v, num, v3, rfl, kp3, st3⟩
      refine ⟨_, rfl, _, rfl, _, _, rfl, rfl, (by show 2 ≤ sizeLine; decide), fun p np => ?_⟩
      have nap : p ≠ a := fun z => by
        obtain ⟨xs, e⟩ := st3.there
        rw [z, e] at np
        cases np
      refine ⟨_, rfl, a, 2, ce, rfl, by decide, st3.new np, fun n5 H5 h0 h1 _ kp5 st5 => ?_⟩
      obtain ⟨v, g, m⟩ := at2 (x := .int num) (y := .int (0 - num)) h0 (h1 (by decide))
      have : ∃ i : Int, v = .int i := by rcases m with m | m <;> exact ⟨_, m⟩
      obtain ⟨i, rfl⟩ := this
      exact ⟨_, _, _, _, rfl, rfl, SqL.of (kp5 _ _ upd_same nap), g, q _ _ ((kp3.new np).trans kp5) st5⟩
end
/-! ### K24: the pieces of a line -/
open M24
theorem join_len : ∀ (sep : Str) (ys : List Str) (B : Nat), (∀ y ∈ ys, y.length ≤ B) → sep.length = 0 → (Txt.join sep ys).length ≤ ys.length * B := fun sep ys B h hs => by
  rw [TL.join_eq]
  induction ys with
  | nil => exact Nat.zero_le _
  | cons y r ih =>
    have hy := h y List.mem_cons_self
    cases r with
    | nil =>
      show y.length ≤ 1 * B
      omega
    | cons z r =>
      show (y ++ sep ++ Str.join sep (z :: r)).length ≤ (r.length + 1 + 1) * B
      have ih := ih fun u hu => h u (List.mem_cons_of_mem _ hu)
      rw [PySem.Str.length_append, PySem.Str.length_append, hs]
      rw [List.length_cons] at ih
      have e : (r.length + 1 + 1) * B = (r.length + 1) * B + B := Nat.succ_mul _ _
      omega
theorem sum_len (ys : List Str) (B : Nat) (h : ∀ y ∈ ys, y.length ≤ B) : (ys.map (·.length)).sum ≤ ys.length * B := by
  induction ys with
  | nil => exact Nat.zero_le _
  | cons y r ih =>
    have hy := h y List.mem_cons_self
    have ih := ih fun u hu => h u (List.mem_cons_of_mem _ hu)
    show y.length + (r.map (·.length)).sum ≤ (r.length + 1) * B
    have e : (r.length + 1) * B = r.length * B + B := Nat.succ_mul _ _
    omega
theorem at_some {α : Type} {xs : List α} {n : Int} (h0 : 0 ≤ n) (h1 : n < xs.length) : ∃ v, atI xs n = some v := by
  obtain ⟨k, rfl⟩ : ∃ k : Nat, n = k := ⟨n.toNat, by omega⟩
  exact ⟨xs[k], atI_nat (List.getElem?_eq_getElem (by omega))⟩
def strsB (B : Nat) : List V → Bool
  | [] => true
  | .str z :: r => decide (z.length ≤ B) && strsB B r
  | _ => false
theorem strs_ok {B : Nat} : ∀ {xs : List V} {v : V}, strsB B xs = true → v ∈ xs → ∃ z, v = .str z ∧ z.length ≤ B
  | .str z :: r, v, h, m => by
    obtain ⟨h1, h2⟩ := Bool.and_eq_true_iff.mp (show (decide (z.length ≤ B) && strsB B r) = true from h)
    rcases List.mem_cons.mp m with e | e
    · exact ⟨z, e, of_decide_eq_true h1⟩
    · exact strs_ok h2 e
theorem num_short : ∀ k : Fin 42, (k.val : Int).natAbs.log2 < 1920 ∧ (Str.ofString (toString (k.val : Int))).length ≤ 2 := by decide +kernel
theorem num_short2 {n : Int} (h0 : 0 ≤ n) (h1 : n ≤ 41) : n.natAbs.log2 < 1920 ∧ (Str.ofString (toString n)).length ≤ 2 := by
  obtain ⟨k, rfl⟩ : ∃ k : Nat, n = k := ⟨n.toNat, by omega⟩
  exact num_short ⟨k, by omega⟩
def spPiece : Sp := fun vs H Q _ => ∃ (a : Addr) (good : Bool) (ce : Addr), vs = [.ref a, .bl good] ∧ St7 H a ce ∧ ∀ (z : Str) (H' : Hp), z.length ≤ 4400 → (good = true → z.length ≤ 14) → Kp a H H' → St7 H' a ce → Q (.str z) H'
section
variable {P : Program} {w : World} {K : PySem.W.Frag} {mg : Str → Option Value} {base : Heap}
abbrev N_law_piece : List Str := ["store", "good", "letters", "kind", "n"]
theorem sc_law_piece : FnScope N_law_piece ["store", "good"] (defScope s_law_piece) := ⟨rfl, rfl, rfl, by decide +kernel, rfl, by decide +kernel, by decide +kernel⟩
theorem bi_law_piece {K : PySem.W.Frag} {mg : Str → Option Value} {f : Addr} {fd : FuncData} (D : Dd K mg "_law_piece" s_law_piece f fd) : Binds K fd ["store", "good"] [] := D.fn.bindsN fun _ _ _ _ _ _ us hl => match us, hl with | [_, _], _ => rfl
theorem ok_law_piece (T : Tx K mg) : OkF P w K mg base CX0 3 "_law_piece" ["store", "good"] spPiece := by
  obtain ⟨fd, D⟩ := dd_law_piece T
  refine okF0 D sc_law_piece (bi_law_piece D) (fun vs H Q E h => ?_) (fun cdv A outer s H vs Q E hr h => ?_)
  · obtain ⟨a, good, ce, rfl, _⟩ := h
    rfl
  · obtain ⟨a, good, ce, rfl, st, q⟩ := h
    refine ⟨_, (pss_cons (ps_set (i := 2) sc_law_piece.nd rfl (Or.inr rfl) pe_str)
      (pss_cons (ps_set (i := 3) sc_law_piece.nd rfl (Or.inl rfl) (pe_callO (ok_law_take T) (hr.mono (by decide)) pass0 (pa_cons (pv 0) (pa_cons (pe_ifExp (pt_val (pv 1)) pe_int pe_int) pa_nil))))
      (pss_cons (ps_if (pt_cmpR op_lt (pv 3) pe_int (nomark _))
      (pss_one (ps_ret (pe_join pe_str (pe_lc (own := [("n", 4)]) (g := gName 4) (tt := tYes) rfl sc_law_piece.nd (pi_range1 rfl (m_range T) (pa_cons (pe_op op_add pe_int (pe_callO (ok_law_take T) (hr.mono (by decide)) pass0 (pa_cons (pv 0) (pa_cons (pe_ix ix_list (pe_lst (pa_cons pe_int (pa_cons pe_int pa_nil))) (pv 3) (fun _ _ => rfl)) pa_nil)))) pa_nil)) (blkOk_by (own := [("n", 4)]) (N := N_law_piece) (sc := defScope s_law_piece) (by decide +kernel)) (fun _ _ _ _ _ => pg_name (i := 4) sc_law_piece.nd rfl (Or.inl rfl)) (fun _ _ _ _ _ => pts_nil) (fun _ _ _ _ _ => (pe_ix ix_str (pv 2) (pe_callO (ok_law_take T) (hr.mono (by decide)) pass0 (pa_cons (pv 0) (pa_cons pe_int pa_nil))) (fun _ _ => rfl)))))))
      pss_nil)
      (pss_cons (ps_if (pt_cmpR op_eq (pv 3) pe_int (nomark _))
      (pss_one (ps_ret (pe_ix ix_list (pe_lst (pa_cons pe_str (pa_cons pe_str (pa_cons pe_str (pa_cons pe_str (pa_cons pe_str (pa_cons pe_str (pa_cons pe_str (pa_cons pe_str pa_nil))))))))) (pe_callO (ok_law_take T) (hr.mono (by decide)) pass0 (pa_cons (pv 0) (pa_cons pe_int pa_nil))) (fun _ _ => rfl))))
      pss_nil)
      (pss_cons (ps_if (pt_cmpR op_eq (pv 3) pe_int (nomark _))
      (pss_one (ps_ret (pe_op op_add_str (pe_callTy call_str_int (by rfl) (m_str T) (by decide +kernel) (pa_cons (pe_op op_add pe_int (pe_callO (ok_law_take T) (hr.mono (by decide)) pass0 (pa_cons (pv 0) (pa_cons pe_int pa_nil)))) pa_nil)) (pe_ix ix_list (pe_lst (pa_cons pe_str (pa_cons pe_str (pa_cons pe_str (pa_cons pe_str pa_nil))))) (pe_callO (ok_law_take T) (hr.mono (by decide)) pass0 (pa_cons (pv 0) (pa_cons pe_int pa_nil))) (fun _ _ => rfl)))))
      pss_nil)
      (pss_cons (ps_if (pt_cmpR op_lt (pv 3) pe_int (nomark _))
      (pss_one (ps_ret (pe_ix ix_str pe_str (pe_callO (ok_law_take T) (hr.mono (by decide)) pass0 (pa_cons (pv 0) (pa_cons pe_int pa_nil))) (fun _ _ => rfl))))
      pss_nil)
      (pss_cons (ps_if (pt_cmpR op_lt (pv 3) pe_int (nomark _))
      (pss_one (ps_ret (pe_op op_mulS pe_str (pe_op op_add pe_int (pe_callO (ok_law_take T) (hr.mono (by decide)) pass0 (pa_cons (pv 0) (pa_cons pe_int pa_nil)))))))
      pss_nil)
      (pss_cons (ps_if (pt_cmpR op_eq (pv 3) pe_int (nomark _))
      (pss_cons (ps_if (pt_cmpR op_eq (pe_callO (ok_law_take T) (hr.mono (by decide)) pass0 (pa_cons (pv 0) (pa_cons pe_int pa_nil))) pe_int (nomark _))
      (pss_one (ps_ret (pe_op op_mulS (pe_ix ix_str pe_str (pe_callO (ok_law_take T) (hr.mono (by decide)) pass0 (pa_cons (pv 0) (pa_cons pe_int pa_nil))) (fun _ _ => rfl)) (pe_op op_add pe_int (pe_callO (ok_law_take T) (hr.mono (by decide)) pass0 (pa_cons (pv 0) (pa_cons pe_int pa_nil)))))))
      pss_nil)
      (pss_one (ps_ret (pe_join pe_str (pe_lc (own := [("n", 4)]) (g := gName 4) (tt := tYes) rfl sc_law_piece.nd (pi_range1 rfl (m_range T) (pa_cons (pe_op op_add pe_int (pe_callO (ok_law_take T) (hr.mono (by decide)) pass0 (pa_cons (pv 0) (pa_cons pe_int pa_nil)))) pa_nil)) (blkOk_by (own := [("n", 4)]) (N := N_law_piece) (sc := defScope s_law_piece) (by decide +kernel)) (fun _ _ _ _ _ => pg_name (i := 4) sc_law_piece.nd rfl (Or.inl rfl)) (fun _ _ _ _ _ => pts_nil) (fun _ _ _ _ _ => (pe_callTy call_str_int (by rfl) (m_str T) (by decide +kernel) (pa_cons (pe_callO (ok_law_take T) (hr.mono (by decide)) pass0 (pa_cons (pv 0) (pa_cons pe_int pa_nil))) pa_nil))))))))
      pss_nil)
      (pss_cons (ps_if (pt_cmpR op_eq (pv 3) pe_int (nomark _))
      (pss_one (ps_ret (pe_ix ix_list (pe_lst (pa_cons pe_str (pa_cons pe_str (pa_cons pe_str (pa_cons pe_str (pa_cons pe_str (pa_cons pe_str (pa_cons pe_str (pa_cons pe_str (pa_cons pe_str (pa_cons pe_str (pa_cons pe_str (pa_cons pe_str pa_nil))))))))))))) (pe_callO (ok_law_take T) (hr.mono (by decide)) pass0 (pa_cons (pv 0) (pa_cons pe_int pa_nil))) (fun _ _ => rfl))))
      pss_nil)
      (pss_one (ps_ret (pe_ix ix_str pe_str (pe_callO (ok_law_take T) (hr.mono (by decide)) pass0 (pa_cons (pv 0) (pa_cons pe_int pa_nil))) (fun _ _ => rfl))))))))))))), ?_⟩
    have ne_st : ∀ {H' : Hp} {p : Addr}, St7 H' a ce → H' p = none → p ≠ a := fun st np z => by
      obtain ⟨xs, e⟩ := st.there
      rw [z, e] at np
      cases np
    cases hg : good
    · refine ⟨_, rfl, _, rfl, false, rfl, iteF ⟨a, 11, ce, rfl, by decide, st, fun n H1 h0 h1 _ kp st1 => ?_⟩⟩
      have hn : n < 11 := h1 (by decide)
      have hgd : good = true → n < 8 := fun z => by rw [hg] at z; cases z
      refine ⟨_, rfl, _, _, rfl, rfl, _, rfl, ite2 (fun c => ?_) (fun c => ?_)⟩
      · have n2 : n < 2 := of_decide_eq_true c
        obtain ⟨v, g, m⟩ := at2 (x := .int 3) (y := .int 14) h0 n2
        obtain ⟨mm, rfl, hm⟩ : ∃ m : Int, v = .int m ∧ m ≤ 14 ∧ 2 ≤ m := by rcases m with e | e <;> exact ⟨_, e, by decide, by decide⟩
        refine ⟨⟨_, rfl⟩, _, rfl, (by show 2 ≤ sizeLine; decide), fun p np => ⟨_, rfl, _, _, _, _, rfl, rfl, SqL.of upd_same, g, a, mm, ce, rfl, by omega, st1.new np, fun k H2 k0 k1 _ kp2 st2 => ⟨_, _, rfl, rfl, 1 + k, rfl, by omega, by have := k1 hm.2; omega, fun D nD => ?_⟩⟩⟩
        have k1 := k1 hm.2
        obtain ⟨nDa, nDc⟩ := st2.ne nD
        have nDH : H D = none := ((kp.new np).trans kp2).free nD nDa
        refine lc_range (lo := 0) (n := (1 + k).toNat) (fun i H' => ∃ ys : List Str, H' D = some (.lst (ys.map V.str)) ∧ ys.length = i ∧ (∀ y ∈ ys, y.length ≤ 1) ∧ Kp a H H' ∧ St7 H' a ce)
          ⟨[], upd_same, rfl, (fun _ h => by cases h), ((kp.new np).trans kp2).new nD, st2.new nD⟩ ?_ ?_
        · rintro i H' hi ⟨ys, hD, hl, hy, kp3, st3⟩
          refine ⟨rfl, ?_⟩
          unfold tYes
          refine iteT ⟨_, rfl, _, rfl, a, 26, ce, rfl, by decide, st3, fun j H4 j0 j1 _ kp4 st4 => ?_⟩
          obtain ⟨ch, gc⟩ := at_some (xs := ("abcdefghijklmnopqrstuvwxyz" : Str).cps.toList) j0 (by have := j1 (by decide); exact Int.lt_of_lt_of_le this (by decide +kernel))
          refine ⟨_, _, ch, rfl, rfl, by decide +kernel, gc, _, kp4 _ _ hD nDa, by rw [List.length_map, hl]; have := sizeLine_eq; omega, ys ++ [⟨#[ch]⟩], by rw [upd_same, List.map_append]; rfl, by rw [List.length_append, hl]; rfl, ?_, (kp3.trans kp4).put_ne nDH, st4.put_ne nDa nDc⟩
          intro y hy2
          rcases List.mem_append.mp hy2 with h | h
          · exact hy y h
          · rw [List.mem_singleton.mp h]
            exact Nat.le_refl 1
        · rintro H' ⟨ys, hD, hl, hy, kp3, st3⟩
          have jl := join_len "" ys 1 hy rfl
          have sl := sum_len ys 1 hy
          refine ⟨_, _, ys, rfl, rfl, .inl (SqL.of hD), ?_, q _ _ (by omega) (fun _ => by omega) kp3 st3⟩
          have : ("" : Str).length = 0 := rfl
          rw [this]
          omega
      have n2 : 2 ≤ n := by
        have : ¬ n < 2 := fun h => c (decide_eq_true h)
        omega
      refine ⟨_, rfl, rfl, _, rfl, ite2 (fun c2 => ?_) (fun c2 => ?_)⟩
      · refine ⟨(by show 8 ≤ sizeLine; decide), fun p np => ⟨_, rfl, a, 8, ce, rfl, by decide, st1.new np, fun k H2 k0 k1 _ kp2 st2 => ?_⟩⟩
        obtain ⟨v, g, m⟩ := at_of (xs := [.str "try", .str "on", .str "as", .str "times", .str "swap", .str "run", .str "let", .str "exits"]) k0 (k1 (by decide))
        obtain ⟨z, rfl, hz⟩ := strs_ok (B := 5) (by decide +kernel) m
        exact ⟨_, _, _, _, rfl, rfl, SqL.of (kp2 _ _ upd_same (ne_st st1 np)), g, q _ _ (by omega) (fun _ => by omega) ((kp.new np).trans kp2) st2⟩
      refine ⟨_, rfl, rfl, _, rfl, ite2 (fun c3 => ?_) (fun c3 => ?_)⟩
      · refine ⟨_, rfl, a, 40, ce, rfl, by decide, st1, fun k H2 k0 k1 _ kp2 st2 => ?_⟩
        have k1 := k1 (by decide)
        obtain ⟨lg, ls⟩ := num_short2 (n := 1 + k) (by omega) (by omega)
        refine ⟨_, _, rfl, rfl, _, rfl, lg, (by show 4 ≤ sizeLine; decide), fun p np => ⟨_, rfl, a, 4, ce, rfl, by decide, st2.new np, fun j H3 j0 j1 _ kp3 st3 => ?_⟩⟩
        obtain ⟨v, g, m⟩ := at_of (xs := [.str " ", .str "(", .str "a", .str "="]) j0 (j1 (by decide))
        obtain ⟨z, rfl, hz⟩ := strs_ok (B := 1) (by decide +kernel) m
        refine ⟨_, _, _, _, rfl, rfl, SqL.of (kp3 _ _ upd_same (ne_st st2 np)), g, _, _, rfl, rfl, ?_, q _ _ ?_ (fun _ => ?_) ((kp.trans kp2).new np |>.trans kp3) st3⟩
        · have := sizeLine_eq
          omega
        · rw [PySem.Str.length_append]
          omega
        · rw [PySem.Str.length_append]
          omega
      refine ⟨_, rfl, _, _, rfl, rfl, _, rfl, ite2 (fun c4 => ?_) (fun c4 => ?_)⟩
      · refine ⟨_, rfl, a, 6, ce, rfl, by decide, st1, fun k H2 k0 k1 _ kp2 st2 => ?_⟩
        obtain ⟨ch, gc⟩ := at_some (xs := ("()[],=" : Str).cps.toList) k0 (by have := k1 (by decide); exact Int.lt_of_lt_of_le this (by decide +kernel))
        exact ⟨_, _, ch, rfl, rfl, by decide +kernel, gc, q _ _ (show 1 ≤ 4400 by decide) (fun _ => show 1 ≤ 14 by decide) (kp.trans kp2) st2⟩
      refine ⟨_, rfl, _, _, rfl, rfl, _, rfl, ite2 (fun c5 => ?_) (fun c5 => ?_)⟩
      · refine ⟨_, rfl, a, 4, ce, rfl, by decide, st1, fun k H2 k0 k1 _ kp2 st2 => ?_⟩
        have k1 := k1 (by decide)
        have rl := repS_len (Str.ofString " ") (1 + k).toNat
        have l1 : (Str.ofString " ").length = 1 := by decide +kernel
        rw [l1] at rl
        exact ⟨_, _, rfl, rfl, _, _, rfl, rfl, by omega, by omega, by rw [l1]; decide, q _ _ (by omega) (fun _ => by omega) (kp.trans kp2) st2⟩
      have n8 : 8 ≤ n := by
        have : ¬ n < 8 := fun h => c5 (decide_eq_true h)
        omega
      have ng : good = true → False := fun z => by have := hgd z; omega
      refine ⟨_, rfl, rfl, _, rfl, ite2 (fun c6 => ?_) (fun c6 => ?_)⟩
      · refine ⟨_, rfl, a, 12, ce, rfl, by decide, st1, fun k H2 k0 k1 _ kp2 st2 => ⟨rfl, _, rfl, ite2 (fun c7 => ?_) (fun c7 => ?_)⟩⟩
        · refine ⟨_, rfl, a, 10, ce, rfl, by decide, st2, fun j H3 j0 j1 _ kp3 st3 => ?_⟩
          obtain ⟨ch, gc⟩ := at_some (xs := ("0123456789" : Str).cps.toList) j0 (by have := j1 (by decide); exact Int.lt_of_lt_of_le this (by decide +kernel))
          refine ⟨_, _, ch, rfl, rfl, by decide +kernel, gc, _, rfl, a, 111, ce, rfl, by decide, st3, fun l H4 l0 l1 _ kp4 st4 => ?_⟩
          have l1 := l1 (by decide)
          have rl := repS_len ⟨#[ch]⟩ (4290 + l).toNat
          have e1 : (⟨#[ch]⟩ : Str).length = 1 := rfl
          rw [e1] at rl
          exact ⟨_, _, rfl, rfl, _, _, rfl, rfl, by omega, by omega, by rw [e1]; decide, q _ _ (by omega) (fun z => (ng z).elim) (((kp.trans kp2).trans kp3).trans kp4) st4⟩
        · refine ⟨⟨_, rfl⟩, _, rfl, a, 6, ce, rfl, by decide, st2, fun j H3 j0 j1 _ kp3 st3 => ⟨_, _, rfl, rfl, 1 + j, rfl, by omega, by have := j1 (by decide); omega, fun D nD => ?_⟩⟩
          have j1 := j1 (by decide)
          obtain ⟨nDa, nDc⟩ := st3.ne nD
          have nDH : H D = none := ((kp.trans kp2).trans kp3).free nD nDa
          refine lc_range (lo := 0) (n := (1 + j).toNat) (fun i H' => ∃ ys : List Str, H' D = some (.lst (ys.map V.str)) ∧ ys.length = i ∧ (∀ y ∈ ys, y.length ≤ 2) ∧ Kp a H H' ∧ St7 H' a ce)
            ⟨[], upd_same, rfl, (fun _ h => by cases h), ((kp.trans kp2).trans kp3).new nD, st3.new nD⟩ ?_ ?_
          · rintro i H' hi ⟨ys, hD, hl, hy, kp5, st5⟩
            refine ⟨rfl, ?_⟩
            unfold tYes
            refine iteT ⟨_, rfl, a, 10, ce, rfl, by decide, st5, fun x H4 x0 x1 _ kp4 st4 => ?_⟩
            have x1 := x1 (by decide)
            obtain ⟨lg, ls⟩ := num_short2 (n := x) x0 (by omega)
            refine ⟨_, rfl, lg, _, kp4 _ _ hD nDa, by rw [List.length_map, hl]; have := sizeLine_eq; omega, ys ++ [Str.ofString (toString x)], by rw [upd_same, List.map_append]; rfl, by rw [List.length_append, hl]; rfl, ?_, (kp5.trans kp4).put_ne nDH, st4.put_ne nDa nDc⟩
            intro y hy2
            rcases List.mem_append.mp hy2 with h | h
            · exact hy y h
            · rw [List.mem_singleton.mp h]
              exact ls
          · rintro H' ⟨ys, hD, hl, hy, kp5, st5⟩
            have jl := join_len "" ys 2 hy rfl
            have sl := sum_len ys 2 hy
            refine ⟨_, _, ys, rfl, rfl, .inl (SqL.of hD), ?_, q _ _ (by omega) (fun z => (ng z).elim) kp5 st5⟩
            have : ("" : Str).length = 0 := rfl
            rw [this]
            omega
      refine ⟨_, rfl, rfl, _, rfl, ite2 (fun c7 => ?_) (fun c7 => ?_)⟩
      · refine ⟨(by show 12 ≤ sizeLine; decide), fun p np => ⟨_, rfl, a, 12, ce, rfl, by decide, st1.new np, fun k H2 k0 k1 _ kp2 st2 => ?_⟩⟩
        obtain ⟨v, g, m⟩ := at_of (xs := [.str "0", .str "07", .str "41", .str "99", .str "100", .str "400", .str "040", .str "40", .str "1", .str "00", .str "1_0", .str "4O"]) k0 (k1 (by decide))
        obtain ⟨z, rfl, hz⟩ := strs_ok (B := 5) (by decide +kernel) m
        exact ⟨_, _, _, _, rfl, rfl, SqL.of (kp2 _ _ upd_same (ne_st st1 np)), g, q _ _ (by omega) (fun _ => by omega) ((kp.new np).trans kp2) st2⟩
      · refine ⟨_, rfl, a, 51, ce, rfl, by decide, st1, fun k H2 k0 k1 _ kp2 st2 => ?_⟩
        obtain ⟨ch, gc⟩ := at_some (xs := ("!\"#$&'*+-./:;<>?@^_`{|}~ABCDEFGHIJKLMNOPQRSTUVWXYZ\t" : Str).cps.toList) k0 (by have := k1 (by decide); exact Int.lt_of_lt_of_le this (by decide +kernel))
        exact ⟨_, _, ch, rfl, rfl, by decide +kernel, gc, q _ _ (show 1 ≤ 4400 by decide) (fun _ => show 1 ≤ 14 by decide) (kp.trans kp2) st2⟩
    · refine ⟨_, rfl, _, rfl, true, rfl, iteT ⟨a, 8, ce, rfl, by decide, st, fun n H1 h0 h1 _ kp st1 => ?_⟩⟩
      have hn : n < 11 := by have := h1 (by decide); omega
      have hgd : good = true → n < 8 := fun _ => h1 (by decide)
      refine ⟨_, rfl, _, _, rfl, rfl, _, rfl, ite2 (fun c => ?_) (fun c => ?_)⟩
      · have n2 : n < 2 := of_decide_eq_true c
        obtain ⟨v, g, m⟩ := at2 (x := .int 3) (y := .int 14) h0 n2
        obtain ⟨mm, rfl, hm⟩ : ∃ m : Int, v = .int m ∧ m ≤ 14 ∧ 2 ≤ m := by rcases m with e | e <;> exact ⟨_, e, by decide, by decide⟩
        refine ⟨⟨_, rfl⟩, _, rfl, (by show 2 ≤ sizeLine; decide), fun p np => ⟨_, rfl, _, _, _, _, rfl, rfl, SqL.of upd_same, g, a, mm, ce, rfl, by omega, st1.new np, fun k H2 k0 k1 _ kp2 st2 => ⟨_, _, rfl, rfl, 1 + k, rfl, by omega, by have := k1 hm.2; omega, fun D nD => ?_⟩⟩⟩
        have k1 := k1 hm.2
        obtain ⟨nDa, nDc⟩ := st2.ne nD
        have nDH : H D = none := ((kp.new np).trans kp2).free nD nDa
        refine lc_range (lo := 0) (n := (1 + k).toNat) (fun i H' => ∃ ys : List Str, H' D = some (.lst (ys.map V.str)) ∧ ys.length = i ∧ (∀ y ∈ ys, y.length ≤ 1) ∧ Kp a H H' ∧ St7 H' a ce)
          ⟨[], upd_same, rfl, (fun _ h => by cases h), ((kp.new np).trans kp2).new nD, st2.new nD⟩ ?_ ?_
        · rintro i H' hi ⟨ys, hD, hl, hy, kp3, st3⟩
          refine ⟨rfl, ?_⟩
          unfold tYes
          refine iteT ⟨_, rfl, _, rfl, a, 26, ce, rfl, by decide, st3, fun j H4 j0 j1 _ kp4 st4 => ?_⟩
          obtain ⟨ch, gc⟩ := at_some (xs := ("abcdefghijklmnopqrstuvwxyz" : Str).cps.toList) j0 (by have := j1 (by decide); exact Int.lt_of_lt_of_le this (by decide +kernel))
          refine ⟨_, _, ch, rfl, rfl, by decide +kernel, gc, _, kp4 _ _ hD nDa, by rw [List.length_map, hl]; have := sizeLine_eq; omega, ys ++ [⟨#[ch]⟩], by rw [upd_same, List.map_append]; rfl, by rw [List.length_append, hl]; rfl, ?_, (kp3.trans kp4).put_ne nDH, st4.put_ne nDa nDc⟩
          intro y hy2
          rcases List.mem_append.mp hy2 with h | h
          · exact hy y h
          · rw [List.mem_singleton.mp h]
            exact Nat.le_refl 1
        · rintro H' ⟨ys, hD, hl, hy, kp3, st3⟩
          have jl := join_len "" ys 1 hy rfl
          have sl := sum_len ys 1 hy
          refine ⟨_, _, ys, rfl, rfl, .inl (SqL.of hD), ?_, q _ _ (by omega) (fun _ => by omega) kp3 st3⟩
          have : ("" : Str).length = 0 := rfl
          rw [this]
          omega
      have n2 : 2 ≤ n := by
        have : ¬ n < 2 := fun h => c (decide_eq_true h)
        omega
      refine ⟨_, rfl, rfl, _, rfl, ite2 (fun c2 => ?_) (fun c2 => ?_)⟩
      · refine ⟨(by show 8 ≤ sizeLine; decide), fun p np => ⟨_, rfl, a, 8, ce, rfl, by decide, st1.new np, fun k H2 k0 k1 _ kp2 st2 => ?_⟩⟩
        obtain ⟨v, g, m⟩ := at_of (xs := [.str "try", .str "on", .str "as", .str "times", .str "swap", .str "run", .str "let", .str "exits"]) k0 (k1 (by decide))
        obtain ⟨z, rfl, hz⟩ := strs_ok (B := 5) (by decide +kernel) m
        exact ⟨_, _, _, _, rfl, rfl, SqL.of (kp2 _ _ upd_same (ne_st st1 np)), g, q _ _ (by omega) (fun _ => by omega) ((kp.new np).trans kp2) st2⟩
      refine ⟨_, rfl, rfl, _, rfl, ite2 (fun c3 => ?_) (fun c3 => ?_)⟩
      · refine ⟨_, rfl, a, 40, ce, rfl, by decide, st1, fun k H2 k0 k1 _ kp2 st2 => ?_⟩
        have k1 := k1 (by decide)
        obtain ⟨lg, ls⟩ := num_short2 (n := 1 + k) (by omega) (by omega)
        refine ⟨_, _, rfl, rfl, _, rfl, lg, (by show 4 ≤ sizeLine; decide), fun p np => ⟨_, rfl, a, 4, ce, rfl, by decide, st2.new np, fun j H3 j0 j1 _ kp3 st3 => ?_⟩⟩
        obtain ⟨v, g, m⟩ := at_of (xs := [.str " ", .str "(", .str "a", .str "="]) j0 (j1 (by decide))
        obtain ⟨z, rfl, hz⟩ := strs_ok (B := 1) (by decide +kernel) m
        refine ⟨_, _, _, _, rfl, rfl, SqL.of (kp3 _ _ upd_same (ne_st st2 np)), g, _, _, rfl, rfl, ?_, q _ _ ?_ (fun _ => ?_) ((kp.trans kp2).new np |>.trans kp3) st3⟩
        · have := sizeLine_eq
          omega
        · rw [PySem.Str.length_append]
          omega
        · rw [PySem.Str.length_append]
          omega
      refine ⟨_, rfl, _, _, rfl, rfl, _, rfl, ite2 (fun c4 => ?_) (fun c4 => ?_)⟩
      · refine ⟨_, rfl, a, 6, ce, rfl, by decide, st1, fun k H2 k0 k1 _ kp2 st2 => ?_⟩
        obtain ⟨ch, gc⟩ := at_some (xs := ("()[],=" : Str).cps.toList) k0 (by have := k1 (by decide); exact Int.lt_of_lt_of_le this (by decide +kernel))
        exact ⟨_, _, ch, rfl, rfl, by decide +kernel, gc, q _ _ (show 1 ≤ 4400 by decide) (fun _ => show 1 ≤ 14 by decide) (kp.trans kp2) st2⟩
      refine ⟨_, rfl, _, _, rfl, rfl, _, rfl, ite2 (fun c5 => ?_) (fun c5 => ?_)⟩
      · refine ⟨_, rfl, a, 4, ce, rfl, by decide, st1, fun k H2 k0 k1 _ kp2 st2 => ?_⟩
        have k1 := k1 (by decide)
        have rl := repS_len (Str.ofString " ") (1 + k).toNat
        have l1 : (Str.ofString " ").length = 1 := by decide +kernel
        rw [l1] at rl
        exact ⟨_, _, rfl, rfl, _, _, rfl, rfl, by omega, by omega, by rw [l1]; decide, q _ _ (by omega) (fun _ => by omega) (kp.trans kp2) st2⟩
      have n8 : 8 ≤ n := by
        have : ¬ n < 8 := fun h => c5 (decide_eq_true h)
        omega
      have ng : good = true → False := fun z => by have := hgd z; omega
      refine ⟨_, rfl, rfl, _, rfl, ite2 (fun c6 => ?_) (fun c6 => ?_)⟩
      · refine ⟨_, rfl, a, 12, ce, rfl, by decide, st1, fun k H2 k0 k1 _ kp2 st2 => ⟨rfl, _, rfl, ite2 (fun c7 => ?_) (fun c7 => ?_)⟩⟩
        · refine ⟨_, rfl, a, 10, ce, rfl, by decide, st2, fun j H3 j0 j1 _ kp3 st3 => ?_⟩
          obtain ⟨ch, gc⟩ := at_some (xs := ("0123456789" : Str).cps.toList) j0 (by have := j1 (by decide); exact Int.lt_of_lt_of_le this (by decide +kernel))
          refine ⟨_, _, ch, rfl, rfl, by decide +kernel, gc, _, rfl, a, 111, ce, rfl, by decide, st3, fun l H4 l0 l1 _ kp4 st4 => ?_⟩
          have l1 := l1 (by decide)
          have rl := repS_len ⟨#[ch]⟩ (4290 + l).toNat
          have e1 : (⟨#[ch]⟩ : Str).length = 1 := rfl
          rw [e1] at rl
          exact ⟨_, _, rfl, rfl, _, _, rfl, rfl, by omega, by omega, by rw [e1]; decide, q _ _ (by omega) (fun z => (ng z).elim) (((kp.trans kp2).trans kp3).trans kp4) st4⟩
        · refine ⟨⟨_, rfl⟩, _, rfl, a, 6, ce, rfl, by decide, st2, fun j H3 j0 j1 _ kp3 st3 => ⟨_, _, rfl, rfl, 1 + j, rfl, by omega, by have := j1 (by decide); omega, fun D nD => ?_⟩⟩
          have j1 := j1 (by decide)
          obtain ⟨nDa, nDc⟩ := st3.ne nD
          have nDH : H D = none := ((kp.trans kp2).trans kp3).free nD nDa
          refine lc_range (lo := 0) (n := (1 + j).toNat) (fun i H' => ∃ ys : List Str, H' D = some (.lst (ys.map V.str)) ∧ ys.length = i ∧ (∀ y ∈ ys, y.length ≤ 2) ∧ Kp a H H' ∧ St7 H' a ce)
            ⟨[], upd_same, rfl, (fun _ h => by cases h), ((kp.trans kp2).trans kp3).new nD, st3.new nD⟩ ?_ ?_
          · rintro i H' hi ⟨ys, hD, hl, hy, kp5, st5⟩
            refine ⟨rfl, ?_⟩
            unfold tYes
            refine iteT ⟨_, rfl, a, 10, ce, rfl, by decide, st5, fun x H4 x0 x1 _ kp4 st4 => ?_⟩
            have x1 := x1 (by decide)
            obtain ⟨lg, ls⟩ := num_short2 (n := x) x0 (by omega)
            refine ⟨_, rfl, lg, _, kp4 _ _ hD nDa, by rw [List.length_map, hl]; have := sizeLine_eq; omega, ys ++ [Str.ofString (toString x)], by rw [upd_same, List.map_append]; rfl, by rw [List.length_append, hl]; rfl, ?_, (kp5.trans kp4).put_ne nDH, st4.put_ne nDa nDc⟩
            intro y hy2
            rcases List.mem_append.mp hy2 with h | h
            · exact hy y h
            · rw [List.mem_singleton.mp h]
              exact ls
          · rintro H' ⟨ys, hD, hl, hy, kp5, st5⟩
            have jl := join_len "" ys 2 hy rfl
            have sl := sum_len ys 2 hy
            refine ⟨_, _, ys, rfl, rfl, .inl (SqL.of hD), ?_, q _ _ (by omega) (fun z => (ng z).elim) kp5 st5⟩
            have : ("" : Str).length = 0 := rfl
            rw [this]
            omega
      refine ⟨_, rfl, rfl, _, rfl, ite2 (fun c7 => ?_) (fun c7 => ?_)⟩
      · refine ⟨(by show 12 ≤ sizeLine; decide), fun p np => ⟨_, rfl, a, 12, ce, rfl, by decide, st1.new np, fun k H2 k0 k1 _ kp2 st2 => ?_⟩⟩
        obtain ⟨v, g, m⟩ := at_of (xs := [.str "0", .str "07", .str "41", .str "99", .str "100", .str "400", .str "040", .str "40", .str "1", .str "00", .str "1_0", .str "4O"]) k0 (k1 (by decide))
        obtain ⟨z, rfl, hz⟩ := strs_ok (B := 5) (by decide +kernel) m
        exact ⟨_, _, _, _, rfl, rfl, SqL.of (kp2 _ _ upd_same (ne_st st1 np)), g, q _ _ (by omega) (fun _ => by omega) ((kp.new np).trans kp2) st2⟩
      · refine ⟨_, rfl, a, 51, ce, rfl, by decide, st1, fun k H2 k0 k1 _ kp2 st2 => ?_⟩
        obtain ⟨ch, gc⟩ := at_some (xs := ("!\"#$&'*+-./:;<>?@^_`{|}~ABCDEFGHIJKLMNOPQRSTUVWXYZ\t" : Str).cps.toList) k0 (by have := k1 (by decide); exact Int.lt_of_lt_of_le this (by decide +kernel))
        exact ⟨_, _, ch, rfl, rfl, by decide +kernel, gc, q _ _ (show 1 ≤ 4400 by decide) (fun _ => show 1 ≤ 14 by decide) (kp.trans kp2) st2⟩
end
/-! ### K24: what is read -/
open M24 L2H HotX
/-- the kind of the handled exception, asked -/
def spOnly (K : PySem.W.Frag) (x : Str) (mk : List V → List (Str × V)) : Addr × Obj → Sp := fun p vs H Q _ => vs = [.ref p.1] ∧ ∃ (d : Addr) (us : List V), Hx p (He.ga K x) d ∧ H d = some (.xd (mk us)) ∧ ∀ H', Same H H' → Q (.bl true) H'
section
variable {P : Program} {w : World} {K : PySem.W.Frag} {mg : Str → Option Value} {base : Heap}
theorem xd_new {H : Hp} {d p : Addr} {o u : HO} (h : H d = some u) (np : H p = none) : (upd H p o) d = some u := by
  rw [upd_ne (ne_of_none h np)]
  exact h
abbrev N_law_only : List Str := ["e", "kinds", "one"]
theorem sc_law_only : FnScope N_law_only ["e"] (defScope s_law_only) := ⟨rfl, rfl, rfl, by decide +kernel, rfl, by decide +kernel, by decide +kernel⟩
theorem bi_law_only {K : PySem.W.Frag} {mg : Str → Option Value} {f : Addr} {fd : FuncData} (D : Dd K mg "_law_only" s_law_only f fd) : Binds K fd ["e"] [] := D.fn.bindsN fun _ _ _ _ _ _ us hl => match us, hl with | [_], _ => rfl
theorem okP_law_only (T : Tx K mg) : OkP P w K mg base CX0 1 "_law_only" ["e"] (spOnly K "BadText" mk_BadText) := by
  obtain ⟨fd, D⟩ := dd_law_only T
  refine okP0 D sc_law_only (bi_law_only D) (fun p vs H Q E h => ?_) (fun cdv A outer s H vs Q E p hot1 hr h => ?_)
  · obtain ⟨rfl, _⟩ := h
    rfl
  · obtain ⟨rfl, d, us, hx, hd, q⟩ := h
    have hrH := hr
    have hpm : p ∈ (cxH CX0 P w K mg base N_law_only "_law_only" (defScope s_law_only) (He.ga K "_law_only") cdv A outer s H E p).nox.pn := List.mem_cons_self
    have hot : HotC (cxH CX0 P w K mg base N_law_only "_law_only" (defScope s_law_only) (He.ga K "_law_only") cdv A outer s H E p).nox := ⟨p, hot1, List.mem_cons_self⟩
    have xce := (xc_BadText T).e
    refine ⟨_, (pss_cons (ps_set (i := 1) sc_law_only.nd rfl (Or.inl rfl) (pe_lst (pa_cons (pe_callB (call_isP hpm hx xce) (by rfl) (m_isinstance T) (by decide +kernel) (pa_cons (pv 0) (pa_cons (pe_glob (v := .ref (He.ga K "TooMany")) rfl (g_TooMany T) rfl) pa_nil))) (pa_cons (pe_callB (call_isP hpm hx xce) (by rfl) (m_isinstance T) (by decide +kernel) (pa_cons (pv 0) (pa_cons (pe_glob (v := .ref (He.ga K "Mismatch")) rfl (g_Mismatch T) rfl) pa_nil))) (pa_cons (pe_callB (call_isP hpm hx xce) (by rfl) (m_isinstance T) (by decide +kernel) (pa_cons (pv 0) (pa_cons (pe_glob (v := .ref (He.ga K "BadWidth")) rfl (g_BadWidth T) rfl) pa_nil))) (pa_cons (pe_callB (call_isP hpm hx xce) (by rfl) (m_isinstance T) (by decide +kernel) (pa_cons (pv 0) (pa_cons (pe_glob (v := .ref (He.ga K "BadExit")) rfl (g_BadExit T) rfl) pa_nil))) pa_nil))))))
      (pss_cons (ps_set (i := 1) sc_law_only.nd rfl (Or.inl rfl) (pe_op op_cat (pv 1) (pe_lst (pa_cons (pe_callB (call_isP hpm hx xce) (by rfl) (m_isinstance T) (by decide +kernel) (pa_cons (pv 0) (pa_cons (pe_glob (v := .ref (He.ga K "BadName")) rfl (g_BadName T) rfl) pa_nil))) (pa_cons (pe_callB (call_isP hpm hx xce) (by rfl) (m_isinstance T) (by decide +kernel) (pa_cons (pv 0) (pa_cons (pe_glob (v := .ref (He.ga K "BadOuts")) rfl (g_BadOuts T) rfl) pa_nil))) (pa_cons (pe_callB (call_isP hpm hx xce) (by rfl) (m_isinstance T) (by decide +kernel) (pa_cons (pv 0) (pa_cons (pe_glob (v := .ref (He.ga K "BadText")) rfl (g_BadText T) rfl) pa_nil))) (pa_cons (pe_callB (call_isP hpm hx xce) (by rfl) (m_isinstance T) (by decide +kernel) (pa_cons (pv 0) (pa_cons (pe_glob (v := .ref (He.ga K "BadTree")) rfl (g_BadTree T) rfl) pa_nil))) pa_nil)))))))
      (pss_cons (ps_set (i := 1) sc_law_only.nd rfl (Or.inl rfl) (pe_op op_cat (pv 1) (pe_lst (pa_cons (pe_callB (call_isP hpm hx xce) (by rfl) (m_isinstance T) (by decide +kernel) (pa_cons (pv 0) (pa_cons (pe_glob (v := .ref (He.ga K "BadForm")) rfl (g_BadForm T) rfl) pa_nil))) (pa_cons (pe_callB (call_isP hpm hx xce) (by rfl) (m_isinstance T) (by decide +kernel) (pa_cons (pv 0) (pa_cons (pe_glob (v := .ref (He.ga K "BadScript")) rfl (g_BadScript T) rfl) pa_nil))) (pa_cons (pe_callB (call_isP hpm hx xce) (by rfl) (m_isinstance T) (by decide +kernel) (pa_cons (pv 0) (pa_cons (pe_glob (v := .ref (He.ga K "BadMove")) rfl (g_BadMove T) rfl) pa_nil))) (pa_cons (pe_callB (call_isP hpm hx xce) (by rfl) (m_isinstance T) (by decide +kernel) (pa_cons (pv 0) (pa_cons (pe_glob (v := .ref (He.ga K "BadDevice")) rfl (g_BadDevice T) rfl) pa_nil))) pa_nil)))))))
      (pss_cons (ps_set (i := 1) sc_law_only.nd rfl (Or.inl rfl) (pe_op op_cat (pv 1) (pe_lst (pa_cons (pe_callB (call_isP hpm hx xce) (by rfl) (m_isinstance T) (by decide +kernel) (pa_cons (pv 0) (pa_cons (pe_glob (v := .ref (He.ga K "NoStep")) rfl (g_NoStep T) rfl) pa_nil))) (pa_cons (pe_callB (call_isP hpm hx xce) (by rfl) (m_isinstance T) (by decide +kernel) (pa_cons (pv 0) (pa_cons (pe_glob (v := .ref (He.ga K "BadTable")) rfl (g_BadTable T) rfl) pa_nil))) (pa_cons (pe_callB (call_isP hpm hx xce) (by rfl) (m_isinstance T) (by decide +kernel) (pa_cons (pv 0) (pa_cons (pe_glob (v := .ref (He.ga K "Ring")) rfl (g_Ring T) rfl) pa_nil))) (pa_cons (pe_callB (call_isP hpm hx xce) (by rfl) (m_isinstance T) (by decide +kernel) (pa_cons (pv 0) (pa_cons (pe_glob (v := .ref (He.ga K "BadCode")) rfl (g_BadCode T) rfl) pa_nil))) pa_nil)))))))
      (pss_cons (ps_set (i := 1) sc_law_only.nd rfl (Or.inl rfl) (pe_op op_cat (pv 1) (pe_lst (pa_cons (pe_callB (call_isP hpm hx xce) (by rfl) (m_isinstance T) (by decide +kernel) (pa_cons (pv 0) (pa_cons (pe_glob (v := .ref (He.ga K "OffEnd")) rfl (g_OffEnd T) rfl) pa_nil))) (pa_cons (pe_callB (call_isP hpm hx xce) (by rfl) (m_isinstance T) (by decide +kernel) (pa_cons (pv 0) (pa_cons (pe_glob (v := .ref (He.ga K "NoAnswer")) rfl (g_NoAnswer T) rfl) pa_nil))) (pa_cons (pe_callB (call_isP hpm hx xce) (by rfl) (m_isinstance T) (by decide +kernel) (pa_cons (pv 0) (pa_cons (pe_glob (v := .ref (He.ga K "NoPlace")) rfl (g_NoPlace T) rfl) pa_nil))) (pa_cons (pe_callB (call_isP hpm hx xce) (by rfl) (m_isinstance T) (by decide +kernel) (pa_cons (pv 0) (pa_cons (pe_glob (v := .ref (He.ga K "Unknown")) rfl (g_Unknown T) rfl) pa_nil))) pa_nil)))))))
      (pss_cons (ps_set (i := 1) sc_law_only.nd rfl (Or.inl rfl) (pe_op op_cat (pv 1) (pe_lst (pa_cons (pe_callB (call_isP hpm hx xce) (by rfl) (m_isinstance T) (by decide +kernel) (pa_cons (pv 0) (pa_cons (pe_glob (v := .ref (He.ga K "NotCatching")) rfl (g_NotCatching T) rfl) pa_nil))) (pa_cons (pe_callB (call_isP hpm hx xce) (by rfl) (m_isinstance T) (by decide +kernel) (pa_cons (pv 0) (pa_cons (pe_glob (v := .ref (He.ga K "NotScript")) rfl (g_NotScript T) rfl) pa_nil))) (pa_cons (pe_callB (call_isP hpm hx xce) (by rfl) (m_isinstance T) (by decide +kernel) (pa_cons (pv 0) (pa_cons (pe_glob (v := .ref (He.ga K "BadDivision")) rfl (g_BadDivision T) rfl) pa_nil))) pa_nil))))))
      (pss_cons (ps_set (i := 1) sc_law_only.nd rfl (Or.inl rfl) (pe_op op_cat (pv 1) (pe_lst (pa_cons (pe_callB (call_isP hpm hx xce) (by rfl) (m_isinstance T) (by decide +kernel) (pa_cons (pv 0) (pa_cons (pe_glob (v := .ref (He.ga K "NotMergeable")) rfl (g_NotMergeable T) rfl) pa_nil))) (pa_cons (pe_callB (call_isP hpm hx xce) (by rfl) (m_isinstance T) (by decide +kernel) (pa_cons (pv 0) (pa_cons (pe_glob (v := .ref (He.ga K "NotPiece")) rfl (g_NotPiece T) rfl) pa_nil))) (pa_cons (pe_callB (call_isP hpm hx xce) (by rfl) (m_isinstance T) (by decide +kernel) (pa_cons (pv 0) (pa_cons (pe_glob (v := .ref (He.ga K "Doubled")) rfl (g_Doubled T) rfl) pa_nil))) pa_nil))))))
      (pss_cons (ps_set (i := 1) sc_law_only.nd rfl (Or.inl rfl) (pe_op op_cat (pv 1) (pe_lst (pa_cons (pe_callB (call_isP hpm hx xce) (by rfl) (m_isinstance T) (by decide +kernel) (pa_cons (pv 0) (pa_cons (pe_glob (v := .ref (He.ga K "BadPrice")) rfl (g_BadPrice T) rfl) pa_nil))) (pa_cons (pe_callB (call_isP hpm hx xce) (by rfl) (m_isinstance T) (by decide +kernel) (pa_cons (pv 0) (pa_cons (pe_glob (v := .ref (He.ga K "Nothing")) rfl (g_Nothing T) rfl) pa_nil))) pa_nil)))))
      (pss_one (ps_ret (pe_and (pe_callB (call_isP hpm hx xce) (by rfl) (m_isinstance T) (by decide +kernel) (pa_cons (pv 0) (pa_cons (pe_glob (v := .ref (He.ga K "Refused")) rfl (g_Refused T) rfl) pa_nil))) (pe_and (pe_callB (call_isP hpm hx xce) (by rfl) (m_isinstance T) (by decide +kernel) (pa_cons (pv 0) (pa_cons (pe_bltn (v := .ty "ValueError") (by rfl) (m_ValueError T) (by decide +kernel) rfl) pa_nil))) (pe_one (pe_cmpR op_eq (pe_callB (cr_sumH hot) (by rfl) (m_sum T) (by decide +kernel) (pa_cons (pe_lcH (own := [("one", 2)]) (g := gName 2) (tt := tYes) hot sc_law_only.nd (pi_listH (pv 1)) (blkOk_by (own := [("one", 2)]) (N := N_law_only) (sc := defScope s_law_only) (by decide +kernel)) (fun _ _ _ _ _ => pg_name (i := 2) sc_law_only.nd rfl (Or.inl rfl)) (fun _ _ _ _ _ => pts_nil) (fun _ _ _ _ _ => (pe_callTy call_int1 (by rfl) (m_int T) (by decide +kernel) (pa_cons (pv 2) pa_nil)))) pa_nil)) pe_int (nomark _))))))))))))))), ?_⟩
    refine ⟨_, rfl, _, _, false, _, rfl, (fun _ h => h), hd, ki_BadText T (x := "TooMany") (b := false) (by decide), _, rfl, _, _, false, _, rfl, (fun _ h => h), hd, ki_BadText T (x := "Mismatch") (b := false) (by decide), _, rfl, _, _, false, _, rfl, (fun _ h => h), hd, ki_BadText T (x := "BadWidth") (b := false) (by decide), _, rfl, _, _, false, _, rfl, (fun _ h => h), hd, ki_BadText T (x := "BadExit") (b := false) (by decide), (by show 4 ≤ sizeLine; decide), fun p0 np0 => ?_⟩
    refine ⟨_, rfl, _, rfl, _, _, false, _, rfl, (fun _ h => h), (xd_new hd np0), ki_BadText T (x := "BadName") (b := false) (by decide), _, rfl, _, _, false, _, rfl, (fun _ h => h), (xd_new hd np0), ki_BadText T (x := "BadOuts") (b := false) (by decide), _, rfl, _, _, true, _, rfl, (fun _ h => h), (xd_new hd np0), ki_BadText T (x := "BadText") (b := true) (by decide), _, rfl, _, _, false, _, rfl, (fun _ h => h), (xd_new hd np0), ki_BadText T (x := "BadTree") (b := false) (by decide), (by show 4 ≤ sizeLine; decide), fun q1 nq1 => ⟨_, _, _, _, rfl, rfl, xd_new upd_same nq1, upd_same, (by decide), fun p1 np1 => ?_⟩⟩
    refine ⟨_, rfl, _, rfl, _, _, false, _, rfl, (fun _ h => h), (xd_new (xd_new (xd_new hd np0) nq1) np1), ki_BadText T (x := "BadForm") (b := false) (by decide), _, rfl, _, _, false, _, rfl, (fun _ h => h), (xd_new (xd_new (xd_new hd np0) nq1) np1), ki_BadText T (x := "BadScript") (b := false) (by decide), _, rfl, _, _, false, _, rfl, (fun _ h => h), (xd_new (xd_new (xd_new hd np0) nq1) np1), ki_BadText T (x := "BadMove") (b := false) (by decide), _, rfl, _, _, false, _, rfl, (fun _ h => h), (xd_new (xd_new (xd_new hd np0) nq1) np1), ki_BadText T (x := "BadDevice") (b := false) (by decide), (by show 4 ≤ sizeLine; decide), fun q2 nq2 => ⟨_, _, _, _, rfl, rfl, xd_new upd_same nq2, upd_same, (by decide), fun p2 np2 => ?_⟩⟩
    refine ⟨_, rfl, _, rfl, _, _, false, _, rfl, (fun _ h => h), (xd_new (xd_new (xd_new (xd_new (xd_new hd np0) nq1) np1) nq2) np2), ki_BadText T (x := "NoStep") (b := false) (by decide), _, rfl, _, _, false, _, rfl, (fun _ h => h), (xd_new (xd_new (xd_new (xd_new (xd_new hd np0) nq1) np1) nq2) np2), ki_BadText T (x := "BadTable") (b := false) (by decide), _, rfl, _, _, false, _, rfl, (fun _ h => h), (xd_new (xd_new (xd_new (xd_new (xd_new hd np0) nq1) np1) nq2) np2), ki_BadText T (x := "Ring") (b := false) (by decide), _, rfl, _, _, false, _, rfl, (fun _ h => h), (xd_new (xd_new (xd_new (xd_new (xd_new hd np0) nq1) np1) nq2) np2), ki_BadText T (x := "BadCode") (b := false) (by decide), (by show 4 ≤ sizeLine; decide), fun q3 nq3 => ⟨_, _, _, _, rfl, rfl, xd_new upd_same nq3, upd_same, (by decide), fun p3 np3 => ?_⟩⟩
    refine ⟨_, rfl, _, rfl, _, _, false, _, rfl, (fun _ h => h), (xd_new (xd_new (xd_new (xd_new (xd_new (xd_new (xd_new hd np0) nq1) np1) nq2) np2) nq3) np3), ki_BadText T (x := "OffEnd") (b := false) (by decide), _, rfl, _, _, false, _, rfl, (fun _ h => h), (xd_new (xd_new (xd_new (xd_new (xd_new (xd_new (xd_new hd np0) nq1) np1) nq2) np2) nq3) np3), ki_BadText T (x := "NoAnswer") (b := false) (by decide), _, rfl, _, _, false, _, rfl, (fun _ h => h), (xd_new (xd_new (xd_new (xd_new (xd_new (xd_new (xd_new hd np0) nq1) np1) nq2) np2) nq3) np3), ki_BadText T (x := "NoPlace") (b := false) (by decide), _, rfl, _, _, false, _, rfl, (fun _ h => h), (xd_new (xd_new (xd_new (xd_new (xd_new (xd_new (xd_new hd np0) nq1) np1) nq2) np2) nq3) np3), ki_BadText T (x := "Unknown") (b := false) (by decide), (by show 4 ≤ sizeLine; decide), fun q4 nq4 => ⟨_, _, _, _, rfl, rfl, xd_new upd_same nq4, upd_same, (by decide), fun p4 np4 => ?_⟩⟩
    refine ⟨_, rfl, _, rfl, _, _, false, _, rfl, (fun _ h => h), (xd_new (xd_new (xd_new (xd_new (xd_new (xd_new (xd_new (xd_new (xd_new hd np0) nq1) np1) nq2) np2) nq3) np3) nq4) np4), ki_BadText T (x := "NotCatching") (b := false) (by decide), _, rfl, _, _, false, _, rfl, (fun _ h => h), (xd_new (xd_new (xd_new (xd_new (xd_new (xd_new (xd_new (xd_new (xd_new hd np0) nq1) np1) nq2) np2) nq3) np3) nq4) np4), ki_BadText T (x := "NotScript") (b := false) (by decide), _, rfl, _, _, false, _, rfl, (fun _ h => h), (xd_new (xd_new (xd_new (xd_new (xd_new (xd_new (xd_new (xd_new (xd_new hd np0) nq1) np1) nq2) np2) nq3) np3) nq4) np4), ki_BadText T (x := "BadDivision") (b := false) (by decide), (by show 3 ≤ sizeLine; decide), fun q5 nq5 => ⟨_, _, _, _, rfl, rfl, xd_new upd_same nq5, upd_same, (by decide), fun p5 np5 => ?_⟩⟩
    refine ⟨_, rfl, _, rfl, _, _, false, _, rfl, (fun _ h => h), (xd_new (xd_new (xd_new (xd_new (xd_new (xd_new (xd_new (xd_new (xd_new (xd_new (xd_new hd np0) nq1) np1) nq2) np2) nq3) np3) nq4) np4) nq5) np5), ki_BadText T (x := "NotMergeable") (b := false) (by decide), _, rfl, _, _, false, _, rfl, (fun _ h => h), (xd_new (xd_new (xd_new (xd_new (xd_new (xd_new (xd_new (xd_new (xd_new (xd_new (xd_new hd np0) nq1) np1) nq2) np2) nq3) np3) nq4) np4) nq5) np5), ki_BadText T (x := "NotPiece") (b := false) (by decide), _, rfl, _, _, false, _, rfl, (fun _ h => h), (xd_new (xd_new (xd_new (xd_new (xd_new (xd_new (xd_new (xd_new (xd_new (xd_new (xd_new hd np0) nq1) np1) nq2) np2) nq3) np3) nq4) np4) nq5) np5), ki_BadText T (x := "Doubled") (b := false) (by decide), (by show 3 ≤ sizeLine; decide), fun q6 nq6 => ⟨_, _, _, _, rfl, rfl, xd_new upd_same nq6, upd_same, (by decide), fun p6 np6 => ?_⟩⟩
    refine ⟨_, rfl, _, rfl, _, _, false, _, rfl, (fun _ h => h), (xd_new (xd_new (xd_new (xd_new (xd_new (xd_new (xd_new (xd_new (xd_new (xd_new (xd_new (xd_new (xd_new hd np0) nq1) np1) nq2) np2) nq3) np3) nq4) np4) nq5) np5) nq6) np6), ki_BadText T (x := "BadPrice") (b := false) (by decide), _, rfl, _, _, false, _, rfl, (fun _ h => h), (xd_new (xd_new (xd_new (xd_new (xd_new (xd_new (xd_new (xd_new (xd_new (xd_new (xd_new (xd_new (xd_new hd np0) nq1) np1) nq2) np2) nq3) np3) nq4) np4) nq5) np5) nq6) np6), ki_BadText T (x := "Nothing") (b := false) (by decide), (by show 2 ≤ sizeLine; decide), fun q7 nq7 => ⟨_, _, _, _, rfl, rfl, xd_new upd_same nq7, upd_same, (by decide), fun p7 np7 => ?_⟩⟩
    refine ⟨_, rfl, _, _, true, _, rfl, (fun _ h => h), (xd_new (xd_new (xd_new (xd_new (xd_new (xd_new (xd_new (xd_new (xd_new (xd_new (xd_new (xd_new (xd_new (xd_new (xd_new hd np0) nq1) np1) nq2) np2) nq3) np3) nq4) np4) nq5) np5) nq6) np6) nq7) np7), ki_BadText T (x := "Refused") (b := true) (by decide), true, rfl, iteT ⟨_, rfl, _, .type "ValueError", true, _, rfl, (fun _ h => h), (xd_new (xd_new (xd_new (xd_new (xd_new (xd_new (xd_new (xd_new (xd_new (xd_new (xd_new (xd_new (xd_new (xd_new (xd_new hd np0) nq1) np1) nq2) np2) nq3) np3) nq4) np4) nq5) np5) nq6) np6) nq7) np7), ve_BadText T, true, rfl, iteT ?_⟩⟩
    refine ⟨_, rfl, p7, rfl, ⟨_, SqL.of upd_same⟩, fun D nD => lc_list (K := K) (a := p7) (xs := ([false, false, false, false, false, false, true, false, false, false, false, false, false, false, false, false, false, false, false, false, false, false, false, false, false, false, false, false] : List Bool).map V.bl) (fun i H2 => H2 D = some (.lst (((([false, false, false, false, false, false, true, false, false, false, false, false, false, false, false, false, false, false, false, false, false, false, false, false, false, false, false, false] : List Bool).take i).map fun b => if b = true then (1 : Int) else 0).map V.int)) ∧ H2 p7 = some (.lst (([false, false, false, false, false, false, true, false, false, false, false, false, false, false, false, false, false, false, false, false, false, false, false, false, false, false, false, false] : List Bool).map V.bl)) ∧ Same H H2) ⟨upd_same, xd_new upd_same nD, same_new (same_new (same_new (same_new (same_new (same_new (same_new (same_new (same_new (same_new (same_new (same_new (same_new (same_new (same_new (same_new (Same.refl H) np0) nq1) np1) nq2) np2) nq3) np3) nq4) np4) nq5) np5) nq6) np6) nq7) np7) nD⟩ (fun i H2 _ h => SqL.of h.2.1) ?_ ?_⟩
    · rintro i x H2 hx ⟨h1, h2, h3⟩
      rw [List.getElem?_map] at hx
      obtain ⟨b, hb, rfl⟩ := Option.map_eq_some_iff.mp hx
      have nDp : p7 ≠ D := fun z => by rw [← z, upd_same] at nD; cases nD
      have nDH : H D = none := (same_new (same_new (same_new (same_new (same_new (same_new (same_new (same_new (same_new (same_new (same_new (same_new (same_new (same_new (same_new (Same.refl H) np0) nq1) np1) nq2) np2) nq3) np3) nq4) np4) nq5) np5) nq6) np6) nq7) np7).free nD
      refine ⟨rfl, ?_⟩
      unfold tYes
      refine iteT ⟨_, rfl, .inr ⟨b, rfl, _, h1, ?_, ?_, by rw [upd_ne nDp]; exact h2, same_put h3 nDH⟩⟩
      · rw [List.length_map, List.length_map, List.length_take]
        have : ([false, false, false, false, false, false, true, false, false, false, false, false, false, false, false, false, false, false, false, false, false, false, false, false, false, false, false, false] : List Bool).length = 28 := rfl
        have := sizeLine_eq
        omega
      · rw [upd_same, List.take_add_one, hb]
        simp only [Option.toList, List.map_append, List.map_cons, List.map_nil]
    · rintro H2 ⟨h1, h2, h3⟩
      exact ⟨D, _, rfl, SqL.of h1, rfl, by rw [decide_eq_true (by decide +kernel)]; exact q H2 h3⟩
/-- the kind asked, told of the exception's place -/
def sqOnly (mk : List V → List (Str × V)) (a d : Addr) : List V → Hp → VK → Prop := fun vs H Q => vs = [.ref a] ∧ ∃ us : List V, H d = some (.xd (mk us)) ∧ ∀ H', Same H H' → Q (.bl true) H'
theorem conv_law_only {a d : Addr} {oe : Obj} (hx : Hx (a, oe) (He.ga K "BadText") d) (vs : List V) (H : Hp) (Q : VK) (h : sqOnly mk_BadText a d vs H Q) : spOnly K "BadText" mk_BadText (a, oe) vs H Q E0 := by
  obtain ⟨e, us, hd, q⟩ := h
  exact ⟨e, d, us, hx, hd, q⟩
/-- the outcome read: as it is due -/
def spRead (K : PySem.W.Frag) : Sp := fun vs H Q _ => ∃ (line : Int) (z : Str), vs = [.int line, .str z] ∧ z.length ≤ 300000 ∧ ∀ (p : Addr) (H' : Hp), Same H H' → Dp K H' (.ref p) (due line z) → Q (.ref p) H'
abbrev N_law_reading : List Str := ["line", "words", "e"]
theorem sc_law_reading : FnScope N_law_reading ["line", "words"] (defScope s_law_reading) := ⟨rfl, rfl, rfl, by decide +kernel, rfl, by decide +kernel, by decide +kernel⟩
theorem bi_law_reading {K : PySem.W.Frag} {mg : Str → Option Value} {f : Addr} {fd : FuncData} (D : Dd K mg "_law_reading" s_law_reading f fd) : Binds K fd ["line", "words"] [] := D.fn.bindsN fun _ _ _ _ _ _ us hl => match us, hl with | [_, _], _ => rfl
theorem ok_law_reading (T : Tx K mg) : OkF P w K mg base CX0 5 "_law_reading" ["line", "words"] (spRead K) := by
  obtain ⟨fd, D⟩ := dd_law_reading T
  refine okF0 D sc_law_reading (bi_law_reading D) (fun vs H Q E h => ?_) (fun cdv A outer s H vs Q E hr h => ?_)
  · obtain ⟨line, z, rfl, _⟩ := h
    rfl
  · obtain ⟨line, z, rfl, hz, q⟩ := h
    refine ⟨_, (pss_one (L2N.ps_try_as (i := 2) rfl rfl sc_law_reading.nd rfl rfl ⟨rfl, by decide, Or.inl (g_BadText T)⟩ takes0N (fun W pn xe tk po => (pss_one (ps_ret (pe_lst (pa_cons pe_str (pa_cons (pe_callOS (ok_tokens T) (hr.mono (by decide)) (fun σ => L2N.passAt tk σ) (pa_cons (pv 0) (pa_cons (pv 1) pa_nil))) pa_nil))))))
      (fun a oe cls d pn hz hf => pss_ex (p := fun dd => cls = .ref (He.ga K "BadText") ∧ d = some dd) fun dd hd => have hx : Hx (a, oe) (He.ga K "BadText") dd := hx_of (hd.1 ▸ hd.2 ▸ hz) hf
        (pss_one (ps_ret (pe_lst (pa_cons (pe_ifExp (PW.pt (pw_and (pt_val (pe_callA (okP_law_only T) (L2H.roomH_mark (hr.mono (by decide)) _) (hx.hot rfl) List.mem_cons_self (conv_law_only hx) (pa_cons (pv 2) pa_nil))) (pw_and1 (pt_val (pe_callOH (okH_law_same T) (L2H.roomH_mark (hr.mono (by decide)) _) ⟨_, hx.hot rfl, List.mem_cons_self⟩ (fun σ => pass0S σ) (pa_cons (pe_xfA List.mem_cons_self hx (xc_BadText T).e (fl_BadText T (by decide)) (pv 2)) (pa_cons pe_str pa_nil))))))) pe_str pe_str) (pa_cons (pe_tup (pa_cons (pe_xfA List.mem_cons_self hx (xc_BadText T).e (fl_BadText T (by decide)) (pv 2)) (pa_cons (pe_xfA List.mem_cons_self hx (xc_BadText T).e (fl_BadText T (by decide)) (pv 2)) pa_nil))) pa_nil)))))))), ?_⟩
    refine ⟨_, rfl, _, rfl, line, z, rfl, hz, fun i hi dd H1 s1 nd1 => ?_, fun acc hacc p us H1 s1 hp ha => ⟨(by show 2 ≤ sizeLine; decide), fun pl npl => ?_⟩⟩
    · have ed : due line z = .list [.str "BadText", .tuple [.int line, .int (i : Int)]] := by
        unfold due
        rw [hi]
      have s2 : Same H (upd H1 dd (.xd (mk_BadText [.int line, .int (i : Int)]))) := same_new s1 nd1
      have hd2 : (upd H1 dd (.xd (mk_BadText [.int line, .int (i : Int)]))) dd = some (.xd (mk_BadText [.int line, .int (i : Int)])) := upd_same
      generalize upd H1 dd (.xd (mk_BadText [.int line, .int (i : Int)])) = H2 at s2 hd2
      refine ⟨true, em_BadText T, fun _ a ha => ⟨dd, ⟨rfl, rfl⟩, ?_⟩, fun z => nomatch z⟩
      refine ⟨_, rfl, rfl, _, hd2, fun H3 s3 => ⟨true, rfl, iteT ⟨_, rfl, rfl, _, _, s3 _ _ hd2, rfl, _, _, .str "BadText", .str "BadText", rfl, .str _, .str _, by decide, fun H4 s4 => ⟨fun _ => ⟨true, rfl, iteT ?_⟩, fun n => absurd rfl n⟩⟩⟩⟩
      refine ⟨_, rfl, rfl, _, _, s4 _ _ (s3 _ _ hd2), rfl, _, rfl, rfl, _, _, s4 _ _ (s3 _ _ hd2), rfl, (by show 2 ≤ sizeLine; decide), fun pt npt => ⟨(by show 2 ≤ sizeLine; decide), fun pl npl => ?_⟩⟩
      have npp : pt ≠ pl := fun z => by rw [← z, upd_same] at npl; cases npl
      refine q pl _ (same_new (same_new ((s2.trans s3).trans s4) npt) npl) ?_
      rw [ed]
      exact .lst (SqL.of upd_same) (.cons (.str _) (.cons (.tup (.inl (.inl ((upd_ne npp).trans upd_same))) (.cons (.int _) (.cons (.int _) .nil))) .nil))
    · have ed : due line z = .list [.str "", .tuple acc] := by
        unfold due
        rw [hacc]
      refine q pl _ (same_new s1 npl) ?_
      rw [ed]
      exact .lst (SqL.of upd_same) (.cons (.str _) (.cons (.tup (sqT_same (same_new (Same.refl _) npl) hp) (dpAll_same (same_new (Same.refl _) npl) ha)) .nil))
end
/-! ### K24: the law -/
open M24
/-- a line that stands: a list of a number and a text -/
def LineOk (a L : Addr) (H : Hp) (v : V) : Prop := ∃ (pa : Addr) (i : Int) (z : Str), v = .ref pa ∧ pa ≠ a ∧ pa ≠ L ∧ H pa = some (.lst [.int i, .str z]) ∧ z.length ≤ 300000
theorem LineOk.kp {a L : Addr} {H H' : Hp} {v : V} (k : Kp a H H') (h : LineOk a L H v) : LineOk a L H' v := by
  obtain ⟨pa, i, z, e, n1, n2, g, l⟩ := h
  exact ⟨pa, i, z, e, n1, n2, k _ _ g n1, l⟩
theorem LineOk.new {a L p : Addr} {H : Hp} {o : HO} {v : V} (np : H p = none) (h : LineOk a L H v) : LineOk a L (upd H p o) v := by
  obtain ⟨pa, i, z, e, n1, n2, g, l⟩ := h
  exact ⟨pa, i, z, e, n1, n2, by rw [upd_ne (ne_of_none g np)]; exact g, l⟩
theorem LineOk.put {a L : Addr} {H : Hp} {o : HO} {v : V} (h : LineOk a L H v) : LineOk a L (upd H L o) v := by
  obtain ⟨pa, i, z, e, n1, n2, g, l⟩ := h
  exact ⟨pa, i, z, e, n1, n2, by rw [upd_ne n2]; exact g, l⟩
theorem cut_two (z : Str) (n : Int) (h : 0 ≤ n) : (cutS z none (some n)).length + (cutS z (some n) none).length ≤ z.length := by
  obtain ⟨k, rfl⟩ : ∃ k : Nat, n = k := ⟨n.toNat, by omega⟩
  have e1 : (cutS z none (some (k : Int))).length = min (min k z.length) z.length := by
    show (cutS z none (some (k : Int))).cps.size = _
    unfold cutS
    rw [HT.sIx_nat, List.size_toArray, List.length_take, List.length_drop, Array.length_toList]
    show min (min k z.length - 0) (z.length - 0) = _
    omega
  have e2 : (cutS z (some (k : Int)) none).length ≤ z.length - min k z.length := by
    show (cutS z (some (k : Int)) none).cps.size ≤ _
    unfold cutS
    rw [HT.sIx_nat, List.size_toArray, List.length_take, List.length_drop, Array.length_toList]
    show min (z.length - min k z.length) (z.cps.size - min k z.length) ≤ _
    omega
  omega
def spLaw (K : PySem.W.Frag) : Sp := fun vs H Q _ => ∃ (a : Addr) (ns : List Int), vs = [.ref a] ∧ SqL K H a (ns.map V.int) ∧ ns.length ≤ 63 ∧ ∀ H', Q (.bl true) H'
section
variable {P : Program} {w : World} {K : PySem.W.Frag} {mg : Str → Option Value} {base : Heap}
abbrev N_law : List Str := ["script", "store", "lines", "n", "many", "good", "words", "m", "at", "line"]
theorem sc_law : FnScope N_law ["script"] (defScope s_law) := ⟨rfl, rfl, rfl, by decide +kernel, rfl, by decide +kernel, by decide +kernel⟩
theorem bi_law {K : PySem.W.Frag} {mg : Str → Option Value} {f : Addr} {fd : FuncData} (D : Dd K mg "law" s_law f fd) : Binds K fd ["script"] [] := D.fn.bindsN fun _ _ _ _ _ _ us hl => match us, hl with | [_], _ => rfl
theorem fn_law (T : Tx K mg) {fd : FuncData} (D : Dd K mg "law" s_law (He.ga K "law") fd) : FnOk P w K mg base CX0 6 (He.ga K "law") fd ["script"] (spLaw K) := by
  refine fnF0 D sc_law (fun vs H Q E h => ?_) (fun cdv A outer s H vs Q E hr h => ?_)
  · obtain ⟨a, ns, rfl, _⟩ := h
    rfl
  · obtain ⟨sa, ns, rfl, hS, hlen, q⟩ := h
    refine ⟨_, (pss_cons (ps_set (i := 1) sc_law.nd rfl (Or.inr rfl) (pe_callO (ok_law_open T) (hr.mono (by decide)) pass0 (pa_cons (pv 0) pa_nil)))
      (pss_cons (ps_set (i := 2) sc_law.nd rfl (Or.inl rfl) (pe_lst (pa_cons (pe_lst (pa_cons (pe_callB call_abs (by rfl) (m_abs T) (by decide +kernel) (pa_cons (pe_callO (ok_law_big T) (hr.mono (by decide)) pass0 (pa_cons (pv 1) pa_nil)) pa_nil)) (pa_cons pe_str pa_nil))) (pa_cons (pe_lst (pa_cons (pe_callB call_abs (by rfl) (m_abs T) (by decide +kernel) (pa_cons (pe_callO (ok_law_big T) (hr.mono (by decide)) pass0 (pa_cons (pv 1) pa_nil)) pa_nil)) (pa_cons (pe_op op_mulS pe_str (pe_callO (ok_law_take T) (hr.mono (by decide)) pass0 (pa_cons (pv 1) (pa_cons pe_int pa_nil)))) pa_nil))) pa_nil))))
      (pss_cons (ps_for PassesOwn.never rfl (pi_range1 rfl (m_range T) (pa_cons pe_int pa_nil)) (pg_name (i := 3) sc_law.nd rfl (Or.inl rfl))
      (pss_cons (ps_set (i := 4) sc_law.nd rfl (Or.inr rfl) (pe_ifExp (pt_cmpR op_gt (pe_callO (ok_law_take T) (hr.mono (by decide)) pass0 (pa_cons (pv 1) (pa_cons pe_int pa_nil))) pe_int (nomark _)) (pe_callO (ok_law_take T) (hr.mono (by decide)) pass0 (pa_cons (pv 1) (pa_cons pe_int pa_nil))) (pe_op op_add pe_int (pe_callO (ok_law_take T) (hr.mono (by decide)) pass0 (pa_cons (pv 1) (pa_cons pe_int pa_nil))))))
      (pss_cons (ps_set (i := 5) sc_law.nd rfl (Or.inr rfl) (pe_cmpR op_eq (pe_callO (ok_law_take T) (hr.mono (by decide)) pass0 (pa_cons (pv 1) (pa_cons pe_int pa_nil))) pe_int (nomark _)))
      (pss_cons (ps_set (i := 6) sc_law.nd rfl (Or.inl rfl) (pe_join pe_str (pe_lc (own := [("m", 7)]) (g := gName 7) (tt := tYes) rfl sc_law.nd (pi_range1 rfl (m_range T) (pa_cons (pv 4) pa_nil)) (blkOk_by (own := [("m", 7)]) (N := N_law) (sc := defScope s_law) (by decide +kernel)) (fun _ _ _ _ _ => pg_name (i := 7) sc_law.nd rfl (Or.inl rfl)) (fun _ _ _ _ _ => pts_nil) (fun _ _ _ _ _ => (pe_callO (ok_law_piece T) (hr.mono (by decide)) pass0 (pa_cons (pv 1) (pa_cons (pe_or (pv 5) (pe_one (pe_cmpR op_gt (pv 4) pe_int (nomark _)))) pa_nil)))))))
      (C8.pss_cut (ps_if (pt_cmpR op_eq (pe_callO (ok_law_take T) (hr.mono (by decide)) pass0 (pa_cons (pv 1) (pa_cons pe_int pa_nil))) pe_int (nomark _))
      (pss_cons (ps_set (i := 8) sc_law.nd rfl (Or.inl rfl) (pe_callO (ok_law_take T) (hr.mono (by decide)) pass0 (pa_cons (pv 1) (pa_cons (pe_op op_add (pe_callB call_len_str (by rfl) (m_len T) (by decide +kernel) (pa_cons (pv 6) pa_nil)) pe_int) pa_nil))))
      (pss_one (ps_set (i := 6) sc_law.nd rfl (Or.inl rfl) (pe_op op_add_str (pe_op op_add_str (pe_slice sl_str (pv 6) po_none (po_some (pv 8))) (pe_callO (ok_law_piece T) (hr.mono (by decide)) pass0 (pa_cons (pv 1) (pa_cons pe_bl pa_nil)))) (pe_slice sl_str (pv 6) (po_some (pv 8)) po_none)))))
      pss_nil)
      (pss_one (ps_expr (pe_bm PySem.F.plainAttrs_list PySem.F.slot_list_append PySem.F.type_list_append mt_append (pv 2) (pa_cons (pe_lst (pa_cons (pe_ix ix_list (pe_lst (pa_cons (pv 3) (pa_cons (pe_callB call_abs (by rfl) (m_abs T) (by decide +kernel) (pa_cons (pe_callO (ok_law_big T) (hr.mono (by decide)) pass0 (pa_cons (pv 1) pa_nil)) pa_nil)) pa_nil))) (pe_callO (ok_law_take T) (hr.mono (by decide)) pass0 (pa_cons (pv 1) (pa_cons pe_int pa_nil))) (fun _ _ => rfl)) (pa_cons (pv 6) pa_nil))) pa_nil)))))))))
      (pss_cons (ps_expr (pe_bm PySem.F.plainAttrs_list PySem.F.slot_list_append PySem.F.type_list_append mt_append (pv 2) (pa_cons (pe_ix ix_list (pv 2) pe_int (fun _ _ => rfl)) pa_nil)))
      (pss_one (ps_ret (pe_callB (cr_all rfl) (by rfl) (m_all T) (by decide +kernel) (pa_cons (pe_lc (own := [("line", 9)]) (g := gName 9) (tt := tYes) rfl sc_law.nd (pi_list (pv 2)) (blkOk_by (own := [("line", 9)]) (N := N_law) (sc := defScope s_law) (by decide +kernel)) (fun _ _ _ _ _ => pg_name (i := 9) sc_law.nd rfl (Or.inl rfl)) (fun _ _ _ _ _ => pts_nil) (fun _ _ _ _ _ => (pe_callO (ok_law_same T) (hr.mono (by decide)) pass0 (pa_cons (pe_callO (ok_law_reading T) (hr.mono (by decide)) pass0 (pa_cons (pe_ix (show IxR _ (rIxL K) from ix_list) (pv 9) pe_int (fun _ _ => rfl)) (pa_cons (pe_ix (show IxR _ (rIxL K) from ix_list) (pv 9) pe_int (fun _ _ => rfl)) pa_nil))) (pa_cons (pe_callO (ok_law_due T) (hr.mono (by decide)) pass0 (pa_cons (pe_ix (show IxR _ (rIxL K) from ix_list) (pv 9) pe_int (fun _ _ => rfl)) (pa_cons (pe_ix (show IxR _ (rIxL K) from ix_list) (pv 9) pe_int (fun _ _ => rfl)) pa_nil))) pa_nil))))) pa_nil)))))))), ?_⟩
    refine ⟨_, rfl, sa, ns, rfl, hS, hlen, fun a ce H0 na0 s0 st0 => ?_⟩
    refine ⟨_, rfl, a, ce, rfl, st0, fun b1 H1 kp1 st1 => ⟨_, rfl, (by show 2 ≤ sizeLine; decide), fun p0 np0 => ?_⟩⟩
    refine ⟨_, rfl, a, ce, rfl, st1.new np0, fun b2 H2 kp2 st2 => ⟨_, rfl, _, rfl, a, 9, ce, rfl, by decide, st2, fun k9 H3 k0 k1 _ kp3 st3 => ?_⟩⟩
    have k1 := k1 (by decide)
    refine ⟨_, _, rfl, rfl, k0, by omega, by decide, (by show 2 ≤ sizeLine; decide), fun p1 np1 => ⟨(by show 2 ≤ sizeLine; decide), fun L nL => ?_⟩⟩
    have np0a := (st1.ne np0).1
    have np1a := (st3.ne np1).1
    obtain ⟨nLa, nLc⟩ := (st3.new (o := .lst [.int (if b2 < 0 then -b2 else b2), .str (repS " " k9.toNat)]) np1).ne nL
    have g0 : H3 p0 = some (.lst [.int (if b1 < 0 then -b1 else b1), .str ""]) := kp3 _ _ (kp2 _ _ upd_same np0a) np0a
    have n0L : p0 ≠ L := ne_of_none (by rw [upd_ne (ne_of_none g0 np1)]; exact g0) nL
    have n1L : p1 ≠ L := fun z => by rw [← z, upd_same] at nL; cases nL
    have rl := repS_len (Str.ofString " ") k9.toNat
    have l1 : (Str.ofString " ").length = 1 := by decide +kernel
    rw [l1] at rl
    refine ⟨8, rfl, by decide, by decide, for_range (lo := 0) (n := (8 : Int).toNat) (fun i σ H' => ∃ (v3 v4 v5 v6 v7 v8 v9 : Option V) (ls : List V), σ = [some (.ref sa), some (.ref a), some (.ref L), v3, v4, v5, v6, v7, v8, v9] ∧ H' L = some (.lst ls) ∧ ls.length = 2 + i ∧ (∀ v ∈ ls, LineOk a L H' v) ∧ St7 H' a ce)
      ⟨_, _, _, _, _, _, _, [.ref p0, .ref p1], rfl, upd_same, rfl, fun v hv => ?_, (st3.new np1).new nL⟩ ?_ ?_⟩
    · rcases List.mem_cons.mp hv with e | hv
      · exact ⟨p0, _, _, e, np0a, n0L, by rw [upd_ne n0L, upd_ne (ne_of_none g0 np1)]; exact g0, by decide⟩
      · exact ⟨p1, _, _, List.mem_singleton.mp hv, np1a, n1L, by rw [upd_ne n1L, upd_same], by omega⟩
    · rintro i σ H' hi ⟨v3, v4, v5, v6, v7, v8, v9, ls, rfl, hL, hll, hls, st⟩
      refine ⟨_, rfl, a, 24, ce, rfl, by decide, st, fun k H1 _ _ _ kp1 st1 => ⟨_, _, rfl, rfl, _, rfl, ite2 (fun c => ⟨_, rfl, a, 41, ce, rfl, by decide, st1, fun m0 H2 k0 k1 _ kp2 st2 => ?g1⟩) (fun c => ⟨_, rfl, a, 401, ce, rfl, by decide, st1, fun m0 H2 k0 k1 _ kp2 st2 => ⟨_, _, rfl, rfl, ?g2⟩⟩)⟩⟩
      case' g1 =>
        have k1 := k1 (by decide)
        generalize hmany : m0 = many
        have hmb : 0 ≤ many ∧ (many ≤ 40 ∨ (299 < many ∧ many ≤ 700)) := by omega
      case' g2 =>
        have k1 := k1 (by decide)
        dsimp only
        generalize hmany : (300 + m0 : Int) = many
        have hmb : 0 ≤ many ∧ (many ≤ 40 ∨ (299 < many ∧ many ≤ 700)) := by omega
      all_goals
        have hL2 := kp2 _ _ (kp1 _ _ hL nLa) nLa
        have hls2 := fun v hv => ((hls v hv).kp kp1).kp kp2
        refine ⟨_, rfl, a, 2, ce, rfl, by decide, st2, fun k2 H3 _ _ _ kp3 st3 => ⟨rfl, ?_⟩⟩
        generalize hgd : decide (V.int k2 = V.int 0) = gd
        have hL3 := kp3 _ _ hL2 nLa
        have hls3 := fun v hv => (hls2 v hv).kp kp3
        obtain ⟨B, hB1, hB2⟩ : ∃ B : Nat, (many ≤ 40 → B = 4400) ∧ (299 < many → B = 14) := by
          by_cases c : many ≤ 40
          · exact ⟨4400, fun _ => rfl, fun _ => by omega⟩
          · exact ⟨14, fun _ => by omega, fun _ => rfl⟩
        refine ⟨⟨_, rfl⟩, _, rfl, many, rfl, by omega, by omega, fun D nD => ?_⟩
        obtain ⟨nDa, nDc⟩ := st3.ne nD
        refine lc_range (lo := 0) (n := many.toNat) (fun i H' => ∃ ys : List Str, H' D = some (.lst (ys.map V.str)) ∧ ys.length = i ∧ (∀ y ∈ ys, y.length ≤ B) ∧ Kp a H3 H' ∧ St7 H' a ce)
          ⟨[], upd_same, rfl, (fun _ h => by cases h), (Kp.refl a H3).new nD, st3.new nD⟩ ?_ ?_
        · rintro j H4 hj ⟨ys, hD, hl, hy, kp4, st4⟩
          have out : ∀ (z : Str) (H5 : Hp), z.length ≤ B → Kp a H4 H5 → St7 H5 a ce → ∃ acc, H5 D = some (.lst acc) ∧ acc.length < sizeLine ∧ ∃ ys : List Str, (upd H5 D (.lst (acc ++ [V.str z]))) D = some (.lst (ys.map V.str)) ∧ ys.length = j + 1 ∧ (∀ y ∈ ys, y.length ≤ B) ∧ Kp a H3 (upd H5 D (.lst (acc ++ [V.str z]))) ∧ St7 (upd H5 D (.lst (acc ++ [V.str z]))) a ce := fun z H5 hz kp5 st5 => by
            refine ⟨_, kp5 _ _ hD nDa, by rw [List.length_map, hl]; have := sizeLine_eq; omega, ys ++ [z], by rw [upd_same, List.map_append]; rfl, by rw [List.length_append, hl]; rfl, ?_, (kp4.trans kp5).put_ne nD, st5.put_ne nDa nDc⟩
            intro y hy2
            rcases List.mem_append.mp hy2 with h | h
            · exact hy y h
            · rw [List.mem_singleton.mp h]
              exact hz
          refine ⟨rfl, ?_⟩
          unfold tYes
          refine iteT ⟨_, rfl, _, rfl, _, rfl, ite2 (fun c => ?_) (fun c => ?_)⟩
          · refine ⟨a, true, ce, rfl, st4, fun z H5 z1 z2 kp5 st5 => out z H5 ?_ kp5 st5⟩
            have := z2 rfl
            rcases hmb.2 with h | h
            · rw [hB1 h]
              omega
            · rw [hB2 h.1]
              exact this
          · refine ⟨_, rfl, _, _, rfl, rfl, a, _, ce, rfl, st4, fun z H5 z1 z2 kp5 st5 => out z H5 ?_ kp5 st5⟩
            rcases hmb.2 with h | h
            · rw [hB1 h]
              exact z1
            · rw [hB2 h.1]
              exact z2 (decide_eq_true h.1)
        · rintro H4 ⟨ys, hD, hl, hy, kp4, st4⟩
          have jl := join_len "" ys B hy rfl
          have sl := sum_len ys B hy
          have nB : ys.length * B ≤ 176000 := by
            rcases hmb.2 with h | h
            · rw [hB1 h, hl]
              have : many.toNat ≤ 40 := by omega
              exact Nat.le_trans (Nat.mul_le_mul_right _ this) (by decide)
            · rw [hB2 h.1, hl]
              have : many.toNat ≤ 700 := by omega
              exact Nat.le_trans (Nat.mul_le_mul_right _ this) (by decide)
          have hL4 := kp4 _ _ hL3 nLa
          have hls4 := fun v hv => (hls3 v hv).kp kp4
          refine ⟨_, _, ys, rfl, rfl, .inl (SqL.of hD), ?_, ?_⟩
          · have : ("" : Str).length = 0 := rfl
            rw [this]
            omega
          generalize hz : Txt.join "" ys = z
          have lz : z.length ≤ 176000 := by
            rw [← hz]
            omega
          refine ⟨fun σ' H5 => ∃ (z : Str) (v8 : Option V), σ' = [some (.ref sa), some (.ref a), some (.ref L), some (.int (0 + (i : Int))), some (.int many), some (.bl gd), some (.str z), v7, v8, v9] ∧ z.length ≤ 300000 ∧ H5 L = some (.lst ls) ∧ (∀ v ∈ ls, LineOk a L H5 v) ∧ St7 H5 a ce, ?_, ?_⟩
          · refine ⟨_, rfl, a, 4, ce, rfl, by decide, st4, fun k4 H5 _ _ _ kp5 st5 => ⟨rfl, _, rfl, ite2 (fun c => ?_) (fun c => ?_)⟩⟩
            · have zs : z.length ≤ sizeLine := str300 (by omega)
              refine ⟨_, rfl, _, rfl, z, rfl, zs, _, _, rfl, rfl, a, _, ce, rfl, by omega, st5, fun at_ H6 a0 a1 _ kp6 st6 => ?_⟩
              have c2 := cut_two z at_ a0
              refine ⟨_, rfl, _, rfl, _, rfl, z, rfl, zs, _, rfl, a, false, ce, rfl, st6, fun pz H7 z1 _ kp7 st7 => ?_⟩
              refine ⟨_, _, rfl, rfl, ?_, _, rfl, _, rfl, _, rfl, z, rfl, zs, _, _, rfl, rfl, ?_, _, _, rfl, ?_, kp7 _ _ (kp6 _ _ (kp5 _ _ hL4 nLa) nLa) nLa, fun v hv => (((hls4 v hv).kp kp5).kp kp6).kp kp7, st7⟩
              · have := sizeLine_eq
                omega
              · have := sizeLine_eq
                rw [PySem.Str.length_append]
                omega
              · rw [PySem.Str.length_append, PySem.Str.length_append]
                omega
            · exact ⟨z, _, rfl, by omega, kp5 _ _ hL4 nLa, fun v hv => (hls4 v hv).kp kp5, st5⟩
          · rintro σ' H5 ⟨z, v8', rfl, lz, hL5, hls5, st5⟩
            refine ⟨_, rfl, .inl ⟨rfl, _, SqL.of hL5⟩, _, rfl, _, rfl, a, ce, rfl, st5, fun b H6 kp6 st6 => ⟨_, rfl, (by show 2 ≤ sizeLine; decide), fun p np => ⟨_, rfl, a, 2, ce, rfl, by decide, st6.new np, fun k H7 k0 k1 _ kp7 st7 => ?_⟩⟩⟩
            obtain ⟨npa, npc⟩ := st6.ne np
            obtain ⟨v, g, m⟩ := at2 (x := .int (0 + (i : Int))) (y := .int (if b < 0 then -b else b)) k0 (k1 (by decide))
            obtain ⟨num, rfl⟩ : ∃ n : Int, v = .int n := by rcases m with m | m <;> exact ⟨_, m⟩
            have hL7 := kp7 _ _ (show (upd H6 p (.lst [.int (0 + (i : Int)), .int (if b < 0 then -b else b)])) L = some (.lst ls) by rw [upd_ne (ne_of_none (kp6 _ _ hL5 nLa) np)]; exact kp6 _ _ hL5 nLa) nLa
            have hls7 := fun v hv => (LineOk.new (o := .lst [.int (0 + (i : Int)), .int (if b < 0 then -b else b)]) np ((hls5 v hv).kp kp6)).kp kp7
            refine ⟨_, _, _, _, rfl, rfl, SqL.of (kp7 _ _ upd_same npa), g, _, rfl, (by show 2 ≤ sizeLine; decide), fun p2 np2 => ?_⟩
            obtain ⟨np2a, np2c⟩ := st7.ne np2
            have np2L : p2 ≠ L := (ne_of_none hL7 np2).symm
            refine ⟨L, ls, _, rfl, rfl, by rw [upd_ne np2L.symm]; exact hL7, by have := sizeLine_eq; omega, _, _, _, _, _, _, _, _, rfl, upd_same, by rw [List.length_append, hll]; rfl, fun v hv => ?_, (st7.new np2).put_ne nLa nLc⟩
            rcases List.mem_append.mp hv with hv | hv
            · exact ((hls7 v hv).new np2).put
            · exact ⟨p2, num, z, List.mem_singleton.mp hv, np2a, np2L, by rw [upd_ne np2L, upd_same], lz⟩
    · rintro σ H' ⟨v3, v4, v5, v6, v7, v8, v9, ls, rfl, hL, hll, hls, st⟩
      have h10 : ls.length = 10 := hll
      obtain ⟨v, g, m⟩ := at_of (xs := ls) (n := 2) (by decide) (by omega)
      refine ⟨_, rfl, .inl ⟨rfl, _, SqL.of hL⟩, _, rfl, _, _, _, _, rfl, rfl, SqL.of hL, g, L, ls, _, rfl, rfl, hL, by have := sizeLine_eq; omega, ?_⟩
      have hls2 : ∀ u ∈ ls ++ [v], LineOk a L (upd H' L (.lst (ls ++ [v]))) u := fun u hu => by
        rcases List.mem_append.mp hu with hu | hu
        · exact (hls u hu).put
        · rw [List.mem_singleton.mp hu]
          exact (hls v m).put
      have hL2 : (upd H' L (.lst (ls ++ [v]))) L = some (.lst (ls ++ [v])) := upd_same
      have len2 : (ls ++ [v]).length = 11 := by rw [List.length_append, h10]; rfl
      generalize upd H' L (.lst (ls ++ [v])) = H2 at hls2 hL2
      generalize ls ++ [v] = ls2 at hls2 hL2 len2
      refine ⟨_, rfl, L, rfl, ⟨_, SqL.of hL2⟩, fun D nD => lc_list (K := K) (a := L) (xs := ls2) (fun i H3 => H3 D = some (.lst ((List.replicate i true).map V.bl)) ∧ Same H2 H3) ⟨upd_same, same_new (Same.refl H2) nD⟩ (fun i H3 _ h => SqL.of (h.2 _ _ hL2)) ?_ ?_⟩
      · rintro i x H3 hx ⟨hD, s3⟩
        have hi : i < 11 := by
          have := (List.getElem?_eq_some_iff.mp hx).1
          omega
        obtain ⟨pa, num, z, rfl, _, _, gp, lz⟩ := hls2 x (List.mem_of_getElem? hx)
        have gp3 := s3 _ _ gp
        refine ⟨rfl, ?_⟩
        unfold tYes
        refine iteT ⟨_, rfl, _, _, _, _, rfl, rfl, SqL.of gp3, rfl, _, rfl, _, _, _, _, rfl, rfl, SqL.of gp3, rfl, num, z, rfl, lz, fun r1 H4 s4 d4 => ?_⟩
        have gp4 := s4 _ _ gp3
        refine ⟨_, rfl, _, _, _, _, rfl, rfl, SqL.of gp4, rfl, _, rfl, _, _, _, _, rfl, rfl, SqL.of gp4, rfl, num, z, rfl, lz, fun r2 H5 s5 d5 => ?_⟩
        refine ⟨_, _, _, _, rfl, dp_same s5 d4, d5, due_nd lz, fun H6 s6 => ⟨fun _ => ?_, fun n => absurd rfl n⟩⟩
        refine ⟨_, s6 _ _ (s5 _ _ (s4 _ _ hD)), ?_, ?_, same_put (((s3.trans s4).trans s5).trans s6) nD⟩
        · rw [List.length_map, List.length_replicate]
          have := sizeLine_eq
          omega
        · rw [upd_same, List.replicate_succ', List.map_append]
          rfl
      · rintro H3 ⟨hD, s3⟩
        exact ⟨D, _, rfl, SqL.of hD, by simpa using q H3⟩
end
/-! ### the end -/
theorem facts {P : Program} {w : World} {K : PySem.W.Frag} {h : Heap} {mg : Str → Option Value} {f : Addr} (X : K.In h) (G : h.Ns mainGlobals mg) (hfa : mg ("law" : Str) = some (.ref f)) (c : He.SaysD fa fn K) (e : ex K = true) :
    ∃ fd : FuncData, (∀ (s : Shared) (v : Value), BindsTo s fd ⟨[v], []⟩ [("script", v)]) ∧ ∀ base : Heap, K.In base → base.Ns mainGlobals mg → FnOk P w K mg base CX0 6 f fd ["script"] (spLaw K) := by
  have T : Tx K mg := tx_of X G c e
  obtain ⟨fd, D⟩ := dd_law T
  have e2 := hfa.symm.trans D.g
  cases e2
  have b := FunD.bindsA (ps := ["script"]) D.fn fun _ _ _ _ _ _ us hl => match us, hl with | [_], _ => rfl
  exact ⟨fd, fun s v => b s [v] rfl, fun base _ _ => fn_law T D⟩
end K24
open PySem PySem.W PySem.Calls PyProof.Rows
theorem PySem.Challenge.cw_exitspeeled_k24_every_sign_of_a_line_as_holds : PySem.Challenge.rw_exitspeeled_k24_every_sign_of_a_line_as.Holds := by
  w_on; o_law
  refine HandSHeadRun.head_any (r := OpenLaw.row PySem.Challenge.rw_exitspeeled_k24_every_sign_of_a_line_as) (q := view (OpenLaw.row PySem.Challenge.rw_exitspeeled_k24_every_sign_of_a_line_as).prog [50]) (H := K24.hk) (ob := K24.ob) (M := 20000) (loose := K24.loose) (d := HandSHeadRun.topDef (OpenLaw.row PySem.Challenge.rw_exitspeeled_k24_every_sign_of_a_line_as).prog 50) (kwd := []) K24.ob_eq
    (by kernel_rfl) (fun s => by kernel_rfl) K24.run (by kernel_rfl) (by kernel_rfl) (by kernel_rfl) (by rfl) (by first | assumption | decide +kernel) (by decide +kernel) ⟨rfl, rfl, rfl, rfl, rfl, by decide +kernel⟩ ?hw ?hc
  case hw => w_witness2
  case hc =>
    refine L2.walk_ofE (l := PySem.Challenge.rw_exitspeeled_k24_every_sign_of_a_line_as) (n := 63) (k := 6) (x := "script") (CX := L2.CX0) rfl (by decide) (by kernel_rfl) ⟨rfl, by decide, by decide⟩ ?F (fun _ _ _ _ z => z)
    intro w mg fa h Y G hmg0
    obtain ⟨K, KX, c, e⟩ := Y
    have hmg : mg ("law" : PySem.Str) = some (.ref fa) := by
      have e : (HandSHeadRun.topDef (OpenLaw.row PySem.Challenge.rw_exitspeeled_k24_every_sign_of_a_line_as).prog 50).name = ("law" : PySem.Str) := by kernel_rfl
      rw [← e]
      exact hmg0
    obtain ⟨fd, hb, hF⟩ := K24.facts (P := (PySem.Challenge.rw_exitspeeled_k24_every_sign_of_a_line_as).prog) (w := w) KX G hmg c e
    exact ⟨K, fd, K24.spLaw K, KX, hb, fun H a ns hl _ hS => ⟨a, ns, rfl, hS, hl, fun _ => rfl⟩, hF⟩
