import PyProof.Rows.All
import Wide.All
import OpenK.AllK
import Wide.FinOn
import KE.KStateDown
import HandS.Base
import HandS.Call
import HandS.Ends
import HandS.Exc
import HandS.List
import HandS.Comp
import HandS.Text
import HandS.Iter
import HandS.Dict
import HandS.Words
import HandS.WordsList
import HandS.WordsDict
import HandS.WordsExc
import HandS.Defaults
import HandS.Head0
import HandS.Head1
import HandS.Head2
import HandS.HeadEnd
import HandS.HeadHook1
import HandS.HeadHook2
import HandS.ExcInit
import HandS.ExcIs
import HandS.ExcField
import HandS.Wide
import HandS.WideMore
import HandS.IsInst
import HandS.ExcCtx
import HandS.Hot
import HandS.HotCalls
import HandS.ExcInitHot
import HandS.More
import HandS.TupAny
import HandS.TupMul
import HandS.Flow
import HandS.Codes
import HandS.Steps
import PyProof.SumWalkG
import PyProof.WalkInts
import KE.KExcIs
import PyProof.CompFree
import HandS.Set
import HandS.SetBool
import HandS.SetTxt0
import HandS.Walk
import HandS.RevTup
import HandS.Rev
import KE.KRevIter
import PyProof.ListNew
import PySem.Challenge.RW_exitspeeled_k42_price_of_calls_alone
set_option Elab.async false
set_option linter.all false
set_option maxRecDepth 100000
set_option maxHeartbeats 0
/-! Xa: a hook that tells one more Bool; what the written part says of an own exception class. -/
namespace Xq
open PySem PySem.Spec PyProof.Rows L2 He
/-! ### the hook -/
abbrev AlB : Type := AlD × Bool
def obsB (n : Nat) (fa : List Fa) (fn : List DefD) (ex : PySem.W.Frag → Bool) (g : Addr → Option Obj) : AlB := (obsD fa fn (frG g (asD g n)), ex (frG g (asD g n)))
def hookB (n : Nat) (fa : List Fa) (fn : List DefD) (ex : PySem.W.Frag → Bool) : PySem.W.Hook where
  α := AlB
  obs := fun s => obsB n fa fn ex s.heap.get?
  val := fun _ => (valD fn, true)
  says := fun _ h => ∃ K : PySem.W.Frag, K.In h ∧ SaysD fa fn K ∧ ex K = true
  of := fun _ _ e => ⟨_, frG_in, congrArg (fun z : AlB => z.1) e, congrArg (fun z : AlB => z.2) e⟩
  keeps := fun _ _ _ ⟨K, hK, c, d⟩ k => ⟨K, PySem.W.Frag.In.keeps hK k, c, d⟩
theorem obsB_eq {n : Nat} {fa : List Fa} {fn : List DefD} {ex : PySem.W.Frag → Bool} {g : Addr → Option Obj} {s : Shared} (h : ∀ a, g a = s.heap.get? a) : obsB n fa fn ex g = (hookB n fa fn ex).obs s := by
  have e : g = s.heap.get? := funext h
  rw [e] <;> rfl
/-! ### an own exception class, looked at -/
def clsB (K : PySem.W.Frag) (C : Addr) : Bool := match K.lookup C with
  | some ⟨.type t, _, .cls cd, sl⟩ => decide (t = "type") && (match cd.mro, sl.toList with
    | .ref C' :: bm, [_, _, _, _, some (.builtin n), _] => decide (C' = C) && (decide (n = "ValueError.__new__") && (!cd.hasDel && (cd.hasDict && PySem.HandSPX.refsVE bm)))
    | _, _ => false)
  | _ => false
theorem clsB_ok {K : PySem.W.Frag} {C : Addr} (h : clsB K C = true) : ∃ nm q N bs bm sn sub ab col dd k0 k1 k2 k3 k5, K.lookup C = some (excClassObj nm q C N bs bm true sn sub ab col dd k0 k1 k2 k3 k5 "ValueError.__new__") ∧ PySem.HandSPX.refsVE bm = true := by
  unfold clsB at h
  split at h
  · rename_i t dd cd sl ho
    obtain ⟨h1, h2⟩ := ba h
    have e1 := of_decide_eq_true h1
    split at h2
    · rename_i C' bm k0 k1 k2 k3 n k5 hm hs
      obtain ⟨g1, g2⟩ := ba h2
      obtain ⟨g3, g4⟩ := ba g2
      obtain ⟨g5, g6⟩ := ba g4
      obtain ⟨g7, g8⟩ := ba g6
      have c1 := of_decide_eq_true g1
      have c2 := of_decide_eq_true g3
      obtain ⟨nm, bs, mro, ns, qn, hd, sn, sub, ab, col, del⟩ := cd
      dsimp only at hm g5 g7
      have c3 : del = false := by
        cases del with
        | false => rfl
        | true => cases g5
      have hsl : sl = #[k0, k1, k2, k3, some (.builtin n), k5] := by
        obtain ⟨l⟩ := sl
        simp only at hs
        rw [hs]
      subst hm c3 hsl e1 c1 c2 g7
      exact ⟨nm, qn, ns, bs, bm, sn, sub, ab, col, dd, k0, k1, k2, k3, k5, ho, g8⟩
    · cases h2
  · cases h
/-- the class at C: made, raised, its fields stored and read, asked by isinstance -/
def xcB (K : PySem.W.Frag) (C : Addr) : Bool :=
  clsB K C && (eqO (PySem.W.findIn K (.ref C) "__setattr__") (some (some (.builtin "object.__setattr__"))) && (decide (PySem.W.subIn K (.ref C) (.type "BaseException") = some true) && (decide (PySem.W.typeIn K (.ref C) = some (.type "type")) && (PySem.W.keepIn K (.ref C) &&
    (xfB K C && (eqO (PySem.W.findIn K (.ref C) "__class__") (some (some (.builtin "object.__class__"))) && (eqO (PySem.W.specialIn K (.builtin "object.__class__") "__get__") (some (some (.builtin "getset_descriptor.__get__"))) &&
      (decide (PySem.W.takesIn K (.builtin "object.__class__") = some true) && decide (PySem.W.mroIn K C (.type "object") = some true)))))))))
structure Xc (K : PySem.W.Frag) (C : Addr) : Prop where
  o : OexC K C
  f : XfC K C
  e : ExcC K C
theorem xcB_ok {K : PySem.W.Frag} {C : Addr} (h : xcB K C = true) : Xc K C := by
  obtain ⟨h1, h⟩ := ba h
  obtain ⟨h2, h⟩ := ba h
  obtain ⟨h3, h⟩ := ba h
  obtain ⟨h4, h⟩ := ba h
  obtain ⟨h5, h⟩ := ba h
  obtain ⟨h6, h⟩ := ba h
  obtain ⟨h7, h⟩ := ba h
  obtain ⟨h8, h⟩ := ba h
  obtain ⟨h9, h10⟩ := ba h
  have X := xfB_ok h6
  exact ⟨⟨clsB_ok h1, eqO_ok h2, of_decide_eq_true h3, of_decide_eq_true h4, h5⟩, X, ⟨X.ga, X.gg, X.exC, X.hdC, eqO_ok h7, eqO_ok h8, of_decide_eq_true h9, of_decide_eq_true h10⟩⟩
/-- isinstance of an instance of C against the classes named -/
def kindsB (K : PySem.W.Frag) (C : Addr) : List (Str × Bool) → Bool
  | [] => true
  | (x, b) :: r => decide (PySem.W.kitOne K (.ref C) (.ref (ga K x)) = some b) && kindsB K C r
theorem kindsB_ok {K : PySem.W.Frag} {C : Addr} : ∀ {l : List (Str × Bool)} {x : Str} {b : Bool}, kindsB K C l = true → (x, b) ∈ l → PySem.W.kitOne K (.ref C) (.ref (ga K x)) = some b
  | (y, c) :: r, x, b, h, m => by
    obtain ⟨h1, h2⟩ := ba h
    rcases List.mem_cons.mp m with e | e
    · injection e with e1 e2
      rw [e1, e2]
      exact of_decide_eq_true h1
    · exact kindsB_ok h2 e
def allB {α : Type} (l : List α) (p : α → Bool) : Bool := match l with
  | [] => true
  | a :: r => p a && allB r p
theorem allB_ok {α : Type} {p : α → Bool} : ∀ {l : List α} {a : α}, allB l p = true → a ∈ l → p a = true
  | b :: r, a, h, m => by
    obtain ⟨h1, h2⟩ := ba h
    rcases List.mem_cons.mp m with e | e
    · rw [e]
      exact h1
    · exact allB_ok h2 e
end Xq
/-! Xb: a def kept by name, its calls; more operators. -/
namespace Xq
open PySem PySem.Spec PyProof.Rows L2
/-! ### a def that keeps its promise, by its name -/
structure OkF (P : Program) (w : World) (K : PySem.W.Frag) (mg : Str → Option Value) (base : Heap) (CX : CXT) (k : Nat) (x : Str) (ps : List Str) (sp : Sp) : Prop where
  ex : ∃ (f : Addr) (fd : FuncData), FnOk P w K mg base CX k f fd ps sp ∧ Binds K fd ps [] ∧ PySem.W.keepIn K (.ref f) = true ∧ mg x = some (.ref f)
structure OkH (P : Program) (w : World) (K : PySem.W.Frag) (mg : Str → Option Value) (base : Heap) (CX : CXT) (k : Nat) (x : Str) (ps : List Str) (sp : Sp) : Prop where
  ex : ∃ (f : Addr) (fd : FuncData), L2H.FnH P w K mg base CX k f fd ps sp ∧ Binds K fd ps [] ∧ PySem.W.keepIn K (.ref f) = true ∧ mg x = some (.ref f)
/-- a def of the module where it stands -/
structure Dd (K : PySem.W.Frag) (mg : Str → Option Value) (x : Str) (st : Stmt) (f : Addr) (fd : FuncData) : Prop where
  fn : FunD K x x (defArgs st) (defBody st) (defScope st) [] [] f fd
  g : mg x = some (.ref f)
section
variable {P : Program} {w : World} {K : PySem.W.Frag} {mg : Str → Option Value} {base : Heap} {x : Str} {st : Stmt} {f : Addr} {fd : FuncData} {N ps : List Str} {k : Nat} {sp : Sp}
theorem okF0 (D : Dd K mg x st f fd) (S : FnScope N ps (defScope st)) (b : Binds K fd ps []) (len : ∀ vs H Q E, sp vs H Q E → vs.length = ps.length)
    (body : ∀ (cdv : Value) (A : Around) (outer : List Env) (s : Shared) (H : Hp) (vs : List V) (Q : VK) (E : XK), Room k (A.deeper (envOfC x (defScope st) s.heap.objs.size f cdv)) → sp vs H Q E →
      ∃ t, PSs (cxOf CX0 P w K mg base N x (defScope st) f cdv A outer s H E).nox (defBody st) t ∧ t { nx := fun _ H' => Q .non H', rt := Q } (L2.start N vs) H) : OkF P w K mg base CX0 (k + 1) x ps sp :=
  ⟨f, fd, D.fn.ok S len (fun cdv A outer s H vs Q E hr h => by
    obtain ⟨t, h1, h2⟩ := body cdv A outer s H vs Q E hr h
    exact ⟨t, h1.nox, h2⟩), b, D.fn.kp, D.g⟩
/-- the last one, of a given fd -/
theorem fnF0 (D : Dd K mg x st f fd) (S : FnScope N ps (defScope st)) (len : ∀ vs H Q E, sp vs H Q E → vs.length = ps.length)
    (body : ∀ (cdv : Value) (A : Around) (outer : List Env) (s : Shared) (H : Hp) (vs : List V) (Q : VK) (E : XK), Room k (A.deeper (envOfC x (defScope st) s.heap.objs.size f cdv)) → sp vs H Q E →
      ∃ t, PSs (cxOf CX0 P w K mg base N x (defScope st) f cdv A outer s H E).nox (defBody st) t ∧ t { nx := fun _ H' => Q .non H', rt := Q } (L2.start N vs) H) : FnOk P w K mg base CX0 (k + 1) f fd ps sp :=
  D.fn.ok S len (fun cdv A outer s H vs Q E hr h => by
    obtain ⟨t, h1, h2⟩ := body cdv A outer s H vs Q E hr h
    exact ⟨t, h1.nox, h2⟩)
/-- one that may raise (nothing is handled where it raises) -/
theorem okFN (D : Dd K mg x st f fd) (S : FnScope N ps (defScope st)) (b : Binds K fd ps []) (len : ∀ vs H Q E, sp vs H Q E → vs.length = ps.length)
    (body : ∀ (cdv : Value) (A : Around) (outer : List Env) (s : Shared) (H : Hp) (vs : List V) (Q : VK) (E : XK), Room k (A.deeper (envOfC x (defScope st) s.heap.objs.size f cdv)) → sp vs H Q E →
      ∃ t, PSs (cxOf (L2N.CX P w) P w K mg base N x (defScope st) f cdv A outer s H E) (defBody st) t ∧ t { nx := fun _ H' => Q .non H', rt := Q } (L2.start N vs) H) : OkF P w K mg base (L2N.CX P w) (k + 1) x ps sp :=
  ⟨f, fd, D.fn.ok S len body, b, D.fn.kp, D.g⟩
/-- while an exception is handled -/
theorem okH0 (D : Dd K mg x st f fd) (S : FnScope N ps (defScope st)) (b : Binds K fd ps []) (len : ∀ vs H Q E, sp vs H Q E → vs.length = ps.length)
    (body : ∀ (cdv : Value) (A : Around) (outer : List Env) (s : Shared) (H : Hp) (vs : List V) (Q : VK) (E : XK) (p : Addr × Obj), HotX.HotAt A p.1 s.heap ∨ True → L2H.Hot1 A p → L2H.RoomH k (A.deeper (envOfC x (defScope st) s.heap.objs.size f cdv)) → sp vs H Q E →
      ∃ t, PSs (L2H.cxH CX0 P w K mg base N x (defScope st) f cdv A outer s H E p).nox (defBody st) t ∧ t { nx := fun _ H' => Q .non H', rt := Q } (L2.start N vs) H) : OkH P w K mg base CX0 (k + 1) x ps sp := by
  obtain ⟨oc, od, dV, kV, doc, pm, an, cdv, ct, osl, rfl, lk, hcd, _, _⟩ := D.fn.ex
  refine ⟨f, _, L2H.fn_ofH lk hcd S len (fun A outer s H vs Q E p hot hr hsp => ?_), b, D.fn.kp, D.g⟩
  obtain ⟨t, h1, h2⟩ := body cdv A outer s H vs Q E p (.inr trivial) hot hr hsp
  exact ⟨t, h1.nox, h2⟩
theorem OkF.mono {CX : CXT} {j : Nat} (o : OkF P w K mg base CX j x ps sp) (h : j ≤ k) : OkF P w K mg base CX k x ps sp := by
  obtain ⟨f, fd, F, b, kp, g⟩ := o.ex
  exact ⟨f, fd, F.mono h, b, kp, g⟩
end
section
variable {X : Cx} {CX : CXT} {k : Nat} {x : Str} {ps : List Str} {sp : Sp} {p pos : Pos} {e : Expr} {es : List Expr} {t : TA} {E : XK}
theorem pe_callO (o : OkF X.prog X.w X.K X.mg X.base CX k x ps sp) (hr : Room k X.A) (hx : Passes CX X E) (ha : PA X (e :: es) t) (hg : Gl X x := by rfl) (hdb : (x == ("__debug__" : Str)) = false := by decide)
    (he : starEach (e :: es) X.env = (false, eval e X.env) :: starEach es X.env := by rfl) (hpl : (backTo pos (starEach es X.env)).any (·.1) = false := by rfl) : PE X (.Call (.Name x p) (e :: es) [] pos) (tCall sp [] E t) := by
  obtain ⟨f, fd, F, b, kp, g⟩ := o.ex
  exact pe_call F hr hg g kp b .nil hx ha hdb he hpl
theorem pe_callOS {E : L2.St → XK} (o : OkF X.prog X.w X.K X.mg X.base CX k x ps sp) (hr : Room k X.A) (hx : ∀ σ, PassesAt CX X σ (E σ)) (ha : PA X (e :: es) t) (hg : Gl X x := by rfl) (hdb : (x == ("__debug__" : Str)) = false := by decide)
    (he : starEach (e :: es) X.env = (false, eval e X.env) :: starEach es X.env := by rfl) (hpl : (backTo pos (starEach es X.env)).any (·.1) = false := by rfl) : PE X (.Call (.Name x p) (e :: es) [] pos) (tCallS sp E t) := by
  obtain ⟨f, fd, F, b, kp, g⟩ := o.ex
  exact pe_callS F hr hg g kp b hx ha hdb he hpl
theorem pe_callOH {E : L2.St → XK} (o : OkH X.prog X.w X.K X.mg X.base CX k x ps sp) (hr : L2H.RoomH k X.A) (hc : L2H.HotC X) (hx : ∀ σ, PassesAt CX X σ (E σ)) (ha : PA X (e :: es) t) (hg : Gl X x := by rfl) (hdb : (x == ("__debug__" : Str)) = false := by decide)
    (he : starEach (e :: es) X.env = (false, eval e X.env) :: starEach es X.env := by rfl) (hpl : (backTo pos (starEach es X.env)).any (·.1) = false := by rfl) : PE X (.Call (.Name x p) (e :: es) [] pos) (tCallS sp E t) := by
  obtain ⟨f, fd, F, b, kp, g⟩ := o.ex
  exact L2H.pe_callH F hr hc hg g kp b hx ha hdb he hpl
/-! ### operators that the modules lack -/
def CPowW (i j : Int) : Prop := 0 ≤ j ∧ (Builtin.Int.intBits i : Int) * j ≤ 2 ^ 27
theorem op_powW : OpR X (binaryOp .Pow) (rI CPowW fun i j => .int (i ^ j.toNat)) := opI fun _ _ _ _ _ _ _ hc q => pow_int hc.1 hc.2 q
/-- a text so many times -/
def repS (z : Str) (n : Nat) : Str := ⟨(List.replicate n z.cps).foldl (· ++ ·) #[]⟩
theorem fold_cat (z : Array Nat) : ∀ (n : Nat) (a : Array Nat), ((List.replicate n z).foldl (· ++ ·) a).toList = a.toList ++ (List.replicate n z.toList).flatten
  | 0, a => by simp
  | n + 1, a => by
    rw [List.replicate_succ, List.foldl_cons, fold_cat z n (a ++ z), List.replicate_succ, List.flatten_cons, Array.toList_append, List.append_assoc]
theorem repS_list (z : Str) (n : Nat) : (repS z n).cps.toList = (List.replicate n z.cps.toList).flatten := by
  have h := fold_cat z.cps n #[]
  simpa [repS] using h
theorem repS_len (z : Str) (n : Nat) : (repS z n).length = n * z.length := by
  show (repS z n).cps.size = n * z.cps.size
  rw [← Array.length_toList, repS_list, List.length_flatten]
  simp
theorem repS_one {z : Str} {n : Int} (d : (n == 1 || z.length == 0) = true) : repS z n.toNat = z := by
  have e : (repS z n.toNat).cps.toList = z.cps.toList := by
    rw [repS_list]
    rcases Bool.or_eq_true_iff.mp d with d | d
    · have : n = 1 := by simpa using d
      subst this
      simp
    · have : z.cps.toList = [] := List.length_eq_zero_iff.mp (by simpa [Str.length] using d)
      rw [this]
      simp
  have e2 : (repS z n.toNat).cps = z.cps := Array.toList_inj.mp e
  cases h : repS z n.toNat with
  | mk c =>
    rw [h] at e2
    cases z
    exact congrArg Str.mk e2
theorem op_mulS : OpR X (binaryOp .Mult) (fun x y H Q => ∃ (z : Str) (n : Int), x = .str z ∧ y = .int n ∧ 0 ≤ n ∧ n ≤ 100000 ∧ z.length ≤ 100 ∧ Q (.str (repS z n.toNat)) H) := by
  intro pins s σ H x y v u Q I rx ry h
  obtain ⟨z, n, rfl, rfl, h0, h1, hz, q⟩ := h
  obtain ⟨t, rfl⟩ := rx
  obtain ⟨t', rfl⟩ := ry
  have hle : z.length * n.toNat ≤ 10000000 := Nat.le_trans (Nat.mul_le_mul hz (show n.toNat ≤ 100000 by omega)) (by decide)
  refine PySem.P.mul_str ?_ (fun h3 h4 => ?_) (fun h3 h4 => ?_) ?_
  · have a1 : ¬ n < -(2 ^ 63 : Int) := by omega
    have a2 : ¬ n ≥ 2 ^ 63 := by omega
    rw [decide_eq_false a1, decide_eq_false a2] <;> rfl
  · intro h5
    have h6 : (100 : Int) * n ≤ 2 ^ 63 - 1 := by omega
    have h7 : (100 : Int) ≤ (2 ^ 63 - 1) / n := (Int.le_ediv_iff_mul_le (by omega)).mpr h6
    omega
  · show decide (z.length * n.toNat > sizeLine) = false
    refine decide_eq_false ?_
    have := sizeLine_eq
    omega
  · by_cases c : n < 1
    · rw [if_pos c]
      have e0 : n = 0 := by omega
      subst e0
      exact ⟨by decide, ⟨.str (repS z 0), H, I.tok _, ⟨_, rfl⟩, q⟩⟩
    · rw [if_neg c]
      by_cases d : (n == 1 || z.length == 0) = true
      · rw [if_pos d]
        rw [repS_one d] at q
        exact ⟨.str z, H, I, ⟨_, rfl⟩, q⟩
      · rw [if_neg d]
        refine ⟨?_, ⟨.str (repS z n.toNat), H, I.tok _, ⟨_, rfl⟩, q⟩⟩
        show (repS z n.toNat).length ≤ sizeLine
        rw [repS_len, Nat.mul_comm]
        have := sizeLine_eq
        omega
end
end Xq
/-! Xe: own exception classes whose __init__ stores its arguments: made, raised (nothing handled), caught, their fields read, asked by isinstance, handed to a def while they are handled. -/
namespace Xq
open PySem PySem.Spec PyProof.Rows L2
/-- the promise of such an __init__: the new dict holds mk of the arguments -/
def spXi (C : Addr) (n : Nat) (mk : List V → List (Str × V)) : Sp := fun vs H Q _ => ∃ (a : Addr) (ws : List V), vs = .ref a :: ws ∧ ws.length = n ∧ H a = some (exo a C none) ∧
  ∀ d, H d = none → d ≠ a → Q .non (upd (upd H d (exd d (mk ws))) a (exo a C (some d)))
/-- a class x at C, made of n arguments -/
structure XM (P : Program) (w : World) (K : PySem.W.Frag) (mg : Str → Option Value) (base : Heap) (x : Str) (C : Addr) (n : Nat) (mk : List V → List (Str × V)) : Prop where
  xc : Xc K C
  g : mg x = some (.ref C)
  ini : ∃ (fI : Addr) (fd : FuncData) (ps : List Str), PySem.W.findIn K (.ref C) "__init__" = some (some (.ref fI)) ∧ PySem.W.typeIn K (.ref fI) = some (.type "function") ∧ FnOk P w K mg base CX0 1 fI fd ps (spXi C n mk) ∧ Binds K fd ps []
/-- what such a making asks -/
def tMkX (C : Addr) (n : Nat) (mk : List V → List (Str × V)) (ta : TA) : L2.St → Hp → XK → Prop := fun σ H Q => ta σ H fun vs H1 => vs.length = n ∧ ∀ d, H1 d = none → Q (.ref C) (some d) (upd H1 d (.xd (mk vs)))
theorem xm_heap {H : Hp} {a d C : Addr} {o1 o2 o3 o4 : HO} (ha : H a = none) (hd : d ≠ a) : upd (del (upd (upd (upd H a o1) d o2) a o3) a) d o4 = upd H d o4 := by
  funext b
  by_cases c : b = d
  · rw [c, upd_same, upd_same]
  · rw [upd_ne c, upd_ne c]
    by_cases e : b = a
    · rw [e, del_same, ha]
    · rw [del_ne e, upd_ne e, upd_ne c, upd_ne e]
theorem ini_at {H : Hp} {a d : Addr} {o1 o2 : HO} (ne : d ≠ a) : upd (upd H d o1) a o2 d = some o1 := by
  rw [upd_ne ne, upd_same]
theorem ini_more {H : Hp} {a d : Addr} {o1 o2 o3 : HO} (ne : d ≠ a) : upd (upd (upd H d o1) a o2) d o3 = upd (upd H d o3) a o2 := by
  funext b
  by_cases c : b = d
  · rw [c, upd_same, upd_ne ne, upd_same]
  · rw [upd_ne c]
    by_cases e : b = a
    · rw [e, upd_same, upd_same]
    · rw [upd_ne e, upd_ne e, upd_ne c, upd_ne c]
section
variable {X : Cx} {x : Str} {C : Addr} {n : Nat} {mk : List V → List (Str × V)} {e : Expr} {es : List Expr} {ta : TA} {p pos : Pos}
theorem pmk_x (T : XM X.prog X.w X.K X.mg X.base x C n mk) {k : Nat} (hr0 : Room k X.A) (hk : 2 ≤ k) (hn1000 : n ≤ 1000) (ha : PA X (e :: es) ta) (hg : Gl X x := by rfl) (hdb : (x == ("__debug__" : Str)) = false := by decide)
    (he : starEach (e :: es) X.env = (false, eval e X.env) :: starEach es X.env := by rfl) (hpl : (backTo pos (starEach es X.env)).any (·.1) = false := by rfl) :
    L2N.PMk X (.Call (.Name x p) (e :: es) [] pos) (tMkX C n mk ta) := by
  have hr : Room 2 X.A := hr0.mono hk
  intro pins s σ H Q I h
  obtain ⟨fI, fd, ps, iC, tI, F1, hb⟩ := T.ini
  obtain ⟨nm, q, N, bs, bm, sn, sub, ab, col, dd, k0, k1, k2, k3, k5, hC, hbm⟩ := T.xc.o.cls
  refine wpAny_Call_Name_kw (ld_glob I hg T.g ?_ hdb)
  refine PySem.W.callWith_K (h₀ := X.base) I.ok.mod.kin T.xc.o.kC (thn (ha.run pos pins s σ H _ I h) fun us s1 ⟨vs, H1, I1, r1, hz, q1⟩ => ⟨I1.kIn, ?_⟩) he hpl
  show wpAny _ _ (call (.ref C) us) _ _ _
  obtain ⟨hp, gs, drn, tks, osx⟩ := s1
  have grow : hp.objs.size ≤ hp.objs.size + 1 := Nat.le_succ _
  have na : H1 (hp.objs.size + 1) = none := I1.hok.fresh grow
  have kept : ∀ b o, hp.get? b = some o → ((hp.push (PySem.W.kdv_tup us)).push (PySem.HandSPX.excO C hp.objs.size)).get? b = some o := fun b o z => Heap.get?_push_of_some _ (Heap.get?_push_of_some _ z)
  have there : ((hp.push (PySem.W.kdv_tup us)).push (PySem.HandSPX.excO C hp.objs.size)).get? (hp.objs.size + 1) = some (PySem.HandSPX.excO C hp.objs.size) := by heap_get
  have I2 : Inv X pins σ (upd H1 (hp.objs.size + 1) (exo (hp.objs.size + 1) C none)) ⟨(hp.push (PySem.W.kdv_tup us)).push (PySem.HandSPX.excO C hp.objs.size), gs, drn, tks, osx⟩ :=
    I1.laid (t' := tks) (a := hp.objs.size + 1) (o := exo (hp.objs.size + 1) C none) (h' := (hp.push (PySem.W.kdv_tup us)).push (PySem.HandSPX.excO C hp.objs.size)) kept grow (exo_ok there)
  have rv : Vals (V.ref (hp.objs.size + 1) :: vs) (Value.ref (hp.objs.size + 1) :: us) := .cons rfl r1
  have want : spXi C n mk (V.ref (hp.objs.size + 1) :: vs) (upd H1 (hp.objs.size + 1) (exo (hp.objs.size + 1) C none)) (fun v H2 => v = .non ∧ ∃ d, d ≠ hp.objs.size + 1 ∧ H1 d = none ∧ H2 = upd (upd (upd H1 (hp.objs.size + 1) (exo (hp.objs.size + 1) C none)) d (exd d (mk vs))) (hp.objs.size + 1) (exo (hp.objs.size + 1) C (some d))) (fun _ _ _ => False) := by
    refine ⟨_, vs, rfl, hz, upd_same, fun d hd ne => ⟨rfl, d, ne, ?_, rfl⟩⟩
    rw [upd_ne ne] at hd
    exact hd
  have hl : (Value.ref (hp.objs.size + 1) :: us).length = ps.length := by
    rw [← rv.length]
    exact F1.len _ _ _ _ want
  have hus : us.length ≤ sizeLine := by
    rw [← Paired.length r1, sizeLine_eq]
    omega
  refine wpAny_call (PySem.HandSPX.call_own F.excBase_ValueError (fun Y => PySem.HandSPX.refsVE_contains Y bm hbm) (I1.kIn _ _ hC) (PySem.W.looks_findIn I1.kIn iC) (fun self => PySem.W.bind_fn I1.kIn self tI) hus
    (codeAny_mono (F1.run _ X.stack _ _ ⟨Value.ref (hp.objs.size + 1) :: us, []⟩ (Value.ref (hp.objs.size + 1) :: us) _ _ (fun _ _ _ => False) (hr.make C us []) (I2.env0.make C us []) ?_ rv want) fun r s' hq' => ?_))
  · have b := hb ⟨(hp.push (PySem.W.kdv_tup us)).push (PySem.HandSPX.excO C hp.objs.size), gs, drn, tks, osx⟩ (Value.ref (hp.objs.size + 1) :: us) I2.kIn (by rw [List.append_nil]; exact hl)
    rw [List.append_nil] at b
    exact b
  · cases r with
    | error er => exact False.elim hq'
    | ok fl =>
      cases fl with
      | ret u =>
        obtain ⟨v, H2, os2, bare2, un2, hok2, rv2, ev, d, ne, hd1, eH⟩ := hq'
        subst ev
        subst eH
        obtain ⟨h2, g2, d2, t2, os'⟩ := s'
        obtain ⟨t0, G, J, kG, ge, hoe, nA⟩ := mk_end0 (d2 := d2) (t2 := t2) I1 grow kept un2 hok2 os2 bare2 upd_same (by rw [upd_ne ne]; exact upd_same) hd1
        rw [xm_heap (C := C) na ne] at J nA
        exact ⟨rv2, _, _, _, ⟨G, g2, d2, t2, os'⟩, _, .ref C, some d, rfl, J, kG, ge, hoe, ⟨rfl, rfl, fun vs z => by cases z; rfl⟩, rfl, rfl, nA, rfl, bare2, raises_own T.xc.o.exC T.xc.o.tyC, q1 d hd1⟩
      | next => exact False.elim hq'
      | brk => exact False.elim hq'
      | cont => exact False.elim hq'
/-! ### constants of the module -/
theorem pe_globS {z : Str} (h : ∃ t, X.mg x = some (.str z t)) (hg : Gl X x := by rfl) (hdb : (x == ("__debug__" : Str)) = false := by decide) (hcd : (x == ("__classdict__" : Str)) = false := by decide) : PE X (.Name x pos) (tC (.str z)) := by
  obtain ⟨t, h⟩ := h
  exact pe_glob hg h ⟨t, rfl⟩ hdb
theorem pe_globI {z : Int} (h : ∃ t, X.mg x = some (.int z t)) (hg : Gl X x := by rfl) (hdb : (x == ("__debug__" : Str)) = false := by decide) (hcd : (x == ("__classdict__" : Str)) = false := by decide) : PE X (.Name x pos) (tC (.int z)) := by
  obtain ⟨t, h⟩ := h
  exact pe_glob hg h ⟨t, rfl⟩ hdb
end
end Xq
/-! Xh: while an exception is handled: lists walked, summed, comprehensions; a def that is handed the handled exception. -/
namespace Xq
open PySem PySem.Spec PyProof.Rows L2 HotX L2H
/-! ### a list's iterator at its end -/
section
variable {prog : Program} {w : World} {A : Around} {E : Value → Shared → Prop} {s : Shared}
theorem next_list_end_hot {it l x1 : Addr} {i : Nat} {items : Array Value} {Q : Option Value → Shared → Prop} (hot : HotAt A x1 s.heap) (nx : x1 ≠ it) (hit : s.heap.IsListIter it l i) (hl : s.heap.IsList l items) (hx : items[i]? = none)
    (hQ : ∀ h', Heap.ExtBut it s.heap h' → Q none { s with heap := h' }) : wpAny (model prog w) A (pyNext (.ref it)) Q E s := by
  obtain ⟨ob, gob, cob, dob⟩ := id hit
  obtain ⟨ol, gol, _, nl, dol⟩ := hl
  obtain ⟨hh, o1, vs1, g1, d1, c1⟩ := hot
  unfold pyNext
  refine wpAny_bind (wpAny_attempt (wpAny_callSpecial?_slot (name := Str.ofString "__next__") hit.typeIs slot_listiter_next
    (wpAny_call_entry slot_listiter_next hit.typeIs entry_listiter_next ?_ (args_listiter_next _))))
  show wpAny _ _ (field (.ref it) 0 >>= _) _ _ s
  refine wpAny_bind (wpAny_field gob dob (x := .ref l) rfl ?_)
  show wpAny _ _ (if (Value.ref l == Value.none) = true then _ else _) _ _ s
  rw [if_neg (show ¬ ((Value.ref l == Value.none) = true) from Bool.false_ne_true)]
  show wpAny _ _ (field (.ref it) 1 >>= _) _ _ s
  refine wpAny_bind (wpAny_field gob dob (x := .int i 0) rfl ?_)
  show wpAny _ _ (seqItems? (.ref l) >>= _) _ _ s
  refine wpAny_bind (wpAny_seqItems gol dol ?_)
  simp only [Int.toNat_natCast, hx]
  refine wpAny_bind (wpAny_rule (wpAny_bind (wpAny_setField gob dob (by simp) ?_)))
  show wpAny _ _ (newExc (.type "StopIteration") [] >>= _) _ _ _
  refine wpAny_bind ?_
  simp only [newExc, newTuple]
  refine wpAny_bind (wpAny_newObj_type ?_ (by size_fits))
  refine wpAny_bind (m := firstArgMember _ _) (wpAny_of_eq (a := Value.none) (by first | rfl | (simp only [firstArgMember]; rfl)) ?_)
  refine wpAny_newObj_type ?_ (by size_fits)
  have up : (s.heap.update it (Obj.mapFields (·.setIfInBounds 0 .none))).get? x1 = some o1 := (Heap.get?_update_other _ _ (Ne.symm nx)).trans g1
  have up2 : ∀ (u : Obj) (v : Obj), (((s.heap.update it (Obj.mapFields (·.setIfInBounds 0 .none))).push u).push v).get? x1 = some o1 := fun u v => Heap.get?_push_of_some _ (Heap.get?_push_of_some _ up)
  refine raiseNew_hot ⟨hh, o1, vs1, up2 _ _, d1, c1⟩ (Nat.ne_of_lt (Heap.lt_size (Heap.get?_push_of_some _ up))) (Heap.get?_push_size _ rfl) rfl (by first | (simp; done) | (simp; omega) | (simp only [Array.size_append]; simp; omega)) ?_
  refine wpAny_bind (wpAny_isInstance (T := "StopIteration") (b := true) ⟨_, Heap.get?_update_self _ (Heap.get?_push_size _ rfl) rfl, rfl⟩ isSubtype_stop ?_)
  refine wpAny_pure (hQ _ fun b o nb e => ?_)
  have q1 : (s.heap.update it (Obj.mapFields (·.setIfInBounds 0 .none))).get? b = some o := (Heap.get?_update_other _ _ (Ne.symm nb)).trans e
  rw [Heap.get?_update_other _ _ (Nat.ne_of_gt (Heap.lt_size (Heap.get?_push_of_some _ q1)))]
  exact Heap.get?_push_of_some _ (Heap.get?_push_of_some _ q1)
/-- the walk of a list, x1 handled -/
theorem walks_list_hot {x1 : Addr} {o1 : Obj} {vs1 : Array Value} (hh : A.handled = some (.ref x1)) (d1 : o1.data = .fields vs1) (c1 : vs1[2]? = some .none) (I ax : Addr) (hne : ax ≠ I) (n1 : x1 ≠ I) (items : Array Value) :
    Walks prog w A I [I, ax, x1] [I] items.size (fun i v => items[i]? = some v) (fun i h => (h.IsListIter I ax i ∧ h.IsList ax items) ∧ h.get? x1 = some o1) where
  sub := fun b hb => by simp at hb; simp [hb]
  frame := fun _ _ _ st hk => ⟨⟨st.1.1.at fun o e => hk I (by simp) o e, st.1.2.at fun o e => hk ax (by simp) o e⟩, hk x1 (by simp) _ st.2⟩
  item := fun i s Q E hi st hQ => by
    refine wpAny_pyNext_list_item st.1.1 st.1.2 (x := items[i]) (by simp [hi]) fun h' hit' hs' => ?_
    exact hQ _ h' s.toks (by simp [hi]) ⟨⟨hit', st.1.2.extBut hs'.extBut hne⟩, hs'.extBut x1 _ n1 st.2⟩ fun b o hb e => hs'.extBut b o (fun h => hb (by simp [h])) e
  done := fun s Q E st hQ => next_list_end_hot ⟨hh, o1, vs1, st.2, d1, c1⟩ n1 st.1.1 st.1.2 (by simp) fun h' he' => hQ h' s.toks fun b o hb e => he' b o (fun h => hb (by simp [h])) e
  self := fun _ _ _ _ st hQ => wpAny_pyIter_listiter st.1.1 hQ
theorem sum_hot {l x1 : Addr} {xs : Array (Int × Tok)} {Q : Value → Shared → Prop} (hot : HotAt A x1 s.heap) (hl : s.heap.IsList l (intItems xs))
    (h : ∀ h' tk t', (∀ b o, s.heap.get? b = some o → h'.get? b = some o) → Q (.int (preSum (numAt xs) xs.size) t') { s with heap := h', toks := tk }) : wpAny (model prog w) A (call (.builtin "sum") [.ref l]) Q E s := by
  obtain ⟨hh, o1, vs1, g1, d1, c1⟩ := hot
  refine call_sum_walkG (iter_intList hl fun s₂ e st hfp hlI => ?_)
  subst e
  have nx : x1 ≠ s.heap.objs.size := Nat.ne_of_lt (Heap.lt_size g1)
  refine ⟨_, _, _, _, _, _, numAt xs, rfl, walks_list_hot (A := A.in1) hh d1 c1 _ l hlI nx (intItems xs), ⟨st, Heap.get?_push_of_some _ g1⟩, fun b hb => ?_, (fun _ _ => intItems_at), fun h' tk t' hk => ?_⟩
  · rcases List.mem_cons.mp hb with z | hb
    · exact hfp b (by rw [z]; simp)
    · rcases List.mem_cons.mp hb with z | hb
      · exact hfp b (by rw [z]; simp)
      · have z : b = x1 := by simpa using hb
        rw [z]
        exact Heap.lt_size (Heap.get?_push_of_some _ g1)
  · have := h h' tk t' (old_kept hk)
    simpa [intItems] using this
end
section
variable {X : Cx} {tg : Expr}
theorem cr_sumH (hc : HotC X) : CallR X (.builtin "sum") (rSum X.K) := by
  intro pins s σ H vs us Q I r h
  obtain ⟨a, ns, rfl, hs, q⟩ := h
  obtain ⟨its, rv, hl, _⟩ := I.list hs
  obtain ⟨x1, hot⟩ := hc.at I
  rw [Vals.ref1 r]
  have hi := rv.ints
  obtain ⟨xs, e⟩ := hi.allInts.items
  have hn : numsOf (intItems xs).toList = ns := by rw [← e]; exact hi.numsOf
  rw [nums_intItems] at hn
  have hl2 := hl.isList
  rw [e] at hl2
  refine sum_hot hot hl2 fun h' tk t' hk => ?_
  rw [preSum_eq, List.take_of_length_le (by simp), hn]
  exact ⟨.int _, H, I.kept hk, ⟨_, rfl⟩, q⟩
/-! ### for over a list -/
theorem turn_listH {P : Program} {w : World} {K : PySem.W.Frag} {tg : Expr} (a it : Addr) : TurnH P w K tg (Itl K a) [it] it (fun i h => h.IsListIter it a i) where
  mem := by simp
  obj := fun i h st b hb => by
    have e : b = it := by simpa using hb
    subst e
    obtain ⟨o, e, c, d⟩ := st
    exact ⟨o, e, fun v z => by rw [d] at z; cases z⟩
  keep := fun i h h' st k => st.at fun o e => k it (by simp) o e
  item := by
    intro X hP hw hK hc i pins s σ H E I hf st hg
    subst hP hw hK
    obtain ⟨xs, x, hq, hx⟩ := hg
    obtain ⟨its, rv, p, hz⟩ := I.list hq
    obtain ⟨u, hu, ru⟩ := rv.get hx
    obtain ⟨f0, f1, f2, f3, f4, f5⟩ := hf it (by simp)
    refine wpAny_pyNext_list_item st p.isList (x := u) (by simpa using hu) fun h' st' sb => ?_
    have J : Inv X pins σ H { s with heap := h' } := I.turned (t' := s.toks) (fun b o hb e => (sb.2 b hb).trans e) f0 f1 f3 f4 f5
    obtain ⟨o, e, c, d⟩ := id st'
    exact ⟨u, rfl, go_of (s := { s with heap := h' }) e c d (by decide) ⟨x, H, J, ru, ⟨rfl, fun ys hy => by rw [I.list_inj hy hq]; exact hx⟩, st', fun b hb => (hf b hb).1⟩⟩
  done := by
    intro X hP hw hK hc i pins s σ H E I hf st hg
    subst hP hw hK
    obtain ⟨xs, hq, hx⟩ := hg
    obtain ⟨its, rv, p, hz⟩ := I.list hq
    obtain ⟨f0, f1, f2, f3, f4, f5⟩ := hf it (by simp)
    have hl := rv.length
    obtain ⟨pp, ⟨hh, v1, e1, c1⟩, hp⟩ := hc
    have P1 := I.pin pp (List.mem_append_left _ hp)
    have nx : pp.1 ≠ it := (f5 pp (List.mem_append_left _ hp))
    exact next_list_end_hot ⟨hh, pp.2, v1, P1.1, e1, c1⟩ nx st p.isList (by simp; omega) fun h' eb => ⟨rfl, I.turned (t' := s.toks) (fun b o hb e => eb b o hb e) f0 f1 f3 f4 f5⟩
  self := fun _ _ _ _ _ st h => wpAny_pyIter_listiter st h
theorem pi_listH {l : Expr} {tl : TE} (hl : PE X l tl) : PIH X tg l (iList X.K tl) := by
  refine ⟨fun pins s σ H R I h => ?_⟩
  refine thn (hl.run pins s σ H _ I h) fun v s1 ⟨x, H1, I1, r1, q1⟩ => ?_
  obtain ⟨a, e, ⟨xs, hq⟩, q⟩ := q1
  subst e
  cases r1
  obtain ⟨its, rv, p, hz⟩ := I1.list hq
  refine wpAny_pyIter_list p.isList ?_
  refine ⟨s1.heap.objs.size, [s1.heap.objs.size], _, _, H1, rfl, I1.kept (t' := s1.toks) fun b o e => Heap.get?_push_of_some _ e, turn_listH a _, ⟨_, Heap.get?_push_size _ rfl, rfl, rfl⟩, fun b hb => ?_, q⟩
  have e : b = s1.heap.objs.size := by simpa using hb
  rw [e]
  exact I1.fpOk (Nat.le_refl _) (I1.hok.fresh (Nat.le_refl _))
end
end Xq
/-! Xi: while an exception is handled: list comprehensions over what a PIH serves; defs that are handed the handled exception; isinstance and fields of it. -/
namespace Xq
open PySem PySem.Spec PyProof.Rows L2 HotX L2H
/-! ### pins moved between the context and the state -/
theorem Inv.pnOf {X : Cx} {pl : List (Addr × Obj)} {σ : L2.St} {H : Hp} {s : Shared} (I : Inv X pl σ H s) : Inv { X with pn := X.pn ++ pl } [] σ H s :=
  ⟨⟨I.ok.mod, I.ok.kind, I.ok.glob, I.ok.blt, I.ok.above, I.ok.inj, I.ok.has, I.ok.cab, I.ok.hd, I.ok.frames, I.ok.stk, I.ok.exf, I.ok.bs, I.ok.bsz, I.ok.noex, I.ok.exfs, I.ok.funs, I.ok.frf⟩,
    I.os, I.bare, I.base, I.loc, I.cell, I.free, I.freeC, fun p hp => I.pin p (by simpa using hp), I.hok, I.len⟩
theorem Inv.pnTo {X : Cx} (ok : X.Ok) {pl : List (Addr × Obj)} {σ : L2.St} {H : Hp} {s : Shared} (I : Inv { X with pn := X.pn ++ pl } [] σ H s) : Inv X pl σ H s :=
  ⟨ok, I.os, I.bare, I.base, I.loc, I.cell, I.free, I.freeC, fun p hp => I.pin p (by simpa using hp), I.hok, I.len⟩
section
variable {X : Cx}
theorem lcH_core {pins : List (Addr × Obj)} {s : Shared} {σ : L2.St} {H : Hp} {Q : VK} {elt tg iter : Expr} {ifs : List Expr} {scope : Scope} {own : List (Str × Nat)} {pos pos' : Pos} {wi : TI} {g : TG} {tt : TT} {te : TE} {use : Option (Value → Sem Unit)} {Qf : Value → Shared → Prop}
    (hot : HotC X) (hN : X.N.Nodup) (I : Inv X pins σ H s) (hi : PIH X tg iter wi) (ok : BlkOk X.N X.env.scope scope own)
    (hg : ∀ (s : Shared) (H : Hp) (C : Addr) (cl : List (Str × Addr)) (fp : List Addr), PG (X.blk s H scope (compEnvC scope cl C X.env) fp) tg g)
    (ht : ∀ (s : Shared) (H : Hp) (C : Addr) (cl : List (Str × Addr)) (fp : List Addr), PTs (X.blk s H scope (compEnvC scope cl C X.env) fp) ifs tt)
    (he : ∀ (s : Shared) (H : Hp) (C : Addr) (cl : List (Str × Addr)) (fp : List Addr), PE (X.blk s H scope (compEnvC scope cl C X.env) fp) elt te)
    (hs : ∀ x, foldedSetIterable iter X.env x = pure x) (h : tLc wi g tt te (own.map (·.2)) σ H Q)
    (hend : ∀ D C s' m H', Inv X pins σ H' s' → Q (.ref D) H' → s'.heap.Ns C m → FpOk X pins H' C → compPost (model X.prog X.w) X.A X.xe use Qf (.ref D) C (.ok .next) s') :
    wpAny (model X.prog X.w) X.A (comprehension (.ListComp elt [⟨tg, iter, ifs, 0⟩] scope pos) scope X.env pos' (newList []) false (eval iter X.env) use) Qf X.xe s := by
  obtain ⟨p, hp1, hpm⟩ := hot
  have caps : ∀ y ∈ scope.names, y.2 = .free → ∃ c, X.env.cells.lookup y.1 = some c := fun y hy e => (ok.free y hy e).elim (fun k => I.ok.has _ (.inl k)) fun k => I.ok.has _ (.inr k)
  refine wpAny_comprehension_free (use := use) rfl hs (closure_ok caps) ok.kind (fun y hy e => by rw [ok.uniq y hy, e]) (thn (hi.run pins s σ H _ I h) fun xv s1 hx => thn hx fun itv s2 h2 => ?_)
  obtain ⟨it, fp, tn, J, H2, e, I2, T, st2, f2, q⟩ := h2
  subst e
  refine wpAny_newObj_type (newEnv_comp ?_) (by show 0 ≤ sizeLine; decide)
  generalize eD : s2.heap.objs.size = D
  have nD : H2 D = none := I2.hok.fresh (Nat.le_of_eq eD)
  obtain ⟨W, ⟨m0, w0⟩, turn⟩ := q D nD
  have old : ∀ b o, s2.heap.get? b = some o → (s2.heap.push { cls := .type "list", data := .seq ([] : List Value).toArray }).get? b = some o := fun b o e => Heap.get?_push_of_some _ e
  generalize es3 : ({ s2 with heap := s2.heap.push { cls := .type "list", data := .seq ([] : List Value).toArray } } : Shared) = s3
  have eh3 : s3.heap = s2.heap.push { cls := .type "list", data := .seq ([] : List Value).toArray } := by rw [← es3]
  have I3 : Inv X pins σ (upd H2 D (.lst [])) s3 := by
    rw [← es3]
    refine I2.laid (t' := s2.toks) old (Nat.le_of_eq eD) ⟨Nat.zero_le _, [], 0, .nil, ?_⟩
    rw [← eD]
    exact Heap.get?_push_size _ rfl
  have below : ∀ b ∈ fp, b < s2.heap.objs.size := fun b hb => let ⟨o, z, _⟩ := T.obj _ _ st2 b hb; Heap.lt_size z
  have f3 : ∀ b ∈ fp, FpOk X pins (upd H2 D (.lst [])) b ∧ b < s3.heap.objs.size := fun b hb => by
    have lt := below b hb
    refine ⟨⟨?_, (f2 b hb).2⟩, by rw [eh3, Heap.size_push]; exact Nat.lt_succ_of_lt lt⟩
    rw [upd_ne (by rw [← eD]; exact Nat.ne_of_lt lt)]
    exact (f2 b hb).1
  have st3 : tn 0 s3.heap := T.keep _ _ _ st2 fun b _ o z => by rw [eh3]; exact old b o z
  have I4a := block_start I3 ok hN f3
  have P3 := I3.pin p (List.mem_append_left _ hpm)
  generalize hce : compEnvC scope (cellsFrom (s3.heap.objs.size + 1) scope.names (cloFrom X.env.cells scope.names [])) s3.heap.objs.size X.env = ce at I4a
  have cL : ce.locals = s3.heap.objs.size := by subst hce; rfl
  have cE : compEnvC scope (cellsFrom (s3.heap.objs.size + 1) scope.names (cloFrom X.env.cells scope.names [])) s3.heap.objs.size X.env = ce := hce
  generalize hH3 : upd H2 D (.lst []) = H3 at I3 I4a w0 f3 P3
  have pg := hg s3 H3 s3.heap.objs.size (cellsFrom (s3.heap.objs.size + 1) scope.names (cloFrom X.env.cells scope.names [])) fp
  have pt := ht s3 H3 s3.heap.objs.size (cellsFrom (s3.heap.objs.size + 1) scope.names (cloFrom X.env.cells scope.names [])) fp
  have pe := he s3 H3 s3.heap.objs.size (cellsFrom (s3.heap.objs.size + 1) scope.names (cloFrom X.env.cells scope.names [])) fp
  rw [cE] at pg pt pe
  show codeAny _ _ (.compStart (.ListComp elt [⟨tg, iter, ifs, 0⟩] scope pos) 0 (.ref it) (.ref D) (compEnvC scope (cellsFrom (s3.heap.objs.size + 1) scope.names (cloFrom X.env.cells scope.names [])) s3.heap.objs.size X.env)) (compPost (model X.prog X.w) X.A X.xe use Qf (.ref D) s3.heap.objs.size) { s3 with heap := pushCells (s3.heap.push { cls := .type "dict", data := .dict #[] }) scope.names }
  rw [cE]
  have nfp : ∀ b ∈ fp, H3 b = none := fun b hb => (f3 b hb).1.1
  generalize es4 : ({ s3 with heap := pushCells (s3.heap.push { cls := .type "dict", data := .dict #[] }) scope.names } : Shared) = s4 at I4a ⊢
  have k34 : ∀ b o, s3.heap.get? b = some o → s4.heap.get? b = some o := fun b o z => by rw [← es4]; exact pushCells_keeps _ _ _ _ (Heap.get?_push_of_some _ z)
  have st4 : tn 0 s4.heap := T.keep _ _ _ st3 fun b _ o z => k34 b o z
  -- the handled exception is pinned in the block's states
  have offs : p.1 ∉ frs X.stack := fun hm => (List.mem_cons.mp (I3.stkSub p.1 hm)).elim P3.2.2.1 P3.2.2.2.1
  have pinned : ∀ {σ' : L2.St} {H' : Hp} {s' : Shared}, Inv (X.blk s3 H3 scope ce fp) [] σ' H' s' → s'.heap.get? p.1 = some p.2 → H' p.1 = none → Inv (X.blk s3 H3 scope ce fp) [p] σ' H' s' := fun {σ' H' s'} B g1 n1 =>
    ⟨B.ok, B.os, B.bare, B.base, B.loc, B.cell, B.free, B.freeC, fun z hz => by
      have ez : z = p := by simpa using hz
      rw [ez]
      exact ⟨g1, n1, fun y => by rw [cL] at y; exact absurd (y ▸ Heap.lt_size P3.1) (Nat.lt_irrefl _), offs, P3.2.2.2.2⟩, B.hok, B.len⟩
  have I4 : Inv (X.blk s3 H3 scope ce fp) [p] (wipe σ (own.map (·.2))) H3 s4 := pinned I4a (k34 _ _ P3.1) P3.2.1
  have hotB : HotC { X.blk s3 H3 scope ce fp with pn := [] ++ [p] } := ⟨p, hp1, by simp⟩
  have stat : ∀ {σ' : L2.St} {H' : Hp} {s' : Shared}, Inv (X.blk s3 H3 scope ce fp) [p] σ' H' s' → (∀ b ∈ fp, H' b = none) → ∀ b ∈ fp, FpOk { X.blk s3 H3 scope ce fp with pn := [] ++ [p] } [] H' b := fun {σ' H' s'} B n b hb =>
    ⟨n b hb, (B.ok.exf b hb).1, B.ok.exfs b hb, .inl hb, fun x c z => (B.ok.exf b hb).2 x c z, fun z hz => by
      have ez : z = p := by simpa using hz
      rw [ez]
      exact (f3 b hb).1.2.2.2.2.2 p (List.mem_append_left _ hpm)⟩
  have stat2 : ∀ {σ' : L2.St} {H' : Hp} {s' : Shared}, Inv (X.blk s3 H3 scope ce fp) [p] σ' H' s' → (∀ b ∈ fp, H' b = none) → ∀ b ∈ fp, FpOk (X.blk s3 H3 scope ce fp) [p] H' b := fun {σ' H' s'} B n b hb =>
    ⟨n b hb, (B.ok.exf b hb).1, B.ok.exfs b hb, .inl hb, fun x c z => (B.ok.exf b hb).2 x c z, fun z hz => by
      have ez : z = p := by simpa using hz
      rw [ez]
      exact (f3 b hb).1.2.2.2.2.2 p (List.mem_append_left _ hpm)⟩
  have loop : codeAny (model X.prog X.w) X.A (.compLoop (.ListComp elt [⟨tg, iter, ifs, 0⟩] scope pos) 0 (.ref it) (.ref D) ce) (compPost (model X.prog X.w) X.A X.xe use Qf (.ref D) s3.heap.objs.size) s4 := by
    refine compLoop_any (fun n s' => ∃ i H', Inv (X.blk s3 H3 scope ce fp) [p] (wipe σ (own.map (·.2))) H' s' ∧ tn i s'.heap ∧ (∀ b ∈ fp, H' b = none) ∧ W i n H') ?_ m0 ⟨0, H3, I4, st4, nfp, w0⟩
    rintro n s5 ⟨i, H5, I5, st5, n5, w5⟩
    rcases turn i n H5 w5 with ⟨stop, qq⟩ | ⟨go, Nx, hNx, step⟩
    · have td := T.done { X.blk s3 H3 scope ce fp with pn := [] ++ [p] } rfl rfl rfl hotB i [] s5 _ H5 (fun _ _ => False) (Inv.pnOf I5) (stat I5 n5) st5 stop
      refine thnF td fun r s6 ⟨hr, I6z⟩ => ?_
      subst hr
      have I6 := Inv.pnTo (X := X.blk s3 H3 scope ce fp) I5.ok I6z
      have I7 : Inv X pins σ H5 s6 := I3.call' (ch := fp) I6.os I6.base I6.hok I6.bare fun b hb => ⟨(f3 b hb).1.2.2.2.1, (f3 b hb).1.2.1, (f3 b hb).1.2.2.2.2.1, (f3 b hb).1.2.2.2.2.2⟩
      have nC : H5 s3.heap.objs.size = none := by
        have z : H5 ce.locals = none := I6.free
        rw [cL] at z
        exact z
      obtain ⟨m, hn, _⟩ := I6.loc
      have hn : s6.heap.Ns ce.locals m := hn
      rw [cL] at hn
      exact hend D s3.heap.objs.size s6 m H5 I7 qq hn (I3.fpOk (Nat.le_refl _) nC)
    · have ti := T.item { X.blk s3 H3 scope ce fp with pn := [] ++ [p] } rfl rfl rfl hotB i [] s5 _ H5 (fun _ _ => False) (Inv.pnOf I5) (stat I5 n5) st5 go
      refine thnF ti fun r s6 ⟨u, hr, h6⟩ => ?_
      subst hr
      refine thnF h6 fun _ s7 ⟨x, H7, I7z, r7, y7, st7, n7⟩ => ?_
      have I7 := Inv.pnTo (X := X.blk s3 H3 scope ce fp) I5.ok I7z
      have I7' := I7.pinned (stat2 I7 n7) (T.obj _ _ st7)
      refine thnF (pg.run _ s7 _ H7 x u _ I7' r7 (step x H7 y7)) fun _ s8 ⟨σ8, H8, I8, hw8, q8⟩ => ?_
      refine thnF (pt.run _ s8 σ8 H8 _ I8 q8) fun b s9 ⟨H9, I9, q9⟩ => ?_
      have again : ∀ {s' : Shared} {H' : Hp}, Inv (X.blk s3 H3 scope ce fp) ([p] ++ pinsAt fp s7.heap) σ8 H' s' → Nx H' → ∃ m, m < n ∧ ∃ i H', Inv (X.blk s3 H3 scope ce fp) [p] (wipe σ (own.map (·.2))) H' s' ∧ tn i s'.heap ∧ (∀ b ∈ fp, H' b = none) ∧ W i m H' := fun {s' H'} B nx => by
        obtain ⟨m', hm, w'⟩ := hNx H' nx
        have at' : ∀ b ∈ fp, ∀ o, s7.heap.get? b = some o → s'.heap.get? b = some o ∧ H' b = none := fun b hb o z =>
          let y := B.pin (b, o) (List.mem_append_right _ (List.mem_append_right _ (mem_pinsAt hb z)))
          ⟨y.1, y.2.1⟩
        have hl : (wipe σ (own.map (·.2))).length = σ8.length := by rw [← hw8, wipe_length]
        refine ⟨m', hm, i + 1, H', (B.unpinned (pins := [p])).weak hl (fun j v z => ?_), T.keep _ _ _ st7 fun b hb o z => (at' b hb o z).1, fun b hb => ?_, w'⟩
        · rw [← hw8] at z
          exact (wipe_some z).1
        · obtain ⟨o, z, _⟩ := T.obj _ _ st7 b hb
          exact (at' b hb o z).2
      cases b with
      | false =>
        simp only [Bool.false_eq_true, if_false] at q9 ⊢
        exact again I9 q9
      | true =>
        simp only [if_true] at q9 ⊢
        refine thnF (pe.run _ s9 σ8 H9 _ I9 q9) fun z s10 ⟨yv, H10, I10, r10, acc, hD10, hz10, nx⟩ => ?_
        exact app_ok (X := X.blk s3 H3 scope ce fp) I10 hD10 hz10 r10 fun s11 I11 => again I11 nx
  exact codeAny_compStart_list loop (T.self X.A 0 _ _ _ st4 loop)
theorem pe_lcH {elt tg iter : Expr} {ifs : List Expr} {scope : Scope} {own : List (Str × Nat)} {pos : Pos} {wi : TI} {g : TG} {tt : TT} {te : TE} (hot : HotC X) (hN : X.N.Nodup) (hi : PIH X tg iter wi) (ok : BlkOk X.N X.env.scope scope own)
    (hg : ∀ (s : Shared) (H : Hp) (C : Addr) (cl : List (Str × Addr)) (fp : List Addr), PG (X.blk s H scope (compEnvC scope cl C X.env) fp) tg g)
    (ht : ∀ (s : Shared) (H : Hp) (C : Addr) (cl : List (Str × Addr)) (fp : List Addr), PTs (X.blk s H scope (compEnvC scope cl C X.env) fp) ifs tt)
    (he : ∀ (s : Shared) (H : Hp) (C : Addr) (cl : List (Str × Addr)) (fp : List Addr), PE (X.blk s H scope (compEnvC scope cl C X.env) fp) elt te) (hs : ∀ x, foldedSetIterable iter X.env x = pure x := by intro _; rfl) :
    PE X (.ListComp elt [⟨tg, iter, ifs, 0⟩] scope pos) (tLc wi g tt te (own.map (·.2))) := by
  refine ⟨fun pins s σ H Q I h => ?_⟩
  rw [eval_ListComp]
  refine lcH_core hot hN I hi ok hg ht he hs h fun D C s' m H' I' q hn f => ⟨m, hn, fun h'' sb => ?_⟩
  obtain ⟨f0, f1, f2, f3, f4, f5⟩ := f
  exact ⟨.ref D, H', I'.turned (t' := s'.toks) (fun b o hb e => (sb.2 b hb).trans e) f0 f1 f3 f4 f5, rfl, q⟩
end
end Xq
/-! Xj: defs that are handed the handled exception; isinstance and fields of it, in its suite and in such a def. -/
namespace Xq
open PySem PySem.Spec PyProof.Rows L2 HotX L2H
/-! ### a promise that knows the handled exception p -/
structure FnP (P : Program) (w : World) (K : PySem.W.Frag) (mg : Str → Option Value) (base : Heap) (CX : CXT) (k : Nat) (f : Addr) (fd : FuncData) (ps : List Str) (sp : Addr × Obj → Sp) : Prop where
  len : ∀ p vs H Q E, sp p vs H Q E → vs.length = ps.length
  run : ∀ (A : Around) (outer : List Env) (s : Shared) (H : Hp) (args : Args) (us : List Value) (vs : List V) (Q : VK) (E : XK) (p : Addr × Obj), RoomH k A → Hot1 A p → PinOk outer H s p → Env0 P w K mg base A outer s H → BindsTo s fd args (ps.zip us) → Vals vs us → sp p vs H Q E →
    codeAny (model P w) A (.call (.ref f) args) (CR CX outer P w H s Q E) s
structure OkP (P : Program) (w : World) (K : PySem.W.Frag) (mg : Str → Option Value) (base : Heap) (CX : CXT) (k : Nat) (x : Str) (ps : List Str) (sp : Addr × Obj → Sp) : Prop where
  ex : ∃ (f : Addr) (fd : FuncData), FnP P w K mg base CX k f fd ps sp ∧ Binds K fd ps [] ∧ PySem.W.keepIn K (.ref f) = true ∧ mg x = some (.ref f)
section
variable {P : Program} {w : World} {K : PySem.W.Frag} {mg : Str → Option Value} {base : Heap} {x : Str} {st : Stmt} {f : Addr} {fd : FuncData} {N ps : List Str} {k : Nat} {sp : Addr × Obj → Sp}
theorem okP0 (D : Dd K mg x st f fd) (S : FnScope N ps (defScope st)) (b : Binds K fd ps []) (len : ∀ p vs H Q E, sp p vs H Q E → vs.length = ps.length)
    (body : ∀ (cdv : Value) (A : Around) (outer : List Env) (s : Shared) (H : Hp) (vs : List V) (Q : VK) (E : XK) (p : Addr × Obj), Hot1 A p → RoomH k (A.deeper (envOfC x (defScope st) s.heap.objs.size f cdv)) → sp p vs H Q E →
      ∃ t, PSs (cxH CX0 P w K mg base N x (defScope st) f cdv A outer s H E p).nox (defBody st) t ∧ t { nx := fun _ H' => Q .non H', rt := Q } (L2.start N vs) H) : OkP P w K mg base CX0 (k + 1) x ps sp := by
  obtain ⟨oc, od, dV, kV, doc, pm, an, cdv, ct, osl, rfl, lk, hcd, _, _⟩ := D.fn.ex
  refine ⟨f, _, ⟨len, fun A outer s H args us vs Q E p hr hot hpin e0 hb r hsp => ?_⟩, b, D.fn.kp, D.g⟩
  have hl := len _ _ _ _ _ hsp
  have inK : K.In s.heap := e0.mod.kin.keeps fun b o e => (e0.bs b o e).1
  have free : s.heap.NoLimit := e0.mod.nolimit.keeps fun b o e => (e0.bs b o e).1
  have kinds : ∀ y ∈ ps.zip us, (defScope st).names.lookup y.1 = some .local ∨ ((defScope st).names.lookup y.1 = some .cell ∧ ((cellsFrom (s.heap.objs.size + 1) (defScope st).names []).lookup y.1).isSome = true) := fun y hy => by
    obtain ⟨n, v⟩ := y
    exact (S.par n (List.of_mem_zip hy).1).elim .inl fun q => .inr ⟨q, PySem.W.cellsFrom_some _ _ _ (.inl q)⟩
  refine codeAny_call_function hr.depth (inK _ _ lk) rfl S.co S.gen rfl (PySem.W.codeRec_of inK hcd) (hb _ _ _ _ ?_)
  refine wpAny_newFunctionEnv_cells S.kind kinds fun env he s1 y => ?_
  subst he
  refine ⟨free.keeps y.toInCall.keep, codeAny_func ?_⟩
  obtain ⟨t, ht0, hq⟩ := body cdv A outer s H vs Q E p hot (hr.deeper _) hsp
  have ht := ht0.nox
  have I : Inv (cxH CX0 P w K mg base N x (defScope st) f cdv A outer s H E p) [] (L2.start N vs) H s1 := inv_startH S hpin e0 hl r y
  refine wpAny_mono (ht.run [] s1 (L2.start N vs) H _ I hq) (fun fl s' hs => ?_) fun e s' hs => hs
  have fin : ∀ {σ' : L2.St} {H' : Hp} {v : V} {u : Value}, Inv (cxH CX0 P w K mg base N x (defScope st) f cdv A outer s H E p) [] σ' H' s' → RelV v u → Q v H' → CE outer P w H s Q u s' :=
    fun {σ' H' v u} J rv q => ⟨v, H', J.os, J.bare, J.base, J.hok, rv, q⟩
  cases fl with
  | next => exact let ⟨_, _, J, q⟩ := hs; fin (v := V.non) (u := Value.none) J rfl q
  | ret u => exact let ⟨_, _, _, J, rv, q⟩ := hs; fin J rv q
  | brk => exact let ⟨_, _, _, q⟩ := hs; False.elim q
  | cont => exact let ⟨_, _, _, q⟩ := hs; False.elim q
end
/-- f(e, ..), by a promise that a promise about p follows from -/
def tCallA (sq : List V → Hp → VK → Prop) (t : TA) : TE := fun σ H Q => t σ H fun vs H1 => sq vs H1 Q
/-- f(e, ..), handed the handled exception p -/
def tCallP (sp : Addr × Obj → Sp) (p : Addr × Obj) (t : TA) : TE := fun σ H Q => t σ H fun vs H1 => sp p vs H1 Q E0
section
variable {X : Cx} {k : Nat} {x : Str} {ps : List Str} {sp : Addr × Obj → Sp} {q pos : Pos} {e : Expr} {es : List Expr} {t : TA} {p : Addr × Obj}
theorem pe_callQ {sq : List V → Hp → VK → Prop} (o : OkP X.prog X.w X.K X.mg X.base CX0 k x ps sp) (hr : RoomH k X.A) (hot : Hot1 X.A p) (hp : p ∈ X.pn) (conv : ∀ vs H Q, sq vs H Q → sp p vs H Q E0) (ha : PA X (e :: es) t) (hg : Gl X x := by rfl) (hdb : (x == ("__debug__" : Str)) = false := by decide)
    (he : starEach (e :: es) X.env = (false, eval e X.env) :: starEach es X.env := by rfl) (hpl : (backTo pos (starEach es X.env)).any (·.1) = false := by rfl) : PE X (.Call (.Name x q) (e :: es) [] pos) (tCallA sq t) := by
  obtain ⟨f, fd, F, hb, kp, hm⟩ := o.ex
  refine ⟨fun pins s σ H Q I h => ?_⟩
  refine wpAny_Call_Name_kw (ld_glob I hg hm ?_ hdb)
  refine PySem.W.callWith_K (h₀ := X.base) I.ok.mod.kin kp (thn (ha.run pos pins s σ H _ I h) fun us s1 ⟨vs, H1, I1, r, q1⟩ => ⟨I1.kIn, ?_⟩) he hpl
  have hl : us.length = ps.length := by
    rw [← r.length]
    exact F.len _ _ _ _ _ (conv _ _ _ q1)
  have b := hb s1 us I1.kIn (by rw [List.append_nil]; exact hl)
  rw [List.append_nil] at b
  have P1 := I1.pin p (List.mem_append_left _ hp)
  have pin : PinOk X.stack H1 s1 p := ⟨P1.1, P1.2.1, fun hm => (List.mem_cons.mp (I1.stkSub p.1 hm)).elim P1.2.2.1 P1.2.2.2.1, P1.2.2.2.2⟩
  refine wpAny_call (codeAny_mono (F.run X.A X.stack s1 H1 ⟨us, []⟩ us vs Q E0 p hr hot pin I1.env0 b r (conv _ _ _ q1)) fun r s' hq => ?_)
  cases r with
  | error e => exact False.elim hq
  | ok fl =>
    cases fl with
    | ret u => exact I1.after hq
    | next => exact False.elim hq
    | brk => exact False.elim hq
    | cont => exact False.elim hq
theorem pe_callP (o : OkP X.prog X.w X.K X.mg X.base CX0 k x ps sp) (hr : RoomH k X.A) (hot : Hot1 X.A p) (hp : p ∈ X.pn) (ha : PA X (e :: es) t) (hg : Gl X x := by rfl) (hdb : (x == ("__debug__" : Str)) = false := by decide)
    (he : starEach (e :: es) X.env = (false, eval e X.env) :: starEach es X.env := by rfl) (hpl : (backTo pos (starEach es X.env)).any (·.1) = false := by rfl) : PE X (.Call (.Name x q) (e :: es) [] pos) (tCallP sp p t) :=
  pe_callQ (sq := fun vs H Q => sp p vs H Q E0) o hr hot hp (fun _ _ _ h => h) ha hg hdb he hpl
/-! ### the handled exception asked -/
/-- p's object: an instance of the class at D, its dict at d -/
structure Hx (p : Addr × Obj) (D d : Addr) : Prop where
  c : p.2.cls = .ref D
  d : p.2.dict = some d
  f : ∃ vs : Array Value, p.2.data = .fields vs ∧ vs[2]? = some .none
theorem Hx.hot {A : Around} {D d : Addr} (h : Hx p D d) (e : A.handled = some (.ref p.1)) : Hot1 A p := ⟨e, h.f⟩
theorem hx_of {oe : Obj} {a D d : Addr} (z : L2N.Zn (.ref D) (some d) oe) (hf : ∃ vs, oe.data = .fields vs) : Hx (a, oe) D d := by
  obtain ⟨vs, e⟩ := hf
  exact ⟨z.1, z.2.1, vs, e, z.2.2 vs e⟩
theorem inst_of {pins : List (Addr × Obj)} {σ : L2.St} {H : Hp} {s : Shared} {D d : Addr} {fs : List (Str × V)} (I : Inv X pins σ H s) (hp : p ∈ X.pn) (h : Hx p D d) (hd : H d = some (.xd fs)) : ∃ od, PySem.W.InstAt s.heap p.1 p.2 D (some od) ∧
    ∃ mA : Str → Option Value, (∀ f, RelO (fs.lookup f) (mA f)) ∧ ∀ n, PySem.W.lookIn n od = some (mA n) := by
  obtain ⟨g, _⟩ := I.pin p (List.mem_append_left _ hp)
  obtain ⟨vs, e, _⟩ := h.f
  have hx : ObjOk X.prog X.w H s.heap d (.xd fs) := I.hok d _ hd
  obtain ⟨mA, hns, hr⟩ := hx
  obtain ⟨od, ho, hl⟩ := lookIn_ns hns
  exact ⟨od, ⟨g, h.c, by unfold PySem.W.notCls; rw [e] <;> rfl, by rw [h.d]; exact ho⟩, mA, hr, hl⟩
theorem exc_cls {K : PySem.W.Frag} {D : Addr} (C : ExcC K D) : (PySem.W.clsIn K D).isSome = true := by
  obtain ⟨cd, hc, _⟩ := PySem.W.any_some C.hd
  rw [hc] <;> rfl
/-- isinstance(x, c) of it -/
def rIsP (K : PySem.W.Frag) (a D d : Addr) : List V → Hp → VK → Prop := fun xs H Q => ∃ (c : V) (cv : Value) (b : Bool) (fs : List (Str × V)), xs = [.ref a, c] ∧ (∀ u, RelV c u → u = cv) ∧ H d = some (.xd fs) ∧ PySem.W.kitOne K (.ref D) cv = some b ∧ Q (.bl b) H
theorem call_isP {D d : Addr} (hp : p ∈ X.pn) (h : Hx p D d) (C : ExcC X.K D) : CallR X (.builtin "isinstance") (rIsP X.K p.1 D d) := by
  intro pins s σ H xs us Q I r hh
  obtain ⟨c, cv, b, fs, rfl, hcv, hd, e, q⟩ := hh
  obtain ⟨u1, u2, rfl, r1, r2⟩ := vals2 r
  cases r1
  obtain rfl := hcv _ r2
  obtain ⟨od, J, _⟩ := inst_of I hp h hd
  exact PySem.W.kia_one (PySem.W.kitx_exc (exc_cls C) C.hg C.hk C.hs C.ha C.hn C.ht C.hm) I.kIn J e (fun z => nomatch z) fun tk => ⟨.bl b, H, I.kept (t' := tk) fun _ _ z => z, rfl, q⟩
/-- isinstance(x, (A, B, ..)) of it -/
def rIsPT (K : PySem.W.Frag) (a D d : Addr) : List V → Hp → VK → Prop := fun xs H Q => ∃ (tp : Addr) (cs : List V) (ws : List Value) (b : Bool) (fs : List (Str × V)), xs = [.ref a, .ref tp] ∧ H tp = some (.tup cs) ∧ (∀ us, Vals cs us → us = ws) ∧ H d = some (.xd fs) ∧ PySem.W.kitAny K (.ref D) ws = some b ∧ Q (.bl b) H
theorem call_isPT {D d : Addr} (hp : p ∈ X.pn) (h : Hx p D d) (C : ExcC X.K D) : CallR X (.builtin "isinstance") (rIsPT X.K p.1 D d) := by
  intro pins s σ H xs us Q I r hh
  obtain ⟨tp, cs, ws, b, fs, rfl, htp, hcs, hd, e, q⟩ := hh
  obtain ⟨u1, u2, rfl, r1, r2⟩ := vals2 r
  cases r1
  cases r2
  obtain ⟨od, J, _⟩ := inst_of I hp h hd
  have hx : ObjOk X.prog X.w H s.heap tp (.tup cs) := I.hok tp _ htp
  obtain ⟨_, its, rv, o, go, co, n, dt⟩ := hx
  obtain rfl := hcs _ rv
  obtain ⟨oc, od', odt, osl⟩ := o
  simp only at co dt
  subst co dt
  exact PySem.W.kia_tup (PySem.W.kitx_exc (exc_cls C) C.hg C.hk C.hs C.ha C.hn C.ht C.hm) I.kIn J go e (fun z => nomatch z) fun tk => ⟨.bl b, H, I.kept (t' := tk) fun _ _ z => z, rfl, q⟩
/-- x.f of it -/
def tXfP (a D d : Addr) (f : Str) (te : TE) : TE := fun σ H Q => te σ H fun x H1 => x = .ref a ∧ ∃ (fs : List (Str × V)) (v : V), H1 d = some (.xd fs) ∧ fs.lookup f = some v ∧ Q v H1
theorem pe_xfP {D d : Addr} {e : Expr} {te : TE} {n : Str} (hp : p ∈ X.pn) (h : Hx p D d) (C : ExcC X.K D) (hno : PySem.W.findIn X.K (.ref D) n = some none) (he : PE X e te) (hb : attributeBase e n X.env (eval e X.env) = eval e X.env := by rfl) :
    PE X (.Attribute e n pos) (tXfP p.1 D d n te) := by
  refine ⟨fun pins s σ H Q I hh => ?_⟩
  refine attr_of hb (thn (he.run pins s σ H _ I hh) fun u s1 h1 => ?_)
  obtain ⟨x, H1, I1, rx, ex, fs, v, hd, l, q⟩ := h1
  subst ex
  obtain rfl : u = Value.ref p.1 := rx
  obtain ⟨od, J, mA, hr, hl⟩ := inst_of I1 hp h hd
  obtain ⟨u, hu, ru⟩ := RelO.some_of (v := v) (o := mA n) (by rw [← l]; exact hr n)
  exact HandSPX.exc_get I1.kIn J C.hg C.hk C.hs (PySem.W.findObj_own C.hd hno rfl (by rw [hl, hu])) (handed_of ru) ⟨v, H1, I1.tok _, ru, q⟩
/-! ### the same, told of a = p's place (no object in the reading) -/
theorem pe_callA {sq : List V → Hp → VK → Prop} {a : Addr} {oe : Obj} (o : OkP X.prog X.w X.K X.mg X.base CX0 k x ps sp) (hr : RoomH k X.A) (hot : Hot1 X.A (a, oe)) (hp : (a, oe) ∈ X.pn) (conv : ∀ vs H Q, sq vs H Q → sp (a, oe) vs H Q E0) (ha : PA X (e :: es) t) (hg : Gl X x := by rfl) (hdb : (x == ("__debug__" : Str)) = false := by decide)
    (he : starEach (e :: es) X.env = (false, eval e X.env) :: starEach es X.env := by rfl) (hpl : (backTo pos (starEach es X.env)).any (·.1) = false := by rfl) : PE X (.Call (.Name x q) (e :: es) [] pos) (tCallA sq t) :=
  pe_callQ o hr hot hp conv ha hg hdb he hpl
theorem pe_xfA {a D d : Addr} {oe : Obj} {e : Expr} {te : TE} {n : Str} (hp : (a, oe) ∈ X.pn) (h : Hx (a, oe) D d) (C : ExcC X.K D) (hno : PySem.W.findIn X.K (.ref D) n = some none) (he : PE X e te) (hb : attributeBase e n X.env (eval e X.env) = eval e X.env := by rfl) :
    PE X (.Attribute e n pos) (tXfP a D d n te) := pe_xfP hp h C hno he hb
theorem call_isA {a D d : Addr} {oe : Obj} (hp : (a, oe) ∈ X.pn) (h : Hx (a, oe) D d) (C : ExcC X.K D) : CallR X (.builtin "isinstance") (rIsP X.K a D d) := call_isP hp h C
theorem call_isAT {a D d : Addr} {oe : Obj} (hp : (a, oe) ∈ X.pn) (h : Hx (a, oe) D d) (C : ExcC X.K D) : CallR X (.builtin "isinstance") (rIsPT X.K a D d) := call_isPT hp h C
theorem takes0N : L2N.Takes X (fun _ _ _ _ => False) := fun _ _ ⟨_, _, _, _, _, _, _, _, _, _, _, _, _, _, _, _, w⟩ => w.elim
end
end Xq
/-! Xs: data at any depth (Dp) for the law's own comparing: kinds, kids, how many nodes; isinstance, len and items of such data. -/
namespace Xq
open PySem PySem.Spec PyProof.Rows L2
/-! ### kinds -/
def tyN : PyData → String
  | .none => "NoneType" | .bool _ => "bool" | .int _ => "int" | .str _ => "str" | .list _ => "list" | .tuple _ => "tuple" | .dict _ => "NoneType"
def isTup : PyData → Bool
  | .tuple _ => true | _ => false
def isLst : PyData → Bool
  | .list _ => true | _ => false
def isBl : PyData → Bool
  | .bool _ => true | _ => false
def isSt : PyData → Bool
  | .str _ => true | _ => false
def isIn : PyData → Bool
  | .int _ => true | .bool _ => true | _ => false
def kids : PyData → List PyData
  | .list xs => xs | .tuple xs => xs | _ => []
theorem kit_tup : ∀ d : PyData, kitB (tyN d) "tuple" = some (isTup d)
  | .none => (by decide +kernel : kitB "NoneType" "tuple" = some false)
  | .bool _ => (by decide +kernel : kitB "bool" "tuple" = some false)
  | .int _ => (by decide +kernel : kitB "int" "tuple" = some false)
  | .str _ => (by decide +kernel : kitB "str" "tuple" = some false)
  | .list _ => (by decide +kernel : kitB "list" "tuple" = some false)
  | .tuple _ => (by decide +kernel : kitB "tuple" "tuple" = some true)
  | .dict _ => (by decide +kernel : kitB "NoneType" "tuple" = some false)
theorem kit_lst : ∀ d : PyData, kitB (tyN d) "list" = some (isLst d)
  | .none => (by decide +kernel : kitB "NoneType" "list" = some false)
  | .bool _ => (by decide +kernel : kitB "bool" "list" = some false)
  | .int _ => (by decide +kernel : kitB "int" "list" = some false)
  | .str _ => (by decide +kernel : kitB "str" "list" = some false)
  | .list _ => (by decide +kernel : kitB "list" "list" = some true)
  | .tuple _ => (by decide +kernel : kitB "tuple" "list" = some false)
  | .dict _ => (by decide +kernel : kitB "NoneType" "list" = some false)
theorem kit_bl : ∀ d : PyData, kitB (tyN d) "bool" = some (isBl d)
  | .none => (by decide +kernel : kitB "NoneType" "bool" = some false)
  | .bool _ => (by decide +kernel : kitB "bool" "bool" = some true)
  | .int _ => (by decide +kernel : kitB "int" "bool" = some false)
  | .str _ => (by decide +kernel : kitB "str" "bool" = some false)
  | .list _ => (by decide +kernel : kitB "list" "bool" = some false)
  | .tuple _ => (by decide +kernel : kitB "tuple" "bool" = some false)
  | .dict _ => (by decide +kernel : kitB "NoneType" "bool" = some false)
theorem kit_st : ∀ d : PyData, kitB (tyN d) "str" = some (isSt d)
  | .none => (by decide +kernel : kitB "NoneType" "str" = some false)
  | .bool _ => (by decide +kernel : kitB "bool" "str" = some false)
  | .int _ => (by decide +kernel : kitB "int" "str" = some false)
  | .str _ => (by decide +kernel : kitB "str" "str" = some true)
  | .list _ => (by decide +kernel : kitB "list" "str" = some false)
  | .tuple _ => (by decide +kernel : kitB "tuple" "str" = some false)
  | .dict _ => (by decide +kernel : kitB "NoneType" "str" = some false)
theorem kit_in : ∀ d : PyData, kitB (tyN d) "int" = some (isIn d)
  | .none => (by decide +kernel : kitB "NoneType" "int" = some false)
  | .bool _ => (by decide +kernel : kitB "bool" "int" = some true)
  | .int _ => (by decide +kernel : kitB "int" "int" = some true)
  | .str _ => (by decide +kernel : kitB "str" "int" = some false)
  | .list _ => (by decide +kernel : kitB "list" "int" = some false)
  | .tuple _ => (by decide +kernel : kitB "tuple" "int" = some false)
  | .dict _ => (by decide +kernel : kitB "NoneType" "int" = some false)
/-! ### how many nodes -/
mutual
def nd : PyData → Nat
  | .list xs => 1 + ndL xs
  | .tuple xs => 1 + ndL xs
  | _ => 1
def ndL : List PyData → Nat
  | [] => 0
  | x :: r => nd x + ndL r
end
theorem nd_pos (d : PyData) : 1 ≤ nd d := by cases d <;> simp [nd]
theorem nd_kids {d : PyData} (h : (isTup d || isLst d) = true) : nd d = 1 + ndL (kids d) := by cases d <;> simp_all [isTup, isLst, nd, kids]
def work : List (PyData × PyData) → Nat
  | [] => 0
  | p :: r => nd p.2 + work r
theorem work_app : ∀ a b : List (PyData × PyData), work (a ++ b) = work a + work b
  | [], b => by simp [work]
  | p :: a, b => by simp only [List.cons_append, work, work_app a b]; omega
theorem work_zip : ∀ (ds es : List PyData), ds.length = es.length → work (ds.zip es) = ndL es
  | [], [], _ => rfl
  | d :: ds, e :: es, h => by simp only [List.zip_cons_cons, work, ndL, work_zip ds es (by simpa using h)]
  | [], _ :: _, h => by simp at h
  | _ :: _, [], h => by simp at h
theorem work_len : ∀ l : List (PyData × PyData), l.length ≤ work l
  | [] => Nat.le_refl _
  | p :: r => by
    have := nd_pos p.2
    have := work_len r
    simp only [List.length_cons, work]
    omega
theorem zip_eq : ∀ (ds es : List PyData), ds.length = es.length → (ds = es ↔ ∀ p ∈ ds.zip es, p.1 = p.2)
  | [], [], _ => by simp
  | d :: ds, e :: es, h => by simp [zip_eq ds es (by simpa using h)]
  | [], _ :: _, h => by simp at h
  | _ :: _, [], h => by simp at h
theorem kind_eq {d e : PyData} (h1 : isTup e = isTup d) (h2 : isLst e = isLst d) (hs : (isTup e || isLst e) = true) : d = e ↔ kids d = kids e := by
  cases e <;> cases d <;> simp_all [isTup, isLst, kids]
/-! ### Dp stays -/
section
variable {K : PySem.W.Frag} {H H' : Hp}
theorem sqT_same {a : Addr} {xs : List V} (s : Same H H') (h : SqT K H a xs) : SqT K H' a xs := by
  rcases h with (h | ⟨o, h⟩) | h
  · exact .inl (.inl (s _ _ h))
  · exact .inl (.inr ⟨o, s _ _ h⟩)
  · exact .inr h
mutual
theorem dp_same (s : Same H H') : ∀ {d : PyData} {v : V}, Dp K H v d → Dp K H' v d
  | .none, _, .non => .non
  | .bool _, _, .bl b => .bl b
  | .int _, _, .int i => .int i
  | .str _, _, .str x => .str x
  | .list ds, _, .lst h a => .lst (s.seq h) (dpAll_same s a)
  | .tuple ds, _, .tup h a => .tup (sqT_same s h) (dpAll_same s a)
theorem dpAll_same (s : Same H H') : ∀ {ds : List PyData} {vs : List V}, DpAll K H vs ds → DpAll K H' vs ds
  | [], _, .nil => .nil
  | _ :: _, _, .cons h t => .cons (dp_same s h) (dpAll_same s t)
end
theorem dp_ty {x : V} {d : PyData} (h : Dp K H x d) : TyX K H x (.type (tyN d)) := by
  cases h with
  | non => exact .base .non
  | bl b => exact .base (.bl b)
  | int i => exact .base (.int i)
  | str z => exact .base (.str z)
  | lst h _ =>
    rcases h with (h | ⟨o, h⟩) | ⟨o, its, n, h, c, _⟩
    · exact .base (.lst h)
    · exact .base (.frz h)
    · exact .kList h c
  | tup h _ =>
    rcases h with (h | ⟨o, h⟩) | ⟨o, its, n, h, c, _⟩
    · exact .base (.tup h)
    · exact .fTuple h
    · exact .kTuple h c
theorem kit_seqT (d : PyData) : PySem.W.kitAny K (.type (tyN d)) [.type "tuple", .type "list"] = some (isTup d || isLst d) := by
  refine kitAny_cons (kit_ty (kit_tup d)) (fun e => ?_) (fun e => by rw [e] <;> rfl)
  rw [e, Bool.false_or]
  exact kitAny_cons (kit_ty (kit_lst d)) (fun e2 => by rw [e2] <;> rfl) (fun e2 => e2)
theorem cls2 {a b : String} : Paired ClsV [.ty a, .ty b] [.type a, .type b] := .cons (.ty _) (.cons (.ty _) .nil)
theorem ty_at {x : V} {d : PyData} (h : Dp K H x d) (s : Same H H') : TyX K H' x (.type (tyN d)) := dp_ty (dp_same s h)
theorem dp_non {x : V} {d : PyData} (h : Dp K H x d) : x = .non ↔ d = .none := by
  cases h <;> simp
theorem dp_seq {x : V} {d : PyData} (h : Dp K H x d) (k : (isTup d || isLst d) = true) : ∃ a xs, x = .ref a ∧ (SqL K H a xs ∨ SqT K H a xs) ∧ DpAll K H xs (kids d) := by
  cases h with
  | lst h1 h2 => exact ⟨_, _, rfl, .inl h1, h2⟩
  | tup h1 h2 => exact ⟨_, _, rfl, .inr h1, h2⟩
  | _ => cases k
theorem dpAll_len : ∀ {ds : List PyData} {vs : List V}, DpAll K H vs ds → vs.length = ds.length
  | _, _, .nil => rfl
  | _, _, .cons _ t => congrArg Nat.succ (dpAll_len t)
theorem dpAll_get : ∀ {ds : List PyData} {vs : List V}, DpAll K H vs ds → ∀ (i : Nat) (d : PyData), ds[i]? = some d → ∃ v, vs[i]? = some v ∧ Dp K H v d
  | _, _, .nil, i, d, e => by simp at e
  | _, _, .cons h _, 0, d, e => by
    simp at e
    subst e
    exact ⟨_, rfl, h⟩
  | _, _, .cons _ t, i + 1, d, e => dpAll_get t i d (by simpa using e)
theorem sq_same {a : Addr} {xs : List V} (s : Same H H') (h : SqL K H a xs ∨ SqT K H a xs) : SqL K H' a xs ∨ SqT K H' a xs := h.imp s.seq (sqT_same s)
theorem len_rd {a : Addr} {xs : List V} (h : SqL K H a xs ∨ SqT K H a xs) : LenV K (.ref a) H xs.length := h.imp (fun h => ⟨xs, h, rfl⟩) fun h => ⟨xs, h, rfl⟩
theorem ix_rd {a : Addr} {xs : List V} {i : Nat} {v : V} {Q : VK} (h : SqL K H a xs ∨ SqT K H a xs) (g : xs[i]? = some v) (q : Q v H) : rIx K (.ref a) (.int (i : Int)) H Q := by
  rcases h with h | h
  · exact .inl ⟨_, _, _, _, rfl, rfl, h, atI_nat g, q⟩
  · exact .inr (.inl ⟨_, _, _, _, rfl, rfl, h, atI_nat g, q⟩)
/-- leaves compared -/
theorem leaf_ne {x y : V} {d e : PyData} (hx : Dp K H x d) (hy : Dp K H y e) (n : e ≠ .none) (s : (isTup e || isLst e) = false) (b : isBl e = isBl d) (t : isSt e = isSt d) (i : isSt e = true ∨ isIn d = true) : scal x y = true ∧ (x = y ↔ d = e) := by
  cases hy <;> cases hx <;> simp_all [isTup, isLst, isBl, isSt, isIn, scal]
end
theorem paired_snoc {α β : Type} {R : α → β → Prop} : ∀ {xs : List α} {ys : List β} {x : α} {y : β}, Paired R xs ys → R x y → Paired R (xs ++ [x]) (ys ++ [y])
  | _, _, _, _, .nil, h => .cons h .nil
  | _, _, _, _, .cons a t, h => .cons a (paired_snoc t h)
theorem paired_last {α β : Type} {R : α → β → Prop} : ∀ {xs : List α} {ys : List β}, Paired R xs ys → xs ≠ [] → ∃ xs' x ys' y, xs = xs' ++ [x] ∧ ys = ys' ++ [y] ∧ Paired R xs' ys' ∧ R x y
  | _, _, .nil, h => absurd rfl h
  | [x], [y], .cons a .nil, _ => ⟨[], x, [], y, rfl, rfl, .nil, a⟩
  | x :: x2 :: xs, y :: y2 :: ys, .cons a (.cons b t), _ => by
    obtain ⟨xs', u, ys', v, e1, e2, p, r⟩ := paired_last (.cons b t : Paired R (x2 :: xs) (y2 :: ys)) (List.cons_ne_nil _ _)
    exact ⟨x :: xs', u, y :: ys', v, by rw [e1]; rfl, by rw [e2]; rfl, .cons a p, r⟩
theorem paired_map2 {α β : Type} {R S : α → β → Prop} : ∀ {xs : List α} {ys : List β}, (∀ a b, a ∈ xs → R a b → S a b) → Paired R xs ys → Paired S xs ys
  | _, _, _, .nil => .nil
  | _, _, f, .cons a t => .cons (f _ _ List.mem_cons_self a) (paired_map2 (fun x y h r => f x y (List.mem_cons_of_mem _ h) r) t)
theorem paired_map {α β : Type} {R S : α → β → Prop} (f : ∀ a b, R a b → S a b) : ∀ {xs : List α} {ys : List β}, Paired R xs ys → Paired S xs ys
  | _, _, .nil => .nil
  | _, _, .cons a t => .cons (f _ _ a) (paired_map f t)
end Xq
namespace Xq
open PySem PySem.Spec PyProof.Rows L2
/-! ### data without lists stays where a list is changed -/
mutual
def flatT : PyData → Bool
  | .list _ => false
  | .dict _ => false
  | .tuple xs => flatTs xs
  | _ => true
def flatTs : List PyData → Bool
  | [] => true
  | x :: r => flatT x && flatTs r
end
section
variable {K : PySem.W.Frag} {H : Hp}
theorem sqT_put {a p : Addr} {xs : List V} {o u : HO} (hp : H p = some u) (n1 : ∀ ys, u ≠ .tup ys) (n2 : ∀ ob z, u ≠ .frz ob z) (h : SqT K H a xs) : SqT K (upd H p o) a xs := by
  rcases h with (h | ⟨ob, h⟩) | h
  · exact .inl (.inl (by rw [upd_ne (fun z => n1 xs (Option.some.inj (by rw [← hp, ← z, h])))]; exact h))
  · exact .inl (.inr ⟨ob, by rw [upd_ne (fun z => n2 ob _ (Option.some.inj (by rw [← hp, ← z, h])))]; exact h⟩)
  · exact .inr h
mutual
theorem dp_put {p : Addr} {o u : HO} (hp : H p = some u) (n1 : ∀ ys, u ≠ .tup ys) (n2 : ∀ ob z, u ≠ .frz ob z) : ∀ {d : PyData} {v : V}, flatT d = true → Dp K H v d → Dp K (upd H p o) v d
  | .none, _, _, .non => .non
  | .bool _, _, _, .bl b => .bl b
  | .int _, _, _, .int i => .int i
  | .str _, _, _, .str x => .str x
  | .list _, _, f, .lst _ _ => nomatch f
  | .tuple ds, _, f, .tup h a => .tup (sqT_put hp n1 n2 h) (dpAll_put hp n1 n2 (by simpa [flatT] using f) a)
theorem dpAll_put {p : Addr} {o u : HO} (hp : H p = some u) (n1 : ∀ ys, u ≠ .tup ys) (n2 : ∀ ob z, u ≠ .frz ob z) : ∀ {ds : List PyData} {vs : List V}, flatTs ds = true → DpAll K H vs ds → DpAll K (upd H p o) vs ds
  | [], _, _, .nil => .nil
  | _ :: _, _, f, .cons h t => .cons (dp_put hp n1 n2 (Bool.and_eq_true_iff.mp (show (flatT _ && flatTs _) = true from f)).1 h) (dpAll_put hp n1 n2 (Bool.and_eq_true_iff.mp (show (flatT _ && flatTs _) = true from f)).2 t)
end
theorem sqL_upd {a p : Addr} {xs : List V} {o u : HO} (hp : H p = some u) (n0 : ∀ ys, u ≠ .lst ys) (n2 : ∀ ob z, u ≠ .frz ob z) (h : SqL K H a xs) : SqL K (upd H p o) a xs := by
  rcases h with (h | ⟨ob, h⟩) | h
  · exact .inl (.inl (by rw [upd_ne (fun z => n0 xs (Option.some.inj (by rw [← hp, ← z, h])))]; exact h))
  · exact .inl (.inr ⟨ob, by rw [upd_ne (fun z => n2 ob _ (Option.some.inj (by rw [← hp, ← z, h])))]; exact h⟩)
  · exact .inr h
mutual
/-- data stays where something else is changed -/
theorem dp_upd {p : Addr} {o u : HO} (hp : H p = some u) (n0 : ∀ ys, u ≠ .lst ys) (n1 : ∀ ys, u ≠ .tup ys) (n2 : ∀ ob z, u ≠ .frz ob z) : ∀ {d : PyData} {v : V}, Dp K H v d → Dp K (upd H p o) v d
  | .none, _, .non => .non
  | .bool _, _, .bl b => .bl b
  | .int _, _, .int i => .int i
  | .str _, _, .str x => .str x
  | .list _, _, .lst h a => .lst (sqL_upd hp n0 n2 h) (dpAll_upd hp n0 n1 n2 a)
  | .tuple _, _, .tup h a => .tup (sqT_put hp n1 n2 h) (dpAll_upd hp n0 n1 n2 a)
theorem dpAll_upd {p : Addr} {o u : HO} (hp : H p = some u) (n0 : ∀ ys, u ≠ .lst ys) (n1 : ∀ ys, u ≠ .tup ys) (n2 : ∀ ob z, u ≠ .frz ob z) : ∀ {ds : List PyData} {vs : List V}, DpAll K H vs ds → DpAll K (upd H p o) vs ds
  | [], _, .nil => .nil
  | _ :: _, _, .cons h t => .cons (dp_upd hp n0 n1 n2 h) (dpAll_upd hp n0 n1 n2 t)
end
theorem lst_tup {xs ys : List V} : HO.lst xs ≠ .tup ys := fun z => nomatch z
theorem lst_frz {xs : List V} {o : Obj} {u : HO} : HO.lst xs ≠ .frz o u := fun z => nomatch z
theorem dpAll_snoc : ∀ {ds : List PyData} {vs : List V} {d : PyData} {v : V}, DpAll K H vs ds → Dp K H v d → DpAll K H (vs ++ [v]) (ds ++ [d])
  | _, _, _, _, .nil, h => .cons h .nil
  | _, _, _, _, .cons a t, h => .cons a (dpAll_snoc t h)
theorem flatTs_app : ∀ (a b : List PyData), flatTs (a ++ b) = (flatTs a && flatTs b)
  | [], b => rfl
  | x :: a, b => by simp only [List.cons_append, flatTs, flatTs_app a b, Bool.and_assoc]
end
/-- statements whose derivation wants a fact that their reading asks -/
theorem pss_ex {α : Type} {X : Cx} {sts : List Stmt} {p : α → Prop} {t : α → TS} (h : ∀ a, p a → PSs X sts (t a)) : PSs X sts (fun D σ H => ∃ a, p a ∧ t a D σ H) :=
  ⟨fun pins s σ H D I ⟨a, pa, q⟩ => (h a pa).run pins s σ H D I q⟩
/-- list(xs), its reading by name -/
def rListOf (K : PySem.W.Frag) : List V → Hp → VK → Prop := fun xs H Q => ∃ p ys, xs = [.ref p] ∧ (SqL K H p ys ∨ SqT K H p ys) ∧ ∀ l, H l = none → Q (.ref l) (upd H l (.lst ys))
theorem call_listK {X : Cx} : CallR X (.type "list") (rListOf X.K) := call_list_of
theorem pass0S {X : Cx} (σ : L2.St) : PassesAt CX0 X σ E0 := fun _ _ _ _ _ _ h => h.elim
end Xq
/-! Xt: sets of texts that can be walked: add, comprehensions, sorted. -/
namespace Xq
open PySem PySem.Spec PyProof.Rows L2
/-! ### a set at a that can be walked, its entries es -/
def Wk (w : World) (h : Heap) (a : Addr) (es : Array (Int × Value)) : Prop := ∃ (o : Obj) (ep : Nat) (t : SetTable), h.get? a = some o ∧ o.ExactSet ∧ o.data = .set es ep t ∧ es.size < scanBound ∧ t.fits es.size = true ∧ Ris t.place.toList ∧ (w.params.followText "set-order" = true ∨ t.led = true)
/-- an entry of a text -/
def GoodT (w : World) (e : Int × Value) : Prop := ∃ (k : Str) (u : Tok), e = (hashStr w k, .str k u)
def txtOf (e : Int × Value) : Str := match e.2 with
  | .str k _ => k
  | _ => ⟨#[]⟩
theorem goodT_is {P : Program} {w : World} {e : Int × Value} (g : GoodT w e) (k : Str) : (strKind P w).is k e.2 = true ↔ txtOf e = k := by
  obtain ⟨k0, u, rfl⟩ := g
  show Value.isStrOf k (.str k0 u) = true ↔ k0 = k
  unfold Value.isStrOf
  constructor
  · intro h
    simpa using h
  · intro h
    simp [h]
theorem goodT_el {P : Program} {w : World} {l : List (Int × Value)} (g : ∀ e ∈ l, GoodT w e) : ElemsOf (strKind P w) l := fun e he => by
  obtain ⟨k, u, rfl⟩ := g e he
  exact ⟨⟨k, (goodT_is ⟨k, u, rfl⟩ k).mpr rfl, rfl⟩, rfl⟩
section
variable {P : Program} {w : World} {A : Around} {E : Value → Shared → Prop} {s : Shared} {a : Addr}
/-- the entries es1 laid, the table grown where it is too full -/
theorem wk_lay {gv : Bool → Sem Unit} (hgv : ∀ (b : Bool) (sx : Shared) (Qx : Unit → Shared → Prop), Qx () sx → wpAny (model P w) A (gv b) Qx E sx) {o : Obj} {es es1 : Array (Int × Value)} {ep : Nat} {t t2 : SetTable} {dum : Bool} {R : Option Bool → Shared → Prop}
    (ho : s.heap.get? a = some o) (hx : o.ExactSet) (hd : o.data = .set es ep t) (sz : es1.size < scanBound) (fit : t2.fits es1.size = true) (ris : Ris t2.place.toList) (led : w.params.followText "set-order" = true ∨ t2.led = true)
    (hR : ∀ hp es2, Heap.SameBut a s.heap hp → Wk w hp a es2 → es2.toList.Perm es1.toList → R (some true) { s with heap := hp }) :
    wpAny (model P w) A (do
        storeSet a es1 t2
        if (!dum && t2.tooFull) = true then do
            gv (relayAll t2 es1 (SetTable.grown es1.size)).2.2
            storeSet a (relayAll t2 es1 (SetTable.grown es1.size)).1 (relayAll t2 es1 (SetTable.grown es1.size)).2.1
            pure (some true)
          else pure (some true)) R E s := by
  have o1 := PpSet.storeB_at (es' := es1) (t' := t2) ho hd
  have same1 := Heap.SameBut.update s.heap a (Obj.putSet es1 t2)
  refine wpAny_bind (wpAny_storeSet_of ho hd ?_ (fits_of_scanBound sz))
  by_cases full : (!dum && t2.tooFull) = true
  · rw [if_pos full]
    have e2 : (relayAll t2 es1 (SetTable.grown es1.size)).1.size = es1.size := by
      rw [← Array.length_toList, (relayAll_perm t2 es1 (SetTable.grown es1.size)).length_eq, Array.length_toList]
    refine wpAny_bind (hgv _ _ _ (wpAny_bind (wpAny_storeSet_of o1 rfl (wpAny_pure (hR _ (relayAll t2 es1 (SetTable.grown es1.size)).1 (same1.trans (Heap.SameBut.update _ a _)) ?_ (relayAll_perm t2 es1 _))) (fits_of_scanBound (by rw [e2]; exact sz)))))
    exact ⟨_, _, _, PpSet.storeB_at o1 rfl, hx, rfl, by rw [e2]; exact sz, relayAll_fits t2 es1 _, relayAll_ris t2 es1 _, led.imp id fun z => (relayAll_led t2 es1 _).trans z⟩
  · rw [if_neg full]
    exact wpAny_pure (hR _ es1 same1 ⟨_, _, t2, o1, hx, rfl, sz, fit, ris, led⟩ (List.Perm.refl _))
/-- a text put in -/
theorem wk_put {es : Array (Int × Value)} {k : Str} {u : Tok} {Q : Bool → Shared → Prop} (W : Wk w s.heap a es) (g : ∀ e ∈ es.toList, GoodT w e) (room : es.size + 1 < scanBound)
    (hQ : ∀ b hp es2, Heap.SameBut a s.heap hp → Wk w hp a es2 → ((k ∈ es.toList.map txtOf ∧ es2 = es) ∨ (k ∉ es.toList.map txtOf ∧ es2.toList.Perm ((hashStr w k, .str k u) :: es.toList))) → Q b { s with heap := hp }) :
    wpAny (model P w) A (setAddHashed a (.str k u) ((strKind P w).hash k)) Q E s := by
  obtain ⟨o, ep, t, ho, hx, hd, sz, fit, ris, led⟩ := id W
  have isk : (strKind P w).is k (.str k u) = true := (goodT_is (e := (hashStr w k, .str k u)) ⟨k, u, rfl⟩ k).mpr rfl
  have el : ElemsOf (strKind P w) es.toList := goodT_el g
  have scn : (Value.str k u).scannable = true := rfl
  have inl : (∃ e ∈ es.toList, (strKind P w).is k e.2 = true) ↔ k ∈ es.toList.map txtOf := by
    rw [List.mem_map]
    exact ⟨fun ⟨e, he, q⟩ => ⟨e, he, (goodT_is (g e he) k).mp q⟩, fun ⟨e, he, q⟩ => ⟨e, he, (goodT_is (g e he) k).mpr q⟩⟩
  unfold setAddHashed setAddHashedIn
  refine wpAny_holding (wpAny_bind (wpAny_setState_of ho hd fit ?_))
  dsimp only
  rw [byScan_of scn sz el]
  simp only [↓reduceIte]
  unfold setAddByScan
  refine wpAny_bind (wpAny_bind (wpAny_rule (wpAny_bind (wpAny_setScan_of isk ho hd fit el ?_))))
  cases found : List.findIdx? (fun e => (strKind P w).is k e.2) es.toList with
  | some j =>
    obtain ⟨hj, pj, _⟩ := List.findIdx?_eq_some_iff_getElem.mp found
    exact wpAny_pure (wpAny_pure (hQ _ s.heap es (Heap.SameBut.refl a s.heap) W (.inl ⟨inl.mp ⟨_, List.getElem_mem hj, pj⟩, rfl⟩)))
  | none =>
    have out : k ∉ es.toList.map txtOf := fun z => by
      obtain ⟨e, he, q⟩ := inl.mpr z
      rw [List.findIdx?_eq_none_iff.mp found e he] at q
      cases q
    dsimp only
    have pm := layNew_perm t es ((strKind P w).hash k) (.str k u)
    have f1 := layNew_fits t es ((strKind P w).hash k) (.str k u)
    have r1 := layNew_ris t es ((strKind P w).hash k) (.str k u) ris
    have l1 := layNew_led t es ((strKind P w).hash k) (.str k u)
    generalize layNew t es ((strKind P w).hash k) (.str k u) = Z at pm f1 r1 l1 ⊢
    obtain ⟨es1, t1, dum, gave⟩ := Z
    dsimp only at pm f1 r1 l1 ⊢
    have pc : es1.toList.Perm ((hashStr w k, .str k u) :: es.toList) := by
      rw [Array.toList_push] at pm
      exact pm.trans (List.perm_append_singleton _ _)
    have sz1 : es1.size < scanBound := by
      rw [← Array.length_toList, pc.length_eq, List.length_cons, Array.length_toList]
      exact room
    have led1 : w.params.followText "set-order" = true ∨ t1.led = true := led.imp id fun z => l1.trans z
    have gv : ∀ (b : Bool) (sx : Shared) (Qx : Unit → Shared → Prop), Qx () sx → wpAny (model P w) A (match b with | true => rule "set.scan.the-table-gave-way" | false => pure ()) Qx E sx := fun b sx Qx q => by
      cases b
      · exact wpAny_pure q
      · exact wpAny_rule q
    have fin : ∀ (b : Bool) hp es2, Heap.SameBut a s.heap hp → Wk w hp a es2 → es2.toList.Perm es1.toList → Q b { s with heap := hp } := fun b hp es2 sb W2 p2 => hQ b hp es2 sb W2 (.inr ⟨out, p2.trans pc⟩)
    refine wpAny_bind (gv _ _ _ ?_)
    split
    · refine wpAny_bind ?_
      rw [hashByValue_scannable 8 scn]
      refine wpAny_pure (wk_lay (fun b sx Qx q => by cases b <;> first | exact wpAny_pure q | exact wpAny_rule q) ho hx hd sz1 ?_ ?_ ?_ fun hp es2 sb W2 p2 => by dsimp only; exact wpAny_pure (fin _ hp es2 sb W2 p2))
      · first | (split <;> first | exact f1 | exact SetTable.fits_plain_off f1) | exact f1
      · first | (split <;> exact r1) | exact r1
      · first | (split <;> exact led1) | exact led1
    · refine wpAny_bind (wpAny_pure ?_)
      simp only [↓reduceIte]
      exact wk_lay (fun b sx Qx q => by cases b <;> first | exact wpAny_pure q | exact wpAny_rule q) ho hx hd sz1 f1 r1 led1 fun hp es2 sb W2 p2 => by dsimp only; exact wpAny_pure (fin _ hp es2 sb W2 p2)
end
namespace Tx
/-- the set of the texts l -/
def Is (w : World) (h : Heap) (a : Addr) (l : List Str) : Prop := ∃ es, Wk w h a es ∧ (∀ e ∈ es.toList, GoodT w e) ∧ (es.toList.map txtOf).Perm l ∧ l.Nodup
/-- one text more -/
def ins (k : Str) (l : List Str) : List Str := if k ∈ l then l else k :: l
theorem Is.kept {w : World} {h h' : Heap} {a : Addr} {l : List Str} (R : Is w h a l) (k : ∀ o, h.get? a = some o → h'.get? a = some o) : Is w h' a l := by
  obtain ⟨es, ⟨o, ep, t, ho, r⟩, g⟩ := R
  exact ⟨es, ⟨o, ep, t, k o ho, r⟩, g⟩
theorem Is.obj {w : World} {h : Heap} {a : Addr} {l : List Str} (R : Is w h a l) : ∃ o, h.get? a = some o ∧ o.cls = .type "set" := by
  obtain ⟨es, ⟨o, ep, t, ho, hx, _⟩, _⟩ := R
  exact ⟨o, ho, hx.1⟩
theorem Is.len {w : World} {h : Heap} {a : Addr} {l : List Str} {es : Array (Int × Value)} (p : (es.toList.map txtOf).Perm l) : es.size = l.length := by
  rw [← p.length_eq, List.length_map, Array.length_toList]
theorem Is.fresh {h : Heap} (w : World) : Is w (h.push { cls := .type "set", dict := none, data := .set #[] 0 (.fresh 0 0 (!w.params.followText "set-order")) }) h.objs.size [] :=
  ⟨#[], ⟨_, 0, _, Heap.get?_push_size _ rfl, ⟨rfl, rfl, rfl⟩, rfl, by decide, rfl, List.Pairwise.nil, by
    show _ ∨ (!w.params.followText "set-order") = true
    cases w.params.followText "set-order"
    · exact .inr rfl
    · exact .inl rfl⟩, fun e he => by simp at he, .nil, .nil⟩
section
variable {P : Program} {w : World} {A : Around} {E : Value → Shared → Prop} {s : Shared} {a : Addr} {l : List Str}
/-- found.add(k) -/
theorem add_ok {k : Str} {u : Tok} {Q : Value → Shared → Prop} (R : Is w s.heap a l) (room : l.length + 1 < scanBound) (hQ : ∀ hp, Heap.SameBut a s.heap hp → Is w hp a (ins k l) → Q .none { s with heap := hp, toks := s.toks + 1 }) :
    wpAny (model P w) A (call (.builtin "set.add") [.ref a, .str k u]) Q E s := by
  obtain ⟨o, ho, hc⟩ := R.obj
  obtain ⟨es, W, g, pm, nd⟩ := R
  refine wpAny_call_entry F.slot_set_add ⟨o, ho, hc⟩ F.entry_set_add ?_ (F.args_set_add_2 _ _)
  unfold Builtin.«set.add» Builtin.Frozenset.oneOther Builtin.Frozenset.addrOf setAdd
  simp only [List.isEmpty_nil, bind_assoc]
  refine wpAny_bind (wpAny_pure ?_)
  try dsimp only
  refine wpAny_bind (wpAny_pure ?_)
  try dsimp only
  refine wpAny_bind (wpAny_holding (wpAny_bind ((strKind P w).pyHash ((goodT_is (e := (hashStr w k, .str k u)) ⟨k, u, rfl⟩ k).mpr rfl) (wk_put (s := { s with toks := s.toks + 1 }) W g (by rw [Is.len (w := w) (h := s.heap) (a := a) pm]; exact room) fun b hp es2 sb W2 d => ?_))))
  show wpAny _ _ (ret Value.none) _ _ _
  refine wpAny_pure ⟨_, rfl, hQ hp sb ?_⟩
  rcases d with ⟨hm, e2⟩ | ⟨hm, p2⟩
  · unfold ins
    rw [if_pos (pm.mem_iff.mp hm)]
    rw [e2] at W2
    exact ⟨es, W2, g, pm, nd⟩
  · have out : k ∉ l := fun z => hm (pm.mem_iff.mpr z)
    unfold ins
    rw [if_neg out]
    refine ⟨es2, W2, fun e he => ?_, (p2.map txtOf).trans (pm.cons k), List.nodup_cons.mpr ⟨out, nd⟩⟩
    rcases List.mem_cons.mp (p2.mem_iff.mp he) with z | z
    · exact ⟨k, u, z⟩
    · exact g e z
theorem strs_of : ∀ vs : List Value, (∀ v ∈ vs, ∃ k u, v = Value.str k u) → StrsAre vs (vs.map fun v => txtOf (0, v))
  | [], _ => .nil
  | v :: r, h => by
    obtain ⟨k, u, rfl⟩ := h v List.mem_cons_self
    exact .cons k u (strs_of r fun x hx => h x (List.mem_cons_of_mem _ hx))
/-- sorted(found), fewer than 64 members -/
theorem sorted_ok {Q : Value → Shared → Prop} (R : Is w s.heap a l) (hh : A.handled = none) (few : l.length < 64)
    (hQ : ∀ s2 p (out : Array Value) (c : Nat) (ys : List Str), (∀ b o, s.heap.get? b = some o → s2.heap.get? b = some o) → s2.gens = s.gens → s2.os = s.os → s.heap.objs.size ≤ p → s2.heap.get? p = some (seqObj "list" out c) → StrsAre out.toList ys → ys.Perm l → sortedS ys = true → Q (.ref p) s2) :
    wpAny (model P w) A (call (.builtin "sorted") [.ref a]) Q E s := by
  obtain ⟨es, ⟨o, ep, t, ho, hx, hd, sz, fit, ris, led⟩, g, pm, nd⟩ := R
  refine Calls.call_function_entry kind_sorted plain_sorted entry_sorted (args_sorted1 _) ?_
  unfold Builtin.«sorted»
  refine wpAny_bind (m := checkCount "sorted" 1 1 _) (wpAny_pure (wpAny_bind (collect_set (A := A.in1) hh ⟨o, ho, hx.1, hd⟩ fit sz ris led fun s1 vs kept grow g1 o1 pv => ?_)))
  have lv : vs.length = l.length := by rw [pv.length_eq, List.length_map, ← pm.length_eq, List.length_map]
  have sv : StrsAre vs (vs.map fun v => txtOf (0, v)) := strs_of vs fun v hv => by
    obtain ⟨e, he, q⟩ := List.mem_map.mp (pv.mem_iff.mp hv)
    obtain ⟨k, u, z⟩ := g e he
    exact ⟨k, u, by rw [← q, z]⟩
  have pl : (vs.map fun v => txtOf (0, v)).Perm l := by
    have q := pv.map fun v => txtOf (0, v)
    rw [List.map_map] at q
    exact q.trans pm
  refine wpAny_bind (wpAny_newList ?_ (by rw [lv, sizeLine_eq]; omega))
  have oL : (s1.heap.push (seqObj "list" vs.toArray 0)).get? s1.heap.objs.size = some (seqObj "list" vs.toArray 0) := Heap.get?_push_size _ rfl
  refine wpAny_bind (wpAny_holding (wpAny_call_entry slot_list_sort ⟨_, oL, rfl⟩ entry_list_sort (list_sort_treeK strKind_oneLt oL sv.keysOf (fun v₁ v₂ rest e => keyKind_strs (by rw [← e]; exact sv)) (by rw [lv]; exact few) fun st' hp hs => ⟨_, rfl, ?_⟩) (args_list_sort _)))
  obtain ⟨ys, g2, g3, g4⟩ := sorted_out_str sv hp hs
  obtain ⟨c, hc⟩ := sortedHeap_at (vs := vs) (out := (arrOf st').map (·.2)) oL
  refine wpAny_pure ⟨_, rfl, hQ _ s1.heap.objs.size _ c ys (fun b u e => ?_) g1 o1 grow hc g2 (g3.trans pl) g4⟩
  have q := kept b u e
  have lt := Heap.lt_size q
  exact (sortedHeap_old (Nat.ne_of_lt lt) (by rw [size_push']; exact Nat.lt_succ_of_lt lt)).trans (Heap.get?_push_of_some _ q)
end
/-! ### as tracked things -/
def O (w : World) (a : Addr) (l : List Str) : HO := .ext fun h => Is w h a l
theorem o_new {w : World} {P : Program} {H : Hp} {h : Heap} {a : Addr} {l : List Str} (R : Is w h a l) : ObjOk P w H h a (O w a l) := by
  obtain ⟨o, ho, _⟩ := R.obj
  exact ⟨R, ⟨o, ho⟩, fun h1 h2 p k => Is.kept p k⟩
section
variable {X : Cx}
theorem o_get {pins : List (Addr × Obj)} {σ : L2.St} {H : Hp} {s : Shared} {a : Addr} {l : List Str} (I : Inv X pins σ H s) (ha : H a = some (O X.w a l)) : Is X.w s.heap a l := (I.hok a _ ha).1
theorem o_add {pins : List (Addr × Obj)} {σ : L2.St} {H : Hp} {s : Shared} {E : Value → Shared → Prop} {D : Addr} {l : List Str} {y : Str} {u : Tok} {Q : Value → Shared → Prop} (I : Inv X pins σ H s) (hD : H D = some (O X.w D l)) (room : l.length + 1 < scanBound)
    (h : ∀ s', Inv X pins σ (upd H D (O X.w D (ins y l))) s' → Q .none s') : wpAny (model X.prog X.w) X.A (call (.builtin "set.add") [.ref D, .str y u]) Q E s :=
  add_ok (o_get I hD) room fun hp sb new => h _ (I.write (e := D) (t' := s.toks + 1) (by rw [hD]; trivial) (.inl rfl) (fun b v hb hv => (sb.2 b hb).trans hv) (let ⟨o, ho, _⟩ := new.obj; ⟨o, ho⟩) (o_new new))
def rSorted (w : World) : List V → Hp → VK → Prop := fun vs H Q => ∃ (a : Addr) (l : List Str), vs = [V.ref a] ∧ H a = some (O w a l) ∧ l.length < 64 ∧ ∀ (ys : List Str) (p : Addr), ys.Perm l → sortedS ys = true → H p = none → Q (.ref p) (upd H p (.lst (ys.map V.str)))
theorem cr_sorted (hc : X.calm = true) : CallR X (.builtin "sorted") (rSorted X.w) := by
  intro pins s σ H vs us Q I r h
  obtain ⟨a, l, rfl, ha, few, q⟩ := h
  rw [Vals.ref1 r]
  refine sorted_ok (o_get I ha) (I.ok.hd hc) few fun s2 p out c ys kept g o grow hp hS pm srt => ?_
  have np : H p = none := I.hok.fresh grow
  have len : (ys.map V.str).length ≤ sizeLine := by rw [List.length_map, pm.length_eq, sizeLine_eq]; omega
  have J : Inv X pins σ (upd H p (.lst (ys.map V.str))) { s with heap := s2.heap, gens := s2.gens, drawn := s2.drawn, toks := s2.toks } :=
    I.call (ch := []) (Un.laid kept grow np) (I.hok.laid kept grow ⟨len, out.toList, c, vals_of_strs hS, hp⟩) (by rw [g]; exact I.bare) (fun _ z => nomatch z)
  have e : s2 = { s with heap := s2.heap, gens := s2.gens, drawn := s2.drawn, toks := s2.toks } := by
    obtain ⟨h2, g2, d2, t2, o2⟩ := s2
    obtain ⟨h1, g1, d1, t1, o1⟩ := s
    cases o
    rfl
  rw [e]
  exact ⟨.ref p, _, J, rfl, q ys p pm srt np⟩
end
end Tx
namespace Tx
/-! ### {e for x in xs}, e a text -/
def tSc (w : World) (wi : TI) (g : TG) (tt : TT) (te : TE) (vs : List Nat) : TE := fun σ H Q => wi σ H fun J H1 => ∀ D, H1 D = none → ∃ W : Nat → Nat → Hp → Prop, (∃ m, W 0 m (upd H1 D (O w D []))) ∧ ∀ i m H, W i m H →
  (J.stop i H ∧ Q (.ref D) H) ∨ (J.go i H ∧ ∃ Nx : Hp → Prop, (∀ H', Nx H' → ∃ m', m' < m ∧ W (i + 1) m' H') ∧ ∀ x H', J.yld i H x H' → g x (wipe σ vs) H' fun σ2 H2 => wipe σ2 vs = wipe σ vs ∧ tt σ2 H2 fun b H3 =>
    if b = true then te σ2 H3 fun y H4 => ∃ (k : Str) (l : List Str), y = .str k ∧ H4 D = some (O w D l) ∧ l.length + 1 < scanBound ∧ Nx (upd H4 D (O w D (ins k l))) else Nx H3)
section
variable {X : Cx}
theorem sc_core {pins : List (Addr × Obj)} {s : Shared} {σ : L2.St} {H : Hp} {Q : VK} {elt tg iter : Expr} {ifs : List Expr} {scope : Scope} {own : List (Str × Nat)} {pos pos' : Pos} {wi : TI} {g : TG} {tt : TT} {te : TE} {use : Option (Value → Sem Unit)} {Qf : Value → Shared → Prop}
    (hot : X.calm = true) (hN : X.N.Nodup) (I : Inv X pins σ H s) (hi : PI X tg iter wi) (ok : BlkOk X.N X.env.scope scope own)
    (hg : ∀ (s : Shared) (H : Hp) (C : Addr) (cl : List (Str × Addr)) (fp : List Addr), PG (X.blk s H scope (compEnvC scope cl C X.env) fp) tg g)
    (ht : ∀ (s : Shared) (H : Hp) (C : Addr) (cl : List (Str × Addr)) (fp : List Addr), PTs (X.blk s H scope (compEnvC scope cl C X.env) fp) ifs tt)
    (he : ∀ (s : Shared) (H : Hp) (C : Addr) (cl : List (Str × Addr)) (fp : List Addr), PE (X.blk s H scope (compEnvC scope cl C X.env) fp) elt te)
    (hs : ∀ x, foldedSetIterable iter X.env x = pure x) (h : tSc X.w wi g tt te (own.map (·.2)) σ H Q)
    (hend : ∀ D C s' m H', Inv X pins σ H' s' → Q (.ref D) H' → s'.heap.Ns C m → FpOk X pins H' C → compPost (model X.prog X.w) X.A X.xe use Qf (.ref D) C (.ok .next) s') :
    wpAny (model X.prog X.w) X.A (comprehension (.SetComp elt [⟨tg, iter, ifs, 0⟩] scope pos) scope X.env pos' (newSet (.type "set")) false (eval iter X.env) use) Qf X.xe s := by
  have caps : ∀ y ∈ scope.names, y.2 = .free → ∃ c, X.env.cells.lookup y.1 = some c := fun y hy e => (ok.free y hy e).elim (fun k => I.ok.has _ (.inl k)) fun k => I.ok.has _ (.inr k)
  refine wpAny_comprehension_free (use := use) rfl hs (closure_ok caps) ok.kind (fun y hy e => by rw [ok.uniq y hy, e]) (thn (hi.run pins s σ H _ I h) fun xv s1 hx => thn hx fun itv s2 h2 => ?_)
  obtain ⟨it, fp, tn, J, H2, e, I2, T, st2, f2, q⟩ := h2
  subst e
  refine PpSet.newSet_ok (newEnv_comp ?_)
  generalize eD : s2.heap.objs.size = D
  have nD : H2 D = none := I2.hok.fresh (Nat.le_of_eq eD)
  obtain ⟨W, ⟨m0, w0⟩, turn⟩ := q D nD
  generalize es3 : ({ s2 with heap := s2.heap.push { cls := .type "set", dict := none, data := .set #[] 0 (.fresh 0 0 (!X.w.params.followText "set-order")) } } : Shared) = s3
  have eh3 : s3.heap = s2.heap.push { cls := .type "set", dict := none, data := .set #[] 0 (.fresh 0 0 (!X.w.params.followText "set-order")) } := by rw [← es3]
  have I3 : Inv X pins σ (upd H2 D (O X.w D [])) s3 := by
    rw [← es3]
    refine I2.laid (t' := s2.toks) (fun b o z => Heap.get?_push_of_some _ z) (Nat.le_of_eq eD) ?_
    rw [← eD]
    exact o_new (Is.fresh X.w)
  have below : ∀ b ∈ fp, b < s2.heap.objs.size := fun b hb => let ⟨o, z, _⟩ := T.obj _ _ st2 b hb; Heap.lt_size z
  have f3 : ∀ b ∈ fp, FpOk X pins (upd H2 D (O X.w D [])) b ∧ b < s3.heap.objs.size := fun b hb => by
    have lt := below b hb
    refine ⟨⟨?_, (f2 b hb).2⟩, by rw [eh3, Heap.size_push]; exact Nat.lt_succ_of_lt lt⟩
    rw [upd_ne (by rw [← eD]; exact Nat.ne_of_lt lt)]
    exact (f2 b hb).1
  have st3 : tn 0 s3.heap := T.keep _ _ _ st2 fun b _ o z => by rw [eh3]; exact Heap.get?_push_of_some _ z
  have I4 := block_start I3 ok hN f3
  generalize hce : compEnvC scope (cellsFrom (s3.heap.objs.size + 1) scope.names (cloFrom X.env.cells scope.names [])) s3.heap.objs.size X.env = ce at I4
  have cL : ce.locals = s3.heap.objs.size := by subst hce; rfl
  have cE : compEnvC scope (cellsFrom (s3.heap.objs.size + 1) scope.names (cloFrom X.env.cells scope.names [])) s3.heap.objs.size X.env = ce := hce
  generalize hH3 : upd H2 D (O X.w D []) = H3 at I3 I4 w0 f3
  have pg := hg s3 H3 s3.heap.objs.size (cellsFrom (s3.heap.objs.size + 1) scope.names (cloFrom X.env.cells scope.names [])) fp
  have pt := ht s3 H3 s3.heap.objs.size (cellsFrom (s3.heap.objs.size + 1) scope.names (cloFrom X.env.cells scope.names [])) fp
  have pe := he s3 H3 s3.heap.objs.size (cellsFrom (s3.heap.objs.size + 1) scope.names (cloFrom X.env.cells scope.names [])) fp
  rw [cE] at pg pt pe
  show codeAny _ _ (.compStart (.SetComp elt [⟨tg, iter, ifs, 0⟩] scope pos) 0 (.ref it) (.ref D) (compEnvC scope (cellsFrom (s3.heap.objs.size + 1) scope.names (cloFrom X.env.cells scope.names [])) s3.heap.objs.size X.env)) (compPost (model X.prog X.w) X.A X.xe use Qf (.ref D) s3.heap.objs.size) { s3 with heap := pushCells (s3.heap.push { cls := .type "dict", data := .dict #[] }) scope.names }
  rw [cE]
  have nfp : ∀ b ∈ fp, H3 b = none := fun b hb => (f3 b hb).1.1
  generalize es4 : ({ s3 with heap := pushCells (s3.heap.push { cls := .type "dict", data := .dict #[] }) scope.names } : Shared) = s4 at I4 ⊢
  have k34 : ∀ b o, s3.heap.get? b = some o → s4.heap.get? b = some o := fun b o z => by rw [← es4]; exact pushCells_keeps _ _ _ _ (Heap.get?_push_of_some _ z)
  have st4 : tn 0 s4.heap := T.keep _ _ _ st3 fun b _ o z => k34 b o z
  have free : ∀ {σ' : L2.St} {H' : Hp} {s' : Shared}, Inv (X.blk s3 H3 scope ce fp) [] σ' H' s' → (∀ b ∈ fp, H' b = none) → ∀ b ∈ fp, FpOk (X.blk s3 H3 scope ce fp) [] H' b := fun {σ' H' s'} B n b hb =>
    ⟨n b hb, (B.ok.exf b hb).1, B.ok.exfs b hb, .inl hb, fun x c z => (B.ok.exf b hb).2 x c z, fun z hz => nomatch (show z ∈ ([] : List (Addr × Obj)) from by simpa using hz)⟩
  have loop : codeAny (model X.prog X.w) X.A (.compLoop (.SetComp elt [⟨tg, iter, ifs, 0⟩] scope pos) 0 (.ref it) (.ref D) ce) (compPost (model X.prog X.w) X.A X.xe use Qf (.ref D) s3.heap.objs.size) s4 := by
    refine PpSet.compLoopS_any (fun n s' => ∃ i H', Inv (X.blk s3 H3 scope ce fp) [] (wipe σ (own.map (·.2))) H' s' ∧ tn i s'.heap ∧ (∀ b ∈ fp, H' b = none) ∧ W i n H') ?_ m0 ⟨0, H3, I4, st4, nfp, w0⟩
    rintro n s5 ⟨i, H5, I5, st5, n5, w5⟩
    rcases turn i n H5 w5 with ⟨stop, qq⟩ | ⟨go, Nx, hNx, step⟩
    · refine thnF (T.done (X.blk s3 H3 scope ce fp) rfl rfl rfl hot i [] s5 _ H5 (fun _ _ => False) I5 (free I5 n5) st5 stop) fun r s6 ⟨hr, I6⟩ => ?_
      subst hr
      have I7 : Inv X pins σ H5 s6 := I3.call' (ch := fp) I6.os I6.base I6.hok I6.bare fun b hb => ⟨(f3 b hb).1.2.2.2.1, (f3 b hb).1.2.1, (f3 b hb).1.2.2.2.2.1, (f3 b hb).1.2.2.2.2.2⟩
      have nC : H5 s3.heap.objs.size = none := by
        have z : H5 ce.locals = none := I6.free
        rw [cL] at z
        exact z
      obtain ⟨m, hn, _⟩ := I6.loc
      have hn : s6.heap.Ns ce.locals m := hn
      rw [cL] at hn
      exact hend D s3.heap.objs.size s6 m H5 I7 qq hn (I3.fpOk (Nat.le_refl _) nC)
    · refine thnF (T.item (X.blk s3 H3 scope ce fp) rfl rfl rfl hot i [] s5 _ H5 (fun _ _ => False) I5 (free I5 n5) st5 go) fun r s6 ⟨u, hr, h6⟩ => ?_
      subst hr
      refine thnF h6 fun _ s7 ⟨x, H7, I7, r7, y7, st7, n7⟩ => thnF (pg.run _ s7 _ H7 x u _ (I7.pinned (free I7 n7) (T.obj _ _ st7)) r7 (step x H7 y7)) fun _ s8 ⟨σ8, H8, I8, hw8, q8⟩ => ?_
      refine thnF (pt.run _ s8 σ8 H8 _ I8 q8) fun b s9 ⟨H9, I9, q9⟩ => ?_
      have again : ∀ {s' : Shared} {H' : Hp}, Inv (X.blk s3 H3 scope ce fp) ([] ++ pinsAt fp s7.heap) σ8 H' s' → Nx H' → ∃ m, m < n ∧ ∃ i H', Inv (X.blk s3 H3 scope ce fp) [] (wipe σ (own.map (·.2))) H' s' ∧ tn i s'.heap ∧ (∀ b ∈ fp, H' b = none) ∧ W i m H' := fun {s' H'} B nx => by
        obtain ⟨m', hm, w'⟩ := hNx H' nx
        have at' : ∀ b ∈ fp, ∀ o, s7.heap.get? b = some o → s'.heap.get? b = some o ∧ H' b = none := fun b hb o z =>
          let y := B.pin (b, o) (List.mem_append_right _ (List.mem_append_right _ (mem_pinsAt hb z)))
          ⟨y.1, y.2.1⟩
        have hl : (wipe σ (own.map (·.2))).length = σ8.length := by rw [← hw8, wipe_length]
        refine ⟨m', hm, i + 1, H', (B.unpinned (pins := [])).weak hl (fun j v z => ?_), T.keep _ _ _ st7 fun b hb o z => (at' b hb o z).1, fun b hb => ?_, w'⟩
        · rw [← hw8] at z
          exact (wipe_some z).1
        · obtain ⟨o, z, _⟩ := T.obj _ _ st7 b hb
          exact (at' b hb o z).2
      cases b with
      | false =>
        simp only [Bool.false_eq_true, if_false] at q9 ⊢
        exact again I9 q9
      | true =>
        simp only [if_true] at q9 ⊢
        refine thnF (pe.run _ s9 σ8 H9 _ I9 q9) fun z s10 ⟨yv, H10, I10, r10, k, l, ey, hD10, hz10, nx⟩ => ?_
        subst ey
        obtain ⟨tk, rfl⟩ := r10
        exact o_add (X := X.blk s3 H3 scope ce fp) I10 hD10 hz10 fun s11 I11 => again I11 nx
  exact PpSet.codeAny_compStart_set loop (T.self X.A 0 _ _ _ st4 loop)
theorem pe_sc {elt tg iter : Expr} {ifs : List Expr} {scope : Scope} {own : List (Str × Nat)} {pos : Pos} {wi : TI} {g : TG} {tt : TT} {te : TE} (hot : X.calm = true) (hN : X.N.Nodup) (hi : PI X tg iter wi) (ok : BlkOk X.N X.env.scope scope own)
    (hg : ∀ (s : Shared) (H : Hp) (C : Addr) (cl : List (Str × Addr)) (fp : List Addr), PG (X.blk s H scope (compEnvC scope cl C X.env) fp) tg g)
    (ht : ∀ (s : Shared) (H : Hp) (C : Addr) (cl : List (Str × Addr)) (fp : List Addr), PTs (X.blk s H scope (compEnvC scope cl C X.env) fp) ifs tt)
    (he : ∀ (s : Shared) (H : Hp) (C : Addr) (cl : List (Str × Addr)) (fp : List Addr), PE (X.blk s H scope (compEnvC scope cl C X.env) fp) elt te) (hs : ∀ x, foldedSetIterable iter X.env x = pure x := by intro _; rfl) :
    PE X (.SetComp elt [⟨tg, iter, ifs, 0⟩] scope pos) (tSc X.w wi g tt te (own.map (·.2))) := by
  refine ⟨fun pins s σ H Q I h => ?_⟩
  rw [PpSet.eval_SetComp]
  refine sc_core hot hN I hi ok hg ht he hs h fun D C s' m H' I' q hn f => ⟨m, hn, fun h'' sb => ?_⟩
  obtain ⟨f0, f1, f2, f3, f4, f5⟩ := f
  exact ⟨.ref D, H', I'.turned (t' := s'.toks) (fun b o hb e => (sb.2 b hb).trans e) f0 f1 f3 f4 f5, rfl, q⟩
end
/-- over a tuple that the block leaves as it is -/
theorem sc_tup {w : World} {K : PySem.W.Frag} {a : Addr} {xs : List V} {g : TG} {tt : TT} {te : TE} {vs : List Nat} {σ : L2.St} {H1 : Hp} {D : Addr} {Qd : Hp → Prop} (Pv : Nat → Hp → Prop) (h0 : Pv 0 (upd H1 D (O w D []))) (hl : ∀ i H, i ≤ xs.length → Pv i H → SqT K H a xs)
    (step : ∀ i x H, xs[i]? = some x → Pv i H → g x (wipe σ vs) H fun σ2 H2 => wipe σ2 vs = wipe σ vs ∧ tt σ2 H2 fun b H3 =>
      if b = true then te σ2 H3 fun y H4 => ∃ (k : Str) (l : List Str), y = .str k ∧ H4 D = some (O w D l) ∧ l.length + 1 < scanBound ∧ Pv (i + 1) (upd H4 D (O w D (ins k l))) else Pv (i + 1) H3) (fin : ∀ H, Pv xs.length H → Qd H) :
    ∃ W : Nat → Nat → Hp → Prop, (∃ m, W 0 m (upd H1 D (O w D []))) ∧ ∀ i m H, W i m H →
      ((Itt K a).stop i H ∧ Qd H) ∨ ((Itt K a).go i H ∧ ∃ Nx : Hp → Prop, (∀ H', Nx H' → ∃ m', m' < m ∧ W (i + 1) m' H') ∧ ∀ x H', (Itt K a).yld i H x H' → g x (wipe σ vs) H' fun σ2 H2 => wipe σ2 vs = wipe σ vs ∧ tt σ2 H2 fun b H3 =>
        if b = true then te σ2 H3 fun y H4 => ∃ (k : Str) (l : List Str), y = .str k ∧ H4 D = some (O w D l) ∧ l.length + 1 < scanBound ∧ Nx (upd H4 D (O w D (ins k l))) else Nx H3) := by
  refine ⟨fun i m H => m + i = xs.length ∧ Pv i H, ⟨xs.length, rfl, h0⟩, ?_⟩
  rintro i m H ⟨hm, p⟩
  have q := hl i H (by omega) p
  cases m with
  | zero =>
    have e : i = xs.length := by omega
    subst e
    exact .inl ⟨⟨xs, q, Nat.le_refl _⟩, fin H p⟩
  | succ m =>
    have lt : i < xs.length := by omega
    refine .inr ⟨⟨xs, xs[i], q, by simp [lt]⟩, Pv (i + 1), fun H' p' => ⟨m, Nat.lt_succ_self m, by omega, p'⟩, fun x H' y => ?_⟩
    obtain ⟨rfl, y⟩ := y
    exact step i x _ (y xs q) p
end Tx
end Xq
/-! Xv: list(reversed(xs)). -/
namespace Xq
open PySem PySem.Spec PyProof.Rows L2
section
variable {P : Program} {w : World} {A : Around} {E : Value → Shared → Prop} {s : Shared}
theorem call_list_of_rev {it l : Addr} {items : Array Value} {Q : Value → Shared → Prop} (hh : A.handled = none) (hit : s.heap.IsRevIter it l ((items.size : Int) - 1)) (hl : s.heap.IsList l items) (hne : l ≠ it) (hn : items.size ≤ sizeLine)
    (hQ : ∀ (h' : Heap) (tk : Nat) (acc : Array Value) (c : Nat), (∀ b o, b ≠ it → s.heap.get? b = some o → h'.get? b = some o) → h'.get? s.heap.objs.size = some (seqObj "list" acc c) → ItemsOf (fun i v => items[items.size - 1 - i]? = some v) acc items.size →
      Q (.ref s.heap.objs.size) { s with heap := h', toks := tk }) :
    wpAny (model P w) A (call (.type "list") [.ref it]) Q E s := by
  obtain ⟨oi, hoi, _⟩ := id hit
  obtain ⟨ol, hol, _⟩ := id hl
  have nSi : s.heap.objs.size ≠ it := Nat.ne_of_gt (Heap.lt_size hoi)
  have nSl : s.heap.objs.size ≠ l := Nat.ne_of_gt (Heap.lt_size hol)
  refine callType_codes (Q₁ := fun obj s₁ => obj = .ref s.heap.objs.size ∧ s₁ = { s with heap := s.heap.push { cls := .type "list", data := .seq #[] } }) F.called_list (F.typeCall_list_1 _) F.entry_list_init
    (code_list_new _ ⟨rfl, rfl⟩) fun obj s₁ h₁ => ?_
  obtain ⟨rfl, rfl⟩ := h₁
  have hS : (s.heap.push { cls := .type "list", data := .seq #[] }).get? s.heap.objs.size = some { cls := .type "list", data := .seq #[] } := Heap.get?_push_size _ rfl
  refine ⟨⟨_, hS, rfl⟩, F.args_list_init_2 _ _, ?_⟩
  show wpAny _ A.in1.in1 (do let old ← Builtin.List.listItems (.ref s.heap.objs.size); Builtin.List.listUpdate (.ref s.heap.objs.size) (fun _ => #[]); letGo old.toList.reverse; Builtin.List.listExtendWith (.ref s.heap.objs.size) (.ref it) .none) _ _ _
  refine wpAny_bind ?_
  unfold Builtin.List.listItems
  refine wpAny_bind (wpAny_seqItems hS rfl (wpAny_pure ?_))
  show wpAny _ A.in1.in1 (updateSeq s.heap.objs.size (fun _ => #[]) >>= fun _ => letGo (#[] : Array Value).toList.reverse >>= fun _ => Builtin.List.listExtendWith (.ref s.heap.objs.size) (.ref it) .none) _ _ _
  refine wpAny_bind (wpAny_updateSeq hS rfl (wpAny_bind (wpAny_letGo ?_)))
  have hS2 := Heap.get?_update_self (Obj.mapSeq (fun _ => (#[] : Array Value))) hS rfl
  have others : ∀ b o, b ≠ s.heap.objs.size → s.heap.get? b = some o → ((s.heap.push { cls := .type "list", data := .seq #[] }).update s.heap.objs.size (Obj.mapSeq (fun _ => (#[] : Array Value)))).get? b = some o :=
    fun b o hb e => (Heap.get?_update_other _ _ (Ne.symm hb)).trans (Heap.get?_push_of_some _ e)
  generalize hH2 : (s.heap.push { cls := .type "list", data := .seq #[] }).update s.heap.objs.size (Obj.mapSeq (fun _ => (#[] : Array Value))) = h2 at hS2 others
  have hit2 : h2.IsRevIter it l ((items.size : Int) - 1) := hit.at fun o e => others _ _ nSi.symm e
  have hl2 : h2.IsList l items := by
    obtain ⟨o, ho, r⟩ := id hl
    exact ⟨o, others _ _ nSl.symm ho, r⟩
  have hT : ({ s with heap := h2 } : Shared).TypeIs (.ref it) "list_reverseiterator" := Heap.IsRevIter.typeIs (s := { s with heap := h2 }) hit2
  have h1 : Builtin.List.listSameRef (.ref s.heap.objs.size) (.ref it) = false := by simp [Builtin.List.listSameRef, nSi]
  have Wk := (Walks.listRev (prog := P) (w := w) (A := A.in1.in1) hh it l hne items).toS
  have out : s.heap.objs.size ∉ [it, l] := by
    simp only [List.mem_cons, List.not_mem_nil, or_false, not_or]
    exact ⟨nSi, nSl⟩
  unfold Builtin.List.listExtendWith
  refine wpAny_bind (wpAny_typeOf hT ?_)
  rw [if_neg (by rw [h1]; decide)]
  refine wpAny_bind (wpAny_pyIter_revIter (s := { s with heap := h2 }) hit2 (wpAny_bind (wpAny_holding ?_)))
  unfold Builtin.List.listLengthHint
  refine wpAny_bind (wpAny_specialOf hT RT.nolen_lri ?_)
  show wpAny _ A.in1.in1 (specialOf (Value.ref it) (Str.ofString "__length_hint__") >>= _) _ _ _
  refine wpAny_bind (wpAny_specialOf hT RT.hint_lri ?_)
  generalize hid : ("list_reverseiterator.__length_hint__" : String) = id0
  wp_delta
  rw [show splitId id0 = some ("list_reverseiterator", "__length_hint__") from by subst hid; decide +kernel]
  subst hid
  refine wpAny_bind (wpAny_isInstance (b := true) hT (by rw [isSubtype_type]; kernel_rfl) (wpAny_pure ?_))
  rw [if_neg (by decide)]
  have e0 : ((items.size : Nat) : Int) - 1 - ((0 : Nat) : Int) = (items.size : Int) - 1 := by omega
  refine wpAny_pure ⟨plainId_quiet F.plain_extend_loop _, codeAny_extend_loopS Wk hn _ out _ items.size 0 _ _ _ rfl (Nat.zero_le _) ⟨Nat.zero_le _, by rw [e0]; exact hit2, hl2⟩ hS2 (ItemsOf.nil _) fun s3 acc c moved at3 got => ?_⟩
  refine ⟨rfl, ?_⟩
  rw [Moved.eq_with moved]
  refine hQ s3.heap s3.toks acc c (fun b o hb e => moved.heap b o (fun hm => ?_) (others b o (Nat.ne_of_lt (Heap.lt_size e)) e)) at3 got
  rcases List.mem_cons.mp hm with z | z
  · exact absurd (Heap.lt_size e) (by rw [z]; exact Nat.lt_irrefl _)
  · exact hb (List.mem_singleton.mp z)
end
def tLstRev (K : PySem.W.Frag) (te : TE) : TE := fun σ H Q => te σ H fun v H1 => ∃ (a : Addr) (xs : List V), v = .ref a ∧ SqL K H1 a xs ∧ ∀ q, H1 q = none → Q (.ref q) (upd H1 q (.lst xs.reverse))
section
variable {X : Cx}
theorem pe_listrev {e : Expr} {te : TE} {p p2 pos pos2 : Pos} (hm : X.mg "list" = none) (hm2 : X.mg "reversed" = none) (he : PE X e te) (hc : X.calm = true := by rfl) (hg : Gl X "list" := by rfl) (hg2 : Gl X "reversed" := by rfl)
    (hs : starEach [e] X.env = (false, eval e X.env) :: starEach [] X.env := by rfl)
    (hs2 : starEach [.Call (.Name "reversed" p2) [e] [] pos2] X.env = (false, eval (.Call (.Name "reversed" p2) [e] [] pos2) X.env) :: starEach [] X.env := by rfl) :
    PE X (.Call (.Name "list" p) [.Call (.Name "reversed" p2) [e] [] pos2] [] pos) (tLstRev X.K te) := by
  refine ⟨fun pins s σ H Q I h => ?_⟩
  refine Call_ (ld_blt I hg hm boot_list (PyProof.Rows.callWith_type1 (args_cons (Call_ (ld_blt I hg2 hm2 PyProof.Rows.boot_reversed (PyProof.Rows.callWith_type1 (args_cons (thn (he.run pins s σ H _ I h) fun u s1 ⟨v, H1, I1, r1, q1⟩ => args_nil ?_) hs) hs rfl))) hs2) hs2 rfl))
  obtain ⟨a, xs, rfl, hq, q⟩ := q1
  obtain rfl : u = Value.ref a := r1
  obtain ⟨its, rv, pl, hz⟩ := I1.list hq
  have hl := pl.isList
  obtain ⟨ol, hol, _⟩ := id hl
  refine call_reversed_list hl (args_nil (call_list_of_rev (s := { s1 with heap := s1.heap.push (revObj a ((its.toArray.size : Int) - 1)) }) (I1.ok.hd hc) ⟨_, Heap.get?_push_size _ rfl, rfl, rfl⟩ (hl.push _) (Nat.ne_of_lt (Heap.lt_size hol)) (by rw [List.size_toArray, ← rv.length]; exact hz) fun h' tk acc c kept at' got => ?_))
  have sz : s1.heap.objs.size ≤ (s1.heap.push (revObj a ((its.toArray.size : Int) - 1))).objs.size := by
    rw [Heap.size_push]
    exact Nat.le_succ _
  have old : ∀ b o, s1.heap.get? b = some o → h'.get? b = some o := fun b o e => kept b o (Nat.ne_of_lt (Heap.lt_size e)) (Heap.get?_push_of_some _ e)
  exact ⟨.ref _, upd H1 _ (.lst xs.reverse), I1.laid (t' := tk) old sz (show ObjOk X.prog X.w _ _ _ (.lst xs.reverse) from ⟨by rw [List.length_reverse]; exact hz, acc.toList, c, RT.vals_rev rv got, by rw [Array.toArray_toList]; exact at'⟩), rfl, q _ (I1.hok.fresh sz)⟩
end
end Xq
/-! M42: what calls cost, in plain Lean. -/
namespace M42
open PySem PySem.Spec PyProof.Rows L2 Xq
/-! ### texts in order -/
def le (a b : Str) : Prop := a.cps.toList ≤ b.cps.toList
theorem le_refl (a : Str) : le a a := List.le_refl _
theorem le_trans {a b c : Str} (x : le a b) (y : le b c) : le a c := List.le_trans x y
theorem le_anti {a b : Str} (x : le a b) (y : le b a) : a = b := by
  have h := List.le_antisymm x y
  cases a
  cases b
  exact congrArg Str.mk (Array.toList_inj.mp h)
theorem le_of {a b : Str} (h : (!ltCps b.cps.toList a.cps.toList) = true) : le a b := by
  rw [ltCps_eq] at h
  refine List.not_lt.mp fun z => ?_
  rw [decide_eq_true z] at h
  cases h
theorem rising : ∀ (l : List Str) (p : Str), risingS p l = true → (p :: l).Pairwise le
  | [], p, _ => List.pairwise_singleton _ _
  | x :: r, p, h => by
    obtain ⟨h1, h2⟩ := Bool.and_eq_true_iff.mp (show ((!ltCps x.cps.toList p.cps.toList) && risingS x r) = true from h)
    have ih := rising r x h2
    have px := le_of h1
    refine List.pairwise_cons.mpr ⟨fun y hy => ?_, ih⟩
    rcases List.mem_cons.mp hy with e | hy
    · rw [e]
      exact px
    · exact le_trans px ((List.pairwise_cons.mp ih).1 y hy)
theorem sorted_pw : ∀ {l : List Str}, sortedS l = true → l.Pairwise le
  | [], _ => .nil
  | x :: r, h => rising r x h
theorem sorted_eq {ys zs : List Str} (h1 : sortedS ys = true) (h2 : sortedS zs = true) (p : ys.Perm zs) : ys = zs :=
  List.Perm.eq_of_pairwise (le := le) (fun _ _ _ _ => le_anti) (sorted_pw h1) (sorted_pw h2) p
/-- the first bad one of a list in order is the least bad one -/
theorem first_min {ys : List Str} {bad : Str → Prop} {i : Nat} {n : Str} (pw : ys.Pairwise le) (hi : ys[i]? = some n) (ok : ∀ j m, j < i → ys[j]? = some m → ¬ bad m) : ∀ m ∈ ys, bad m → le n m := by
  intro m hm hb
  obtain ⟨j, hj⟩ := List.mem_iff_getElem?.mp hm
  obtain ⟨li, ei⟩ := List.getElem?_eq_some_iff.mp hi
  obtain ⟨lj, ej⟩ := List.getElem?_eq_some_iff.mp hj
  by_cases c : j < i
  · exact absurd hb (ok j m c hj)
  · by_cases e : j = i
    · subst e
      rw [hi] at hj
      cases hj
      exact le_refl _
    · have := List.pairwise_iff_getElem.mp pw i j li lj (by omega)
      rw [ei, ej] at this
      exact this
/-! ### what is due -/
def priceOf (f : Str → Option Int) (n : Str) : Int := (f n).getD 0
inductive IsOut (names : List Str) (f : Str → Option Int) : PyData → Prop
  | bad (n : Str) (h : n ∈ names) (b : f n = none) (m : ∀ x ∈ names, f x = none → le n x) : IsOut names f (.list [.str "BadPrice", .bool true, .str n])
  | told (h : ∀ x ∈ names, f x ≠ none) : IsOut names f (.list [.str "told", .int (names.map (priceOf f)).sum])
theorem isOut_one {names : List Str} {f : Str → Option Int} {d e : PyData} (x : IsOut names f d) (y : IsOut names f e) : d = e := by
  cases x with
  | bad n h b m =>
    cases y with
    | bad n2 h2 b2 m2 => rw [le_anti (m n2 h2 b2) (m2 n h b)]
    | told h2 => exact absurd b (h2 n h)
  | told h =>
    cases y with
    | bad n2 h2 b2 m2 => exact absurd b2 (h n2 h2)
    | told h2 => rfl
theorem isOut_congr {names : List Str} {f g : Str → Option Int} {d : PyData} (e : ∀ n ∈ names, f n = g n) (x : IsOut names f d) : IsOut names g d := by
  cases x with
  | bad n h b m => exact .bad n h ((e n h).symm.trans b) fun x hx hb => m x hx ((e x hx).trans hb)
  | told h =>
    have e2 : names.map (priceOf f) = names.map (priceOf g) := List.map_congr_left fun n hn => by
      unfold priceOf
      rw [e n hn]
    rw [e2]
    exact .told fun x hx => by rw [← e x hx]; exact h x hx
theorem sum_perm {a b : List Int} (p : a.Perm b) : a.sum = b.sum := by
  induction p with
  | nil => rfl
  | cons x _ ih => rw [List.sum_cons, List.sum_cons, ih]
  | swap x y l =>
    simp only [List.sum_cons]
    omega
  | trans _ _ h1 h2 => exact h1.trans h2
/-! ### an item -/
def more (kind price k : Int) : List PyData :=
  if kind = 0 then [] else if kind = 1 then [.str "x"] else if kind = 2 then List.replicate k.toNat (.int 1) else if kind = 3 then [.int (-1), .none, .list [.int 3]]
  else if kind = 4 then List.replicate k.toNat (.int 0) else List.replicate 40 (.int price)
def itemD (kind price k : Int) : PyData :=
  if kind < 6 then .tuple (.int price :: more kind price k)
  else if kind = 6 then .tuple []
  else if kind = 7 then .tuple [.int (0 - 1 - price), .int 1, .int 1]
  else if kind = 8 then .tuple [.bool true, .int 1, .int 1]
  else if kind = 9 then .tuple [.none, .int 1]
  else if kind = 10 then .tuple [.str "5", .int 1]
  else if kind = 11 then .tuple [.list [.int price], .int 1]
  else if kind = 12 then .list [.int price, .int 1, .int 1]
  else if kind = 13 then .int price
  else if kind = 14 then .none
  else if kind = 15 then .str "price"
  else if kind = 16 then .tuple [.tuple [.int price], .int 1]
  else if kind = 17 then .bool false
  else if kind = 18 then .list []
  else .tuple [.bool false, .int 0, .int 1]
/-- the price that an item tells -/
def fine : PyData → Option Int
  | .tuple (.int p :: _) => if p < 0 then none else some p
  | _ => none
theorem fine_ite {c : Prop} [Decidable c] {x y : PyData} (h1 : fine x = none) (h2 : fine y = none) : fine (if c then x else y) = none := by
  by_cases h : c
  · rw [if_pos h]
    exact h1
  · rw [if_neg h]
    exact h2
theorem fine_item {kind price k : Int} (h0 : 0 ≤ kind) (hp : 0 ≤ price) : fine (itemD kind price k) = if kind < 6 then some price else none := by
  unfold itemD
  by_cases c : kind < 6
  · rw [if_pos c, if_pos c]
    show (if price < 0 then none else some price) = some price
    rw [if_neg (by omega)]
  · rw [if_neg c, if_neg c]
    have neg : fine (.tuple [.int (0 - 1 - price), .int 1, .int 1]) = none := by
      show (if (0 - 1 - price) < 0 then none else some (0 - 1 - price)) = none
      rw [if_pos (by omega)]
    repeat (refine fine_ite ?_ ?_; first | rfl | exact neg)
    rfl
/-- a name, the kind of its item, its price -/
abbrev Desc : Type := Str × Int × Int
def Good (d : Desc) : Prop := 0 ≤ d.2.1 ∧ d.2.1 ≤ 20 ∧ 0 ≤ d.2.2
/-- the price that is due -/
def prO (ds : List Desc) (n : Str) : Option Int := match ds.find? (fun d => decide (d.1 = n)) with
  | some d => if d.2.1 < 6 then some d.2.2 else none
  | none => none
def lk (t : List (Str × PyData)) (n : Str) : Option PyData := (t.find? fun e => decide (e.1 = n)).map (·.2)
def putT (t : List (Str × PyData)) (n : Str) (d : PyData) : List (Str × PyData) :=
  if (t.any fun e => decide (e.1 = n)) = true then t.map (fun e => if e.1 = n then (e.1, d) else e) else t ++ [(n, d)]
theorem lk_put : ∀ (t : List (Str × PyData)) (n m : Str) (d : PyData), lk (putT t n d) m = if m = n then some d else lk t m := by
  intro t n m d
  unfold putT
  by_cases c : (t.any fun e => decide (e.1 = n)) = true
  · rw [if_pos c]
    unfold lk
    induction t with
    | nil => cases c
    | cons e r ih =>
      rw [List.map_cons]
      by_cases ce : e.1 = n
      · rw [if_pos ce]
        by_cases cm : m = n
        · rw [if_pos cm, List.find?_cons_of_pos (by simp [ce, cm])] <;> rfl
        · rw [if_neg cm, List.find?_cons_of_neg (by simp [ce]; exact fun z => cm z.symm), List.find?_cons_of_neg (by simp [ce]; exact fun z => cm z.symm)]
          by_cases cr : (r.any fun e => decide (e.1 = n)) = true
          · have := ih cr
            rw [if_neg cm] at this
            exact this
          · have e2 : r.map (fun e => if e.1 = n then (e.1, d) else e) = r := by
              refine (List.map_congr_left fun x hx => ?_).trans (List.map_id _)
              refine if_neg fun z => cr ?_
              exact List.any_eq_true.mpr ⟨x, hx, decide_eq_true z⟩
            rw [e2]
      · rw [if_neg ce]
        have cr : (r.any fun e => decide (e.1 = n)) = true := by
          rw [List.any_cons, Bool.or_eq_true] at c
          exact c.resolve_left fun z => ce (of_decide_eq_true z)
        by_cases cem : e.1 = m
        · rw [List.find?_cons_of_pos (by simp [cem]), List.find?_cons_of_pos (by simp [cem]), if_neg (by rw [← cem]; exact ce)]
        · rw [List.find?_cons_of_neg (by simp [cem]), List.find?_cons_of_neg (by simp [cem])]
          exact ih cr
  · rw [if_neg c]
    unfold lk
    rw [List.find?_append]
    have nf : ∀ x ∈ t, x.1 ≠ n := fun x hx z => c (List.any_eq_true.mpr ⟨x, hx, decide_eq_true z⟩)
    by_cases cm : m = n
    · rw [if_pos cm]
      have e1 : t.find? (fun e => decide (e.1 = m)) = none := List.find?_eq_none.mpr fun x hx => by
        rw [cm]
        simp [nf x hx]
      rw [e1]
      simp [cm]
    · rw [if_neg cm]
      have e1 : [(n, d)].find? (fun e => decide (e.1 = m)) = none := List.find?_eq_none.mpr fun x hx => by
        rw [List.mem_singleton.mp hx]
        simp
        exact fun z => cm z.symm
      rw [e1]
      simp
/-- the dict of a list of descs -/
def tab (k : Int) : List (Str × PyData) → List Desc → List (Str × PyData)
  | t, [] => t
  | t, d :: r => tab k (if d.2.1 < 20 then putT t d.1 (itemD d.2.1 d.2.2 k) else t) r
theorem tab_snoc (k : Int) : ∀ (ds : List Desc) (t : List (Str × PyData)) (d : Desc), tab k t (ds ++ [d]) = (if d.2.1 < 20 then putT (tab k t ds) d.1 (itemD d.2.1 d.2.2 k) else tab k t ds)
  | [], t, d => rfl
  | x :: r, t, d => tab_snoc k r _ d
theorem lk_tab_out (k : Int) : ∀ (ds : List Desc) (t : List (Str × PyData)) (n : Str), n ∉ ds.map (·.1) → lk (tab k t ds) n = lk t n
  | [], t, n, _ => rfl
  | d :: r, t, n, h => by
    have h2 : n ≠ d.1 ∧ n ∉ r.map (·.1) := by simpa using h
    show lk (tab k _ r) n = lk t n
    rw [lk_tab_out k r _ n h2.2]
    by_cases c : d.2.1 < 20
    · rw [if_pos c, lk_put, if_neg h2.1]
    · rw [if_neg c]
theorem lk_tab (k : Int) : ∀ (ds : List Desc) (t : List (Str × PyData)) (n : Str), (∀ d ∈ ds, Good d) → (ds.map (·.1)).Nodup → n ∈ ds.map (·.1) → lk t n = none → (lk (tab k t ds) n).bind fine = prO ds n
  | [], _, n, _, _, h, _ => by simp at h
  | d :: r, t, n, g, nd, h, h0 => by
    rw [List.map_cons] at nd h
    obtain ⟨nd1, nd2⟩ := List.nodup_cons.mp nd
    have gd := g d List.mem_cons_self
    unfold prO
    by_cases c : d.1 = n
    · rw [List.find?_cons_of_pos (by simp [c])]
      show (lk (tab k _ r) n).bind fine = _
      rw [lk_tab_out k r _ n (by rw [← c]; exact nd1)]
      by_cases c2 : d.2.1 < 20
      · rw [if_pos c2, lk_put, if_pos c.symm]
        exact fine_item gd.1 gd.2.2
      · rw [if_neg c2, h0]
        show none = if d.2.1 < 6 then some d.2.2 else none
        rw [if_neg (by omega)]
    · rw [List.find?_cons_of_neg (by simp [c])]
      have hn : n ∈ r.map (·.1) := (List.mem_cons.mp h).resolve_left fun z => c z.symm
      exact lk_tab k r (if d.2.1 < 20 then putT t d.1 (itemD d.2.1 d.2.2 k) else t) n (fun x hx => g x (List.mem_cons_of_mem _ hx)) nd2 hn (by
        by_cases c2 : d.2.1 < 20
        · rw [if_pos c2, lk_put, if_neg fun z => c z.symm]
          exact h0
        · rw [if_neg c2]
          exact h0)
theorem price_tab {k : Int} {ds : List Desc} {n : Str} (g : ∀ d ∈ ds, Good d) (nd : (ds.map (·.1)).Nodup) (h : n ∈ ds.map (·.1)) : (lk (tab k [] ds) n).bind fine = prO ds n := lk_tab k ds [] n g nd h rfl
theorem prO_bad {ds : List Desc} (nd : (ds.map (·.1)).Nodup) {d : Desc} (h : d ∈ ds) (k : 6 ≤ d.2.1) : prO ds d.1 = none := by
  unfold prO
  induction ds with
  | nil => cases h
  | cons x r ih =>
    rw [List.map_cons] at nd
    obtain ⟨nd1, nd2⟩ := List.nodup_cons.mp nd
    rcases List.mem_cons.mp h with e | h
    · subst e
      rw [List.find?_cons_of_pos (by simp)]
      show (if d.2.1 < 6 then some d.2.2 else none) = none
      rw [if_neg (by omega)]
    · have ne : x.1 ≠ d.1 := fun z => nd1 (by rw [z]; exact List.mem_map.mpr ⟨d, h, rfl⟩)
      rw [List.find?_cons_of_neg (by simp [ne])]
      exact ih nd2 h
theorem prO_good {ds : List Desc} (nd : (ds.map (·.1)).Nodup) {n : Str} (h : n ∈ ds.map (·.1)) (g : ∀ d ∈ ds, d.1 = n → d.2.1 < 6) : ∃ p, prO ds n = some p ∧ ((ds.filter fun d => decide (d.1 = n)).map fun d => d.2.2).sum = p := by
  unfold prO
  induction ds with
  | nil => simp at h
  | cons x r ih =>
    rw [List.map_cons] at nd h
    obtain ⟨nd1, nd2⟩ := List.nodup_cons.mp nd
    by_cases c : x.1 = n
    · rw [List.find?_cons_of_pos (by simp [c]), List.filter_cons_of_pos (by simp [c])]
      have e : r.filter (fun d => decide (d.1 = n)) = [] := List.filter_eq_nil_iff.mpr fun y hy z => nd1 (by rw [c, ← of_decide_eq_true z]; exact List.mem_map.mpr ⟨y, hy, rfl⟩)
      rw [e]
      refine ⟨x.2.2, ?_, by simp⟩
      show (if x.2.1 < 6 then some x.2.2 else none) = some x.2.2
      rw [if_pos (g x List.mem_cons_self c)]
    · rw [List.find?_cons_of_neg (by simp [c]), List.filter_cons_of_neg (by simp [c])]
      exact ih nd2 ((List.mem_cons.mp h).resolve_left fun z => c z.symm) fun d hd => g d (List.mem_cons_of_mem _ hd)
end M42
/-! ### the text by places (printed by gen_head.py) -/
namespace K42
open PySem PySem.Spec PyProof.Rows L2 Xq
def topS (i : Nat) : Stmt := PySem.Challenge.pw_exitspeeled_k42_price_of_calls_alone.main.body.getD i (.Pass ⟨0, 0, 0, 0⟩)
abbrev s_is_whole : Stmt := topS 31
abbrev s_is_amount : Stmt := topS 33
abbrev s_price_of : Stmt := topS 34
abbrev s_law_mix : Stmt := topS 36
abbrev s_law_open : Stmt := topS 37
abbrev s_law_nextcell : Stmt := topS 38
abbrev s_law_take : Stmt := topS 39
abbrev s_law_shuffle : Stmt := topS 40
abbrev s_law_same : Stmt := topS 41
abbrev s_law_fine : Stmt := topS 42
abbrev s_law_called : Stmt := topS 43
abbrev s_law_item : Stmt := topS 44
abbrev s_law_table : Stmt := topS 45
abbrev s_law_owed : Stmt := topS 46
abbrev s_law_ask : Stmt := topS 47
abbrev s_law_asked : Stmt := topS 48
abbrev s_law_mended : Stmt := topS 49
abbrev s_law : Stmt := topS 50
abbrev s_BadPrice_init : Stmt := inClass (topS 28) 0
/-! ### the head -/
def d_is_whole : He.DefD := ⟨("is_whole", none), "is_whole", "is_whole", defArgs s_is_whole, defBody s_is_whole, defScope s_is_whole, [], []⟩
def d_is_amount : He.DefD := ⟨("is_amount", none), "is_amount", "is_amount", defArgs s_is_amount, defBody s_is_amount, defScope s_is_amount, [], []⟩
def d_price_of : He.DefD := ⟨("price_of", none), "price_of", "price_of", defArgs s_price_of, defBody s_price_of, defScope s_price_of, [], []⟩
def d_law_mix : He.DefD := ⟨("_law_mix", none), "_law_mix", "_law_mix", defArgs s_law_mix, defBody s_law_mix, defScope s_law_mix, [], []⟩
def d_law_open : He.DefD := ⟨("_law_open", none), "_law_open", "_law_open", defArgs s_law_open, defBody s_law_open, defScope s_law_open, [], []⟩
def d_law_nextcell : He.DefD := ⟨("_law_nextcell", none), "_law_nextcell", "_law_nextcell", defArgs s_law_nextcell, defBody s_law_nextcell, defScope s_law_nextcell, [], []⟩
def d_law_take : He.DefD := ⟨("_law_take", none), "_law_take", "_law_take", defArgs s_law_take, defBody s_law_take, defScope s_law_take, [], []⟩
def d_law_shuffle : He.DefD := ⟨("_law_shuffle", none), "_law_shuffle", "_law_shuffle", defArgs s_law_shuffle, defBody s_law_shuffle, defScope s_law_shuffle, [], []⟩
def d_law_same : He.DefD := ⟨("_law_same", none), "_law_same", "_law_same", defArgs s_law_same, defBody s_law_same, defScope s_law_same, [], []⟩
def d_law_fine : He.DefD := ⟨("_law_fine", none), "_law_fine", "_law_fine", defArgs s_law_fine, defBody s_law_fine, defScope s_law_fine, [], []⟩
def d_law_called : He.DefD := ⟨("_law_called", none), "_law_called", "_law_called", defArgs s_law_called, defBody s_law_called, defScope s_law_called, [], []⟩
def d_law_item : He.DefD := ⟨("_law_item", none), "_law_item", "_law_item", defArgs s_law_item, defBody s_law_item, defScope s_law_item, [], []⟩
def d_law_table : He.DefD := ⟨("_law_table", none), "_law_table", "_law_table", defArgs s_law_table, defBody s_law_table, defScope s_law_table, [], []⟩
def d_law_owed : He.DefD := ⟨("_law_owed", none), "_law_owed", "_law_owed", defArgs s_law_owed, defBody s_law_owed, defScope s_law_owed, [], []⟩
def d_law_ask : He.DefD := ⟨("_law_ask", none), "_law_ask", "_law_ask", defArgs s_law_ask, defBody s_law_ask, defScope s_law_ask, [], []⟩
def d_law_asked : He.DefD := ⟨("_law_asked", none), "_law_asked", "_law_asked", defArgs s_law_asked, defBody s_law_asked, defScope s_law_asked, [], []⟩
def d_law_mended : He.DefD := ⟨("_law_mended", none), "_law_mended", "_law_mended", defArgs s_law_mended, defBody s_law_mended, defScope s_law_mended, [], []⟩
def d_law : He.DefD := ⟨("law", none), "law", "law", defArgs s_law, defBody s_law, defScope s_law, [], []⟩
def d_BadPrice_init : He.DefD := ⟨("BadPrice", some "__init__"), "__init__", "BadPrice.__init__", defArgs s_BadPrice_init, defBody s_BadPrice_init, defScope s_BadPrice_init, [], []⟩
def fn : List He.DefD := [d_is_whole, d_is_amount, d_price_of, d_law_mix, d_law_open, d_law_nextcell, d_law_take, d_law_shuffle, d_law_same, d_law_fine, d_law_called, d_law_item, d_law_table, d_law_owed, d_law_ask, d_law_asked, d_law_mended, d_law, d_BadPrice_init]
def fa : List He.Fa := ([.glo "is_whole", .glo "is_amount", .glo "price_of", .glo "_law_mix", .glo "_law_open", .glo "_law_nextcell", .glo "_law_take", .glo "_law_shuffle", .glo "_law_same", .glo "_law_fine", .glo "_law_called", .glo "_law_item", .glo "_law_table", .glo "_law_owed", .glo "_law_ask", .glo "_law_asked", .glo "_law_mended", .glo "law", .glo "Refused", .glo "TooMany", .glo "Mismatch", .glo "BadWidth", .glo "BadExit", .glo "BadName", .glo "BadOuts", .glo "BadText", .glo "BadTree", .glo "BadForm", .glo "BadScript", .glo "BadMove", .glo "BadDevice", .glo "NoStep", .glo "BadTable", .glo "Ring", .glo "BadCode", .glo "OffEnd", .glo "NoAnswer", .glo "NoPlace", .glo "NotCatching", .glo "NotScript"] : List He.Fa) ++ ([.glo "BadDivision", .glo "NotMergeable", .glo "NotPiece", .glo "Unknown", .glo "Doubled", .glo "BadPrice", .glo "Nothing", .free "ValueError", .free "abs", .free "all", .free "bool", .free "int", .free "isinstance", .free "len", .free "list", .free "range", .free "reversed", .free "sorted", .free "str", .free "sum", .free "tuple"] : List He.Fa)
def kinds_BadPrice : List (Str × Bool) := ([("Refused", true), ("TooMany", false), ("Mismatch", false), ("BadWidth", false), ("BadExit", false), ("BadName", false), ("BadOuts", false), ("BadText", false), ("BadTree", false), ("BadForm", false), ("BadScript", false), ("BadMove", false), ("BadDevice", false), ("NoStep", false), ("BadTable", false), ("Ring", false), ("BadCode", false), ("OffEnd", false), ("NoAnswer", false), ("NoPlace", false), ("NotCatching", false), ("NotScript", false), ("BadDivision", false), ("NotMergeable", false), ("NotPiece", false), ("Unknown", false), ("Doubled", false), ("BadPrice", true), ("Nothing", false)] : List (Str × Bool))
def exB_BadPrice (K : PySem.W.Frag) : Bool := xcB K (He.ga K "BadPrice") && (kindsB K (He.ga K "BadPrice") kinds_BadPrice && (He.eqO (PySem.W.findIn K (.ref (He.ga K "BadPrice")) "__init__") (some (some (.ref (He.ma K (He.ga K "BadPrice") "__init__")))) && (decide (PySem.W.typeIn K (.ref (He.ma K (He.ga K "BadPrice") "__init__")) = some (.type "function")) && (decide (PySem.W.kitOne K (.ref (He.ga K "BadPrice")) (.type "ValueError") = some true) && (decide (PySem.W.exmOne K (.ref (He.ga K "BadPrice")) (.ref (He.ga K "BadPrice")) = some true) && allB (["called", "name"] : List Str) fun f => He.eqO (PySem.W.findIn K (.ref (He.ga K "BadPrice")) f) (some none))))))
def ex (K : PySem.W.Frag) : Bool := exB_BadPrice K
abbrev R : PySem.W.OpenRow := PySem.W.OpenLaw.row PySem.Challenge.rw_exitspeeled_k42_price_of_calls_alone
abbrev hk : PySem.W.Hook := hookB 5 fa fn ex
def ob (s : PySem.W.SharedT) : AlB := obsB 5 fa fn ex (HandSHeadRun.getT s)
theorem ob_eq (s : PySem.W.SharedT) : ob s = hk.obs s.abs := obsB_eq (HandSHeadRun.getT_eq s)
def loose : List Str := ([("is_whole" : Str), ("is_amount" : Str), ("price_of" : Str), ("_law_mix" : Str), ("_law_open" : Str), ("_law_nextcell" : Str), ("_law_take" : Str), ("_law_shuffle" : Str), ("_law_same" : Str), ("_law_fine" : Str), ("_law_called" : Str), ("_law_item" : Str), ("_law_table" : Str), ("_law_owed" : Str), ("_law_ask" : Str), ("_law_asked" : Str), ("_law_mended" : Str), ("Refused" : Str), ("TooMany" : Str), ("Mismatch" : Str), ("BadWidth" : Str), ("BadExit" : Str), ("BadName" : Str), ("BadOuts" : Str), ("BadText" : Str), ("BadTree" : Str), ("BadForm" : Str), ("BadScript" : Str), ("BadMove" : Str), ("BadDevice" : Str), ("NoStep" : Str), ("BadTable" : Str), ("Ring" : Str), ("BadCode" : Str), ("OffEnd" : Str), ("NoAnswer" : Str), ("NoPlace" : Str), ("NotCatching" : Str), ("NotScript" : Str), ("BadDivision" : Str)] : List Str) ++ ([("NotMergeable" : Str), ("NotPiece" : Str), ("Unknown" : Str), ("Doubled" : Str), ("BadPrice" : Str), ("Nothing" : Str)] : List Str)
theorem run (w : World) : HandSHeadRun.RunEq R (PySem.W.view R.prog [50]) hk ob 20000 loose w := by
  intro os
  kernel_rfl
end K42
namespace K42
open PySem PySem.Spec PyProof.Rows L2 Xq
/-- what the top has written -/
structure Tx (K : PySem.W.Frag) (mg : Str → Option Value) : Prop where
  c : He.SaysD fa fn K
  e : ex K = true
  g : ∀ {x : Str}, (He.Fa.glo x).ok K = true → mg x = some (.ref (He.ga K x))
  n : ∀ {x : Str}, (He.Fa.free x).ok K = true → mg x = none
  s : ∀ {x z : Str}, (He.Fa.str x z).ok K = true → ∃ t, mg x = some (.str z t)
  i : ∀ {x : Str} {z : Int}, (He.Fa.int x z).ok K = true → ∃ t, mg x = some (.int z t)
theorem tx_of {K : PySem.W.Frag} {h : Heap} {mg : Str → Option Value} (X : K.In h) (G : h.Ns mainGlobals mg) (c : He.SaysD fa fn K) (e : ex K = true) : Tx K mg := ⟨c, e, fun q => He.glo_ok X G q, fun q => He.free_ok X G q, fun q => He.str_ok X G q, fun q => He.int_ok X G q⟩
section
variable {P : Program} {w : World} {K : PySem.W.Frag} {mg : Str → Option Value} {base : Heap}
theorem dd_is_whole (T : Tx K mg) : ∃ fd, Dd K mg "is_whole" s_is_whole (He.ga K "is_whole") fd := by
  obtain ⟨fd, F⟩ := T.c.def_ 0 (d := d_is_whole) rfl
  exact ⟨fd, F, T.g (T.c.fact 0 (f := .glo "is_whole") rfl)⟩
theorem dd_is_amount (T : Tx K mg) : ∃ fd, Dd K mg "is_amount" s_is_amount (He.ga K "is_amount") fd := by
  obtain ⟨fd, F⟩ := T.c.def_ 1 (d := d_is_amount) rfl
  exact ⟨fd, F, T.g (T.c.fact 1 (f := .glo "is_amount") rfl)⟩
theorem dd_price_of (T : Tx K mg) : ∃ fd, Dd K mg "price_of" s_price_of (He.ga K "price_of") fd := by
  obtain ⟨fd, F⟩ := T.c.def_ 2 (d := d_price_of) rfl
  exact ⟨fd, F, T.g (T.c.fact 2 (f := .glo "price_of") rfl)⟩
theorem dd_law_mix (T : Tx K mg) : ∃ fd, Dd K mg "_law_mix" s_law_mix (He.ga K "_law_mix") fd := by
  obtain ⟨fd, F⟩ := T.c.def_ 3 (d := d_law_mix) rfl
  exact ⟨fd, F, T.g (T.c.fact 3 (f := .glo "_law_mix") rfl)⟩
theorem dd_law_open (T : Tx K mg) : ∃ fd, Dd K mg "_law_open" s_law_open (He.ga K "_law_open") fd := by
  obtain ⟨fd, F⟩ := T.c.def_ 4 (d := d_law_open) rfl
  exact ⟨fd, F, T.g (T.c.fact 4 (f := .glo "_law_open") rfl)⟩
theorem dd_law_nextcell (T : Tx K mg) : ∃ fd, Dd K mg "_law_nextcell" s_law_nextcell (He.ga K "_law_nextcell") fd := by
  obtain ⟨fd, F⟩ := T.c.def_ 5 (d := d_law_nextcell) rfl
  exact ⟨fd, F, T.g (T.c.fact 5 (f := .glo "_law_nextcell") rfl)⟩
theorem dd_law_take (T : Tx K mg) : ∃ fd, Dd K mg "_law_take" s_law_take (He.ga K "_law_take") fd := by
  obtain ⟨fd, F⟩ := T.c.def_ 6 (d := d_law_take) rfl
  exact ⟨fd, F, T.g (T.c.fact 6 (f := .glo "_law_take") rfl)⟩
theorem dd_law_shuffle (T : Tx K mg) : ∃ fd, Dd K mg "_law_shuffle" s_law_shuffle (He.ga K "_law_shuffle") fd := by
  obtain ⟨fd, F⟩ := T.c.def_ 7 (d := d_law_shuffle) rfl
  exact ⟨fd, F, T.g (T.c.fact 7 (f := .glo "_law_shuffle") rfl)⟩
theorem dd_law_same (T : Tx K mg) : ∃ fd, Dd K mg "_law_same" s_law_same (He.ga K "_law_same") fd := by
  obtain ⟨fd, F⟩ := T.c.def_ 8 (d := d_law_same) rfl
  exact ⟨fd, F, T.g (T.c.fact 8 (f := .glo "_law_same") rfl)⟩
theorem dd_law_fine (T : Tx K mg) : ∃ fd, Dd K mg "_law_fine" s_law_fine (He.ga K "_law_fine") fd := by
  obtain ⟨fd, F⟩ := T.c.def_ 9 (d := d_law_fine) rfl
  exact ⟨fd, F, T.g (T.c.fact 9 (f := .glo "_law_fine") rfl)⟩
theorem dd_law_called (T : Tx K mg) : ∃ fd, Dd K mg "_law_called" s_law_called (He.ga K "_law_called") fd := by
  obtain ⟨fd, F⟩ := T.c.def_ 10 (d := d_law_called) rfl
  exact ⟨fd, F, T.g (T.c.fact 10 (f := .glo "_law_called") rfl)⟩
theorem dd_law_item (T : Tx K mg) : ∃ fd, Dd K mg "_law_item" s_law_item (He.ga K "_law_item") fd := by
  obtain ⟨fd, F⟩ := T.c.def_ 11 (d := d_law_item) rfl
  exact ⟨fd, F, T.g (T.c.fact 11 (f := .glo "_law_item") rfl)⟩
theorem dd_law_table (T : Tx K mg) : ∃ fd, Dd K mg "_law_table" s_law_table (He.ga K "_law_table") fd := by
  obtain ⟨fd, F⟩ := T.c.def_ 12 (d := d_law_table) rfl
  exact ⟨fd, F, T.g (T.c.fact 12 (f := .glo "_law_table") rfl)⟩
theorem dd_law_owed (T : Tx K mg) : ∃ fd, Dd K mg "_law_owed" s_law_owed (He.ga K "_law_owed") fd := by
  obtain ⟨fd, F⟩ := T.c.def_ 13 (d := d_law_owed) rfl
  exact ⟨fd, F, T.g (T.c.fact 13 (f := .glo "_law_owed") rfl)⟩
theorem dd_law_ask (T : Tx K mg) : ∃ fd, Dd K mg "_law_ask" s_law_ask (He.ga K "_law_ask") fd := by
  obtain ⟨fd, F⟩ := T.c.def_ 14 (d := d_law_ask) rfl
  exact ⟨fd, F, T.g (T.c.fact 14 (f := .glo "_law_ask") rfl)⟩
theorem dd_law_asked (T : Tx K mg) : ∃ fd, Dd K mg "_law_asked" s_law_asked (He.ga K "_law_asked") fd := by
  obtain ⟨fd, F⟩ := T.c.def_ 15 (d := d_law_asked) rfl
  exact ⟨fd, F, T.g (T.c.fact 15 (f := .glo "_law_asked") rfl)⟩
theorem dd_law_mended (T : Tx K mg) : ∃ fd, Dd K mg "_law_mended" s_law_mended (He.ga K "_law_mended") fd := by
  obtain ⟨fd, F⟩ := T.c.def_ 16 (d := d_law_mended) rfl
  exact ⟨fd, F, T.g (T.c.fact 16 (f := .glo "_law_mended") rfl)⟩
theorem dd_law (T : Tx K mg) : ∃ fd, Dd K mg "law" s_law (He.ga K "law") fd := by
  obtain ⟨fd, F⟩ := T.c.def_ 17 (d := d_law) rfl
  exact ⟨fd, F, T.g (T.c.fact 17 (f := .glo "law") rfl)⟩
theorem g_Refused (T : Tx K mg) : mg "Refused" = some (.ref (He.ga K "Refused")) := T.g (T.c.fact 18 (f := .glo "Refused") rfl)
theorem g_TooMany (T : Tx K mg) : mg "TooMany" = some (.ref (He.ga K "TooMany")) := T.g (T.c.fact 19 (f := .glo "TooMany") rfl)
theorem g_Mismatch (T : Tx K mg) : mg "Mismatch" = some (.ref (He.ga K "Mismatch")) := T.g (T.c.fact 20 (f := .glo "Mismatch") rfl)
theorem g_BadWidth (T : Tx K mg) : mg "BadWidth" = some (.ref (He.ga K "BadWidth")) := T.g (T.c.fact 21 (f := .glo "BadWidth") rfl)
theorem g_BadExit (T : Tx K mg) : mg "BadExit" = some (.ref (He.ga K "BadExit")) := T.g (T.c.fact 22 (f := .glo "BadExit") rfl)
theorem g_BadName (T : Tx K mg) : mg "BadName" = some (.ref (He.ga K "BadName")) := T.g (T.c.fact 23 (f := .glo "BadName") rfl)
theorem g_BadOuts (T : Tx K mg) : mg "BadOuts" = some (.ref (He.ga K "BadOuts")) := T.g (T.c.fact 24 (f := .glo "BadOuts") rfl)
theorem g_BadText (T : Tx K mg) : mg "BadText" = some (.ref (He.ga K "BadText")) := T.g (T.c.fact 25 (f := .glo "BadText") rfl)
theorem g_BadTree (T : Tx K mg) : mg "BadTree" = some (.ref (He.ga K "BadTree")) := T.g (T.c.fact 26 (f := .glo "BadTree") rfl)
theorem g_BadForm (T : Tx K mg) : mg "BadForm" = some (.ref (He.ga K "BadForm")) := T.g (T.c.fact 27 (f := .glo "BadForm") rfl)
theorem g_BadScript (T : Tx K mg) : mg "BadScript" = some (.ref (He.ga K "BadScript")) := T.g (T.c.fact 28 (f := .glo "BadScript") rfl)
theorem g_BadMove (T : Tx K mg) : mg "BadMove" = some (.ref (He.ga K "BadMove")) := T.g (T.c.fact 29 (f := .glo "BadMove") rfl)
theorem g_BadDevice (T : Tx K mg) : mg "BadDevice" = some (.ref (He.ga K "BadDevice")) := T.g (T.c.fact 30 (f := .glo "BadDevice") rfl)
theorem g_NoStep (T : Tx K mg) : mg "NoStep" = some (.ref (He.ga K "NoStep")) := T.g (T.c.fact 31 (f := .glo "NoStep") rfl)
theorem g_BadTable (T : Tx K mg) : mg "BadTable" = some (.ref (He.ga K "BadTable")) := T.g (T.c.fact 32 (f := .glo "BadTable") rfl)
theorem g_Ring (T : Tx K mg) : mg "Ring" = some (.ref (He.ga K "Ring")) := T.g (T.c.fact 33 (f := .glo "Ring") rfl)
theorem g_BadCode (T : Tx K mg) : mg "BadCode" = some (.ref (He.ga K "BadCode")) := T.g (T.c.fact 34 (f := .glo "BadCode") rfl)
theorem g_OffEnd (T : Tx K mg) : mg "OffEnd" = some (.ref (He.ga K "OffEnd")) := T.g (T.c.fact 35 (f := .glo "OffEnd") rfl)
theorem g_NoAnswer (T : Tx K mg) : mg "NoAnswer" = some (.ref (He.ga K "NoAnswer")) := T.g (T.c.fact 36 (f := .glo "NoAnswer") rfl)
theorem g_NoPlace (T : Tx K mg) : mg "NoPlace" = some (.ref (He.ga K "NoPlace")) := T.g (T.c.fact 37 (f := .glo "NoPlace") rfl)
theorem g_NotCatching (T : Tx K mg) : mg "NotCatching" = some (.ref (He.ga K "NotCatching")) := T.g (T.c.fact 38 (f := .glo "NotCatching") rfl)
theorem g_NotScript (T : Tx K mg) : mg "NotScript" = some (.ref (He.ga K "NotScript")) := T.g (T.c.fact 39 (f := .glo "NotScript") rfl)
theorem g_BadDivision (T : Tx K mg) : mg "BadDivision" = some (.ref (He.ga K "BadDivision")) := T.g (T.c.fact 40 (f := .glo "BadDivision") rfl)
theorem g_NotMergeable (T : Tx K mg) : mg "NotMergeable" = some (.ref (He.ga K "NotMergeable")) := T.g (T.c.fact 41 (f := .glo "NotMergeable") rfl)
theorem g_NotPiece (T : Tx K mg) : mg "NotPiece" = some (.ref (He.ga K "NotPiece")) := T.g (T.c.fact 42 (f := .glo "NotPiece") rfl)
theorem g_Unknown (T : Tx K mg) : mg "Unknown" = some (.ref (He.ga K "Unknown")) := T.g (T.c.fact 43 (f := .glo "Unknown") rfl)
theorem g_Doubled (T : Tx K mg) : mg "Doubled" = some (.ref (He.ga K "Doubled")) := T.g (T.c.fact 44 (f := .glo "Doubled") rfl)
theorem g_BadPrice (T : Tx K mg) : mg "BadPrice" = some (.ref (He.ga K "BadPrice")) := T.g (T.c.fact 45 (f := .glo "BadPrice") rfl)
theorem g_Nothing (T : Tx K mg) : mg "Nothing" = some (.ref (He.ga K "Nothing")) := T.g (T.c.fact 46 (f := .glo "Nothing") rfl)
theorem m_ValueError (T : Tx K mg) : mg "ValueError" = none := T.n (T.c.fact 47 (f := .free "ValueError") rfl)
theorem m_abs (T : Tx K mg) : mg "abs" = none := T.n (T.c.fact 48 (f := .free "abs") rfl)
theorem m_all (T : Tx K mg) : mg "all" = none := T.n (T.c.fact 49 (f := .free "all") rfl)
theorem m_bool (T : Tx K mg) : mg "bool" = none := T.n (T.c.fact 50 (f := .free "bool") rfl)
theorem m_int (T : Tx K mg) : mg "int" = none := T.n (T.c.fact 51 (f := .free "int") rfl)
theorem m_isinstance (T : Tx K mg) : mg "isinstance" = none := T.n (T.c.fact 52 (f := .free "isinstance") rfl)
theorem m_len (T : Tx K mg) : mg "len" = none := T.n (T.c.fact 53 (f := .free "len") rfl)
theorem m_list (T : Tx K mg) : mg "list" = none := T.n (T.c.fact 54 (f := .free "list") rfl)
theorem m_range (T : Tx K mg) : mg "range" = none := T.n (T.c.fact 55 (f := .free "range") rfl)
theorem m_reversed (T : Tx K mg) : mg "reversed" = none := T.n (T.c.fact 56 (f := .free "reversed") rfl)
theorem m_sorted (T : Tx K mg) : mg "sorted" = none := T.n (T.c.fact 57 (f := .free "sorted") rfl)
theorem m_str (T : Tx K mg) : mg "str" = none := T.n (T.c.fact 58 (f := .free "str") rfl)
theorem m_sum (T : Tx K mg) : mg "sum" = none := T.n (T.c.fact 59 (f := .free "sum") rfl)
theorem m_tuple (T : Tx K mg) : mg "tuple" = none := T.n (T.c.fact 60 (f := .free "tuple") rfl)
theorem ex_BadPrice (T : Tx K mg) : exB_BadPrice K = true := by
  have h : ex K = true := T.e
  exact h
theorem xc_BadPrice (T : Tx K mg) : Xc K (He.ga K "BadPrice") := xcB_ok (He.ba (ex_BadPrice T)).1
theorem ki_BadPrice (T : Tx K mg) {x : Str} {b : Bool} (h : (x, b) ∈ kinds_BadPrice) : PySem.W.kitOne K (.ref (He.ga K "BadPrice")) (.ref (He.ga K x)) = some b := kindsB_ok (He.ba (He.ba (ex_BadPrice T)).2).1 h
theorem in_BadPrice (T : Tx K mg) : PySem.W.findIn K (.ref (He.ga K "BadPrice")) "__init__" = some (some (.ref (He.ma K (He.ga K "BadPrice") "__init__"))) := He.eqO_ok (He.ba (He.ba (He.ba (ex_BadPrice T)).2).2).1
theorem it_BadPrice (T : Tx K mg) : PySem.W.typeIn K (.ref (He.ma K (He.ga K "BadPrice") "__init__")) = some (.type "function") := of_decide_eq_true (He.ba (He.ba (He.ba (He.ba (ex_BadPrice T)).2).2).2).1
theorem ve_BadPrice (T : Tx K mg) : PySem.W.kitOne K (.ref (He.ga K "BadPrice")) (.type "ValueError") = some true := of_decide_eq_true (He.ba (He.ba (He.ba (He.ba (He.ba (ex_BadPrice T)).2).2).2).2).1
theorem em_BadPrice (T : Tx K mg) : PySem.W.exmOne K (.ref (He.ga K "BadPrice")) (.ref (He.ga K "BadPrice")) = some true := of_decide_eq_true (He.ba (He.ba (He.ba (He.ba (He.ba (He.ba (ex_BadPrice T)).2).2).2).2).2).1
theorem fl_BadPrice (T : Tx K mg) {f : Str} (h : f ∈ (["called", "name"] : List Str)) : PySem.W.findIn K (.ref (He.ga K "BadPrice")) f = some none := He.eqO_ok (allB_ok (p := fun f => He.eqO (PySem.W.findIn K (.ref (He.ga K "BadPrice")) f) (some none)) (He.ba (He.ba (He.ba (He.ba (He.ba (He.ba (ex_BadPrice T)).2).2).2).2).2).2 h)
def mk_BadPrice : List V → List (Str × V) := fun vs => [("name", vs.getD 0 .non), ("called", .str "BadPrice")]
theorem sc_BadPrice : FnScope ["self", "name"] ["self", "name"] (defScope s_BadPrice_init) := ⟨rfl, rfl, rfl, by decide +kernel, rfl, by decide +kernel, by decide +kernel⟩
theorem x_BadPrice (T : Tx K mg) : XM P w K mg base "BadPrice" (He.ga K "BadPrice") 1 mk_BadPrice := by
  obtain ⟨fd, F⟩ := T.c.def_ 18 (d := d_BadPrice_init) rfl
  refine ⟨xc_BadPrice T, g_BadPrice T, ⟨He.ma K (He.ga K "BadPrice") "__init__", fd, ["self", "name"], in_BadPrice T, it_BadPrice T, ?_, F.bindsN fun _ _ _ _ _ _ us hl => match us, hl with | [_, _], _ => rfl⟩⟩
  refine F.ok sc_BadPrice (fun vs H Q E h => ?_) (fun cdv A outer s H vs Q E hr h => ?_)
  · obtain ⟨a, ws, rfl, hl, _⟩ := h
    exact congrArg Nat.succ hl
  · obtain ⟨a, ws, rfl, hl, ha, q⟩ := h
    obtain ⟨w0, rfl⟩ : ∃ w0, ws = [w0] := by
      match ws, hl with
      | [w0], _ => exact ⟨w0, rfl⟩
    refine ⟨_, PSs.nox (pss_cons (ps_ost (pv 0) pe_str) (pss_one (ps_ost (pv 0) (pv 1)))), ?_⟩
    refine ⟨_, rfl, a, _, rfl, (xc_BadPrice T).o, fl_BadPrice T (by decide), Or.inl ⟨ha, fun d nd ne => ?_⟩⟩
    refine ⟨_, rfl, _, rfl, a, _, rfl, (xc_BadPrice T).o, fl_BadPrice T (by decide), Or.inr ⟨d, _, upd_same, ini_at ne, by simp, ?_⟩⟩
    rw [ini_more ne]
    exact q d nd ne
end
end K42
namespace K42
open PySem PySem.Spec PyProof.Rows L2 Xq
/-! ### the law's draws (common) -/
/-- all that stood but a -/
def Kp (a : Addr) (H H' : Hp) : Prop := ∀ b o, H b = some o → b ≠ a → H' b = some o
theorem Kp.refl (a : Addr) (H : Hp) : Kp a H H := fun _ _ h _ => h
theorem Kp.trans {a : Addr} {H H1 H2 : Hp} (x : Kp a H H1) (y : Kp a H1 H2) : Kp a H H2 := fun b o h n => y b o (x b o h n) n
theorem Kp.put {a : Addr} {H : Hp} {o : HO} : Kp a H (upd H a o) := fun b u h n => by rw [upd_ne n]; exact h
theorem Kp.of {a : Addr} {H H' : Hp} (x : Same H H') : Kp a H H' := fun b o h _ => x b o h
/-- the store -/
def sto (ce : Addr) (pos : Nat) (cur left beat seed mode : Int) : HO := .lst [.ref ce, .int pos, .int cur, .int left, .int beat, .int seed, .int mode]
def St7 (H : Hp) (a ce : Addr) : Prop := ∃ (cs : List Int) (pos : Nat) (cur left beat seed mode : Int), H a = some (sto ce pos cur left beat seed mode) ∧ H ce = some (.lst (cs.map V.int)) ∧ cs.length ≤ 63 ∧ ce ≠ a
theorem St7.same {H H' : Hp} {a ce : Addr} (x : Same H H') (h : St7 H a ce) : St7 H' a ce := by
  obtain ⟨cs, pos, cur, left, beat, seed, mode, h1, h2, h3, h4⟩ := h
  exact ⟨cs, pos, cur, left, beat, seed, mode, x _ _ h1, x _ _ h2, h3, h4⟩
theorem St7.there {H : Hp} {a ce : Addr} (h : St7 H a ce) : ∃ xs, H a = some (.lst xs) := by
  obtain ⟨cs, pos, cur, left, beat, seed, mode, h1, _⟩ := h
  exact ⟨_, h1⟩
def spMix : Sp := fun vs H Q _ => ∃ n b : Int, vs = [.int n, .int b] ∧ ∀ r : Int, 0 ≤ r → Q (.int r) H
def spNext : Sp := fun vs H Q _ => ∃ a ce : Addr, vs = [.ref a] ∧ St7 H a ce ∧ ∀ H', Kp a H H' → St7 H' a ce → Q .non H'
def spTake : Sp := fun vs H Q _ => ∃ (a : Addr) (m : Int) (ce : Addr), vs = [.ref a, .int m] ∧ m < 1606938044258990275541962092341162602522202993782792835301376 ∧ St7 H a ce ∧
  ∀ (n : Int) (H' : Hp), 0 ≤ n → (2 ≤ m → n < m) → (m < 2 → n = 0) → Kp a H H' → St7 H' a ce → Q (.int n) H'
def spOpen (K : PySem.W.Frag) : Sp := fun vs H Q _ => ∃ (a : Addr) (ns : List Int), vs = [.ref a] ∧ SqL K H a (ns.map V.int) ∧ ns.length ≤ 63 ∧ ∀ (p ce : Addr) (H' : Hp), H p = none → Same H H' → St7 H' p ce → Q (.ref p) H'
theorem pow_ok {i j : Int} (h : 0 ≤ j ∧ (Builtin.Int.intBits i : Int) * j ≤ 2 ^ 27) : CPowW i j := h
section
variable {P : Program} {w : World} {K : PySem.W.Frag} {mg : Str → Option Value} {base : Heap}
abbrev N_law_mix : List Str := ["number", "beat", "prime", "mixed"]
theorem sc_law_mix : FnScope N_law_mix ["number", "beat"] (defScope s_law_mix) := ⟨rfl, rfl, rfl, by decide +kernel, rfl, by decide +kernel, by decide +kernel⟩
theorem bi_law_mix {K : PySem.W.Frag} {mg : Str → Option Value} {f : Addr} {fd : FuncData} (D : Dd K mg "_law_mix" s_law_mix f fd) : Binds K fd ["number", "beat"] [] := D.fn.bindsN fun _ _ _ _ _ _ us hl => match us, hl with | [_, _], _ => rfl
theorem ok_law_mix (T : Tx K mg) : OkF P w K mg base CX0 1 "_law_mix" ["number", "beat"] spMix := by
  obtain ⟨fd, D⟩ := dd_law_mix T
  refine okF0 D sc_law_mix (bi_law_mix D) (fun vs H Q E h => ?_) (fun cdv A outer s H vs Q E hr h => ?_)
  · obtain ⟨n, b, rfl, _⟩ := h
    rfl
  · obtain ⟨n, b, rfl, q⟩ := h
    refine ⟨_, (pss_cons (ps_set (i := 2) sc_law_mix.nd rfl (Or.inl rfl) pe_int)
      (pss_cons (ps_set (i := 3) sc_law_mix.nd rfl (Or.inl rfl) (pe_op op_mod (pe_callTy call_int1 (by rfl) (m_int T) (by decide +kernel) (pa_cons (pe_op op_add (pe_op op_add (pe_op op_mul (pv 0) pe_int) (pe_op op_mul (pv 1) pe_int)) pe_int) pa_nil)) (pv 2)))
      (pss_cons (ps_set (i := 3) sc_law_mix.nd rfl (Or.inl rfl) (pe_op op_mod (pe_callTy call_int1 (by rfl) (m_int T) (by decide +kernel) (pa_cons (pe_op op_add (pe_op op_add (pe_op op_mul (pv 3) (pv 3)) (pe_op op_mul (pv 1) pe_int)) (pv 0)) pa_nil)) (pv 2)))
      (pss_one (ps_ret (pe_op op_fdivW (pe_op op_mod (pe_callTy call_int1 (by rfl) (m_int T) (by decide +kernel) (pa_cons (pe_op op_mul (pv 3) (pv 3)) pa_nil)) (pv 2)) pe_int)))))), ?_⟩
    have pp : (0 : Int) < 2305843009213693951 := by decide
    have e1 : CMul n 6364136223846793005 := .inr (by decide)
    have e2 : ∀ x : Int, CMul x 1442695040888963407 := fun x => .inr (by decide)
    have e3 : ∀ x : Int, CMul x 2862933555777941757 := fun x => .inr (by decide)
    have e4 : ∀ x : Int, CMul (x % 2305843009213693951) (x % 2305843009213693951) := fun x => .inr ⟨by omega, by omega⟩
    refine ⟨_, rfl, _, _, rfl, rfl, e1, _, rfl, _, _, rfl, rfl, e2 _, _, _, rfl, rfl, _, _, rfl, rfl, .inl ⟨_, rfl, _, rfl, _, _, rfl, rfl, pp, ?_⟩⟩
    refine ⟨_, rfl, _, rfl, _, _, rfl, rfl, e4 _, _, rfl, _, _, rfl, rfl, e3 _, _, _, rfl, rfl, _, rfl, _, _, rfl, rfl, .inl ⟨_, rfl, _, rfl, _, _, rfl, rfl, pp, ?_⟩⟩
    refine ⟨_, rfl, _, rfl, _, _, rfl, rfl, e4 _, .inl ⟨_, rfl, _, rfl, _, _, rfl, rfl, pp, _, _, rfl, rfl, wide_div (b := 20) (by decide) (by decide) (by decide) (by decide), ?_⟩⟩
    exact q _ (Int.ediv_nonneg (Int.emod_nonneg _ (by decide)) (by decide))
abbrev N_law_nextcell : List Str := ["store", "cells"]
theorem sc_law_nextcell : FnScope N_law_nextcell ["store"] (defScope s_law_nextcell) := ⟨rfl, rfl, rfl, by decide +kernel, rfl, by decide +kernel, by decide +kernel⟩
theorem bi_law_nextcell {K : PySem.W.Frag} {mg : Str → Option Value} {f : Addr} {fd : FuncData} (D : Dd K mg "_law_nextcell" s_law_nextcell f fd) : Binds K fd ["store"] [] := D.fn.bindsN fun _ _ _ _ _ _ us hl => match us, hl with | [_], _ => rfl
theorem ok_law_nextcell (T : Tx K mg) : OkF P w K mg base CX0 1 "_law_nextcell" ["store"] spNext := by
  obtain ⟨fd, D⟩ := dd_law_nextcell T
  refine okF0 D sc_law_nextcell (bi_law_nextcell D) (fun vs H Q E h => ?_) (fun cdv A outer s H vs Q E hr h => ?_)
  · obtain ⟨a, ce, rfl, _⟩ := h
    rfl
  · obtain ⟨a, ce, rfl, ⟨cs, pos, cur, left, beat, seed, mode, h1, h2, h3, h4⟩, q⟩ := h
    refine ⟨_, (pss_cons (ps_set (i := 1) sc_law_nextcell.nd rfl (Or.inl rfl) (pe_ix ix_list (pv 0) pe_int (fun _ _ => rfl)))
      (pss_one (ps_if (pt_cmpR op_lt (pe_ix ix_list (pv 0) pe_int (fun _ _ => rfl)) (pe_callB call_len_seq (by rfl) (m_len T) (by decide +kernel) (pa_cons (pv 1) pa_nil)) (nomark _))
      (pss_cons (ps_asg (pe_ix ix_list (pv 1) (pe_ix ix_list (pv 0) pe_int (fun _ _ => rfl)) (fun _ _ => rfl)) (pg_sub (pv 0) pe_int set_list))
      (pss_cons (ps_asg (pe_op op_add (pe_ix ix_list (pv 0) pe_int (fun _ _ => rfl)) pe_int) (pg_sub (pv 0) pe_int set_list))
      (pss_cons (ps_asg (pe_callTy call_int1 (by rfl) (m_int T) (by decide +kernel) (pa_cons (pe_cmpR op_ge (pe_ix ix_list (pv 0) pe_int (fun _ _ => rfl)) (pe_op op_powW pe_int pe_int) (nomark _)) pa_nil)) (pg_sub (pv 0) pe_int set_list))
      (pss_one (ps_asg (pe_op op_add pe_int (pe_op op_mul pe_int (pe_ix ix_list (pv 0) pe_int (fun _ _ => rfl)))) (pg_sub (pv 0) pe_int set_list))))))
      (pss_cons (ps_asg (pe_ix ix_list (pv 0) pe_int (fun _ _ => rfl)) (pg_sub (pv 0) pe_int set_list))
      (pss_one (ps_asg pe_int (pg_sub (pv 0) pe_int set_list))))))), ?_⟩
    have hC : ∀ {u : HO}, (upd H a u) ce = some (.lst (cs.map V.int)) := fun {u} => by rw [upd_ne h4]; exact h2
    have s1 : SqL K H a [.ref ce, .int pos, .int cur, .int left, .int beat, .int seed, .int mode] := SqL.of h1
    refine ⟨_, rfl, _, _, _, _, rfl, rfl, s1, rfl, ?_⟩
    refine ⟨_, rfl, _, _, _, _, rfl, rfl, s1, rfl, _, rfl, ce, _, rfl, .inl (SqL.of h2), _, _, rfl, rfl, _, rfl, ite2 (fun c => ?_) (fun c => ?_)⟩
    · have lt : pos < cs.length := by
        have c' := of_decide_eq_true c
        rw [List.length_map] at c'
        omega
      have g : atI (cs.map V.int) (pos : Int) = some (.int cs[pos]) := atI_nat (by rw [List.getElem?_map, List.getElem?_eq_getElem lt]; rfl)
      -- store[2] = cells[store[1]]
      refine ⟨_, rfl, _, rfl, _, _, _, _, rfl, rfl, s1, rfl, _, _, _, _, rfl, rfl, SqL.of h2, g, _, rfl, _, _, _, _, rfl, rfl, h1, rfl, ?_⟩
      -- store[1] = store[1] + 1
      have s2 : SqL K (upd H a (sto ce pos cs[pos] left beat seed mode)) a [.ref ce, .int pos, .int cs[pos], .int left, .int beat, .int seed, .int mode] := SqL.of upd_same
      refine ⟨_, rfl, _, _, _, _, rfl, rfl, s2, rfl, _, _, rfl, rfl, _, rfl, _, _, _, _, rfl, rfl, upd_same, rfl, ?_⟩
      rw [upd_upd]
      have s3 : SqL K (upd H a (sto ce (pos + 1) cs[pos] left beat seed mode)) a [.ref ce, .int (pos + 1 : Nat), .int cs[pos], .int left, .int beat, .int seed, .int mode] := SqL.of upd_same
      -- store[6] = int(store[2] >= 10 ** 18)
      refine ⟨_, rfl, _, _, _, _, rfl, rfl, s3, rfl, _, _, rfl, rfl, pow_ok (by decide +kernel), _, _, rfl, rfl, .inr ⟨_, rfl, _, rfl, _, _, _, _, rfl, rfl, upd_same, rfl, ?_⟩⟩
      rw [upd_upd]
      -- store[3] = 6 + 54 * store[6]
      refine ⟨_, rfl, _, _, _, _, rfl, rfl, SqL.of upd_same, rfl, _, _, rfl, rfl, .inl (by decide), _, _, rfl, rfl, _, rfl, _, _, _, _, rfl, rfl, upd_same, rfl, ?_⟩
      rw [upd_upd]
      exact q _ Kp.put ⟨cs, pos + 1, _, _, _, _, _, upd_same, hC, h3, h4⟩
    · -- store[2] = store[5]; store[6] = 2
      refine ⟨_, rfl, _, _, _, _, rfl, rfl, s1, rfl, _, rfl, _, _, _, _, rfl, rfl, h1, rfl, ?_⟩
      refine ⟨_, rfl, _, _, _, _, rfl, rfl, upd_same, rfl, ?_⟩
      rw [upd_upd]
      exact q _ Kp.put ⟨cs, pos, _, _, _, _, _, upd_same, hC, h3, h4⟩
abbrev N_law_take : List Str := ["store", "many", "number"]
theorem sc_law_take : FnScope N_law_take ["store", "many"] (defScope s_law_take) := ⟨rfl, rfl, rfl, by decide +kernel, rfl, by decide +kernel, by decide +kernel⟩
theorem bi_law_take {K : PySem.W.Frag} {mg : Str → Option Value} {f : Addr} {fd : FuncData} (D : Dd K mg "_law_take" s_law_take f fd) : Binds K fd ["store", "many"] [] := D.fn.bindsN fun _ _ _ _ _ _ us hl => match us, hl with | [_, _], _ => rfl
theorem ok_law_take (T : Tx K mg) : OkF P w K mg base CX0 2 "_law_take" ["store", "many"] spTake := by
  obtain ⟨fd, D⟩ := dd_law_take T
  refine okF0 D sc_law_take (bi_law_take D) (fun vs H Q E h => ?_) (fun cdv A outer s H vs Q E hr h => ?_)
  · obtain ⟨a, m, ce, rfl, _⟩ := h
    rfl
  · obtain ⟨a, m, ce, rfl, hm, ⟨cs, pos, cur, left, beat, seed, mode, h1, h2, h3, h4⟩, q⟩ := h
    refine ⟨_, (pss_cons (ps_if (pt_cmpR op_lt (pv 1) pe_int (nomark _))
      (pss_one (ps_ret pe_int))
      pss_nil)
      (pss_cons (ps_asg (pe_op op_add (pe_ix ix_list (pv 0) pe_int (fun _ _ => rfl)) pe_int) (pg_sub (pv 0) pe_int set_list))
      (C8.pss_cut (ps_if (PW.pt (pw_and (pt_cmpR op_lt (pe_ix ix_list (pv 0) pe_int (fun _ _ => rfl)) pe_int (nomark _)) (pw_and1 (PW.pt (pw_or (pt_cmpR op_eq (pe_ix ix_list (pv 0) pe_int (fun _ _ => rfl)) pe_int (nomark _)) (pw_or1 (PW.pt (pw_and (pt_cmpR op_eq (pe_ix ix_list (pv 0) pe_int (fun _ _ => rfl)) pe_int (nomark _)) (pw_and1 (pt_cmpR op_eq (pe_ix ix_list (pv 0) pe_int (fun _ _ => rfl)) pe_int (nomark _)))))))))))
      (pss_one (ps_expr (pe_callO (ok_law_nextcell T) (hr.mono (by decide)) pass0 (pa_cons (pv 0) pa_nil))))
      pss_nil)
      (pss_cons (ps_asg (pe_op op_sub (pe_ix ix_list (pv 0) pe_int (fun _ _ => rfl)) pe_int) (pg_sub (pv 0) pe_int set_list))
      (pss_cons (ps_set (i := 2) sc_law_take.nd rfl (Or.inl rfl) (pe_callTy call_int1 (by rfl) (m_int T) (by decide +kernel) (pa_cons (pe_ix ix_list (pv 0) pe_int (fun _ _ => rfl)) pa_nil)))
      (pss_cons (ps_if (pt_cmpR op_eq (pe_ix ix_list (pv 0) pe_int (fun _ _ => rfl)) pe_int (nomark _))
      (pss_cons (ps_asg (pe_op op_fdivW (pv 2) (pv 1)) (pg_sub (pv 0) pe_int set_list))
      (pss_one (ps_ret (pe_op op_mod (pe_callTy call_int1 (by rfl) (m_int T) (by decide +kernel) (pa_cons (pv 2) pa_nil)) (pv 1)))))
      pss_nil)
      (pss_one (ps_ret (pe_op op_mod (pe_callTy call_int1 (by rfl) (m_int T) (by decide +kernel) (pa_cons (pe_callO (ok_law_mix T) (hr.mono (by decide)) pass0 (pa_cons (pv 2) (pa_cons (pe_ix ix_list (pv 0) pe_int (fun _ _ => rfl)) pa_nil))) pa_nil)) (pv 1)))))))))), ?_⟩
    have hC : ∀ {u : HO}, (upd H a u) ce = some (.lst (cs.map V.int)) := fun {u} => by rw [upd_ne h4]; exact h2
    refine ⟨_, rfl, _, _, rfl, rfl, _, rfl, ite2 (fun c => ?_) (fun c => ?_)⟩
    · have c' := of_decide_eq_true c
      exact q 0 H (by omega) (by omega) (fun _ => rfl) (Kp.refl _ _) ⟨cs, pos, cur, left, beat, seed, mode, h1, h2, h3, h4⟩
    have m2 : 2 ≤ m := by
      have c' : ¬ m < 2 := fun z => c (decide_eq_true z)
      omega
    -- store[4] = store[4] + 1
    refine ⟨_, rfl, _, _, _, _, rfl, rfl, SqL.of h1, rfl, _, _, rfl, rfl, _, rfl, _, _, _, _, rfl, rfl, h1, rfl, ?_⟩
    -- behind the if
    refine ⟨fun σ' H' => σ' = [some (.ref a), some (.int m), none] ∧ Kp a H H' ∧ St7 H' a ce, ?_, fun σ' H' hM => ?_⟩
    · have s2 : SqL K (upd H a (sto ce pos cur left (beat + 1) seed mode)) a [.ref ce, .int pos, .int cur, .int left, .int (beat + 1), .int seed, .int mode] := SqL.of upd_same
      have k2 : St7 (upd H a (sto ce pos cur left (beat + 1) seed mode)) a ce := ⟨cs, pos, _, _, _, _, _, upd_same, hC, h3, h4⟩
      have call : ∀ D : Ends, D.nx = (fun σ' H' => σ' = [some (.ref a), some (.int m), none] ∧ Kp a H H' ∧ St7 H' a ce) → tDrop (tCall spNext [] E0 (tCons (tVar 0) tNil)) D [some (.ref a), some (.int m), none] (upd H a (sto ce pos cur left (beat + 1) seed mode)) := fun D e => by
        refine ⟨_, rfl, a, ce, rfl, k2, fun H' kp st => ?_⟩
        rw [e]
        exact ⟨rfl, Kp.put.trans kp, st⟩
      refine ⟨_, rfl, _, _, _, _, rfl, rfl, s2, rfl, _, _, rfl, rfl, _, rfl, ite2 (fun c => ?_) (fun c => ?_)⟩
      · refine ⟨_, rfl, _, _, _, _, rfl, rfl, s2, rfl, rfl, _, rfl, ite2 (fun c => ?_) (fun c => ?_)⟩
        · exact iteT (call _ rfl)
        · refine ⟨_, rfl, _, _, _, _, rfl, rfl, s2, rfl, rfl, _, rfl, ite2 (fun c => ?_) (fun c => ?_)⟩
          · refine ⟨_, rfl, _, _, _, _, rfl, rfl, s2, rfl, rfl, _, rfl, ite2 (fun c => ?_) (fun c => ?_)⟩
            · exact call _ rfl
            · exact ⟨rfl, Kp.put, k2⟩
          · exact iteF ⟨rfl, Kp.put, k2⟩
      · exact iteF ⟨rfl, Kp.put, k2⟩
    · obtain ⟨rfl, kp, ⟨cs, pos, cur, left, beat, seed, mode, h1, h2, h3, h4⟩⟩ := hM
      have hC : ∀ {u : HO}, (upd H' a u) ce = some (.lst (cs.map V.int)) := fun {u} => by rw [upd_ne h4]; exact h2
      -- store[3] = store[3] - 1
      refine ⟨_, rfl, _, _, _, _, rfl, rfl, SqL.of h1, rfl, _, _, rfl, rfl, _, rfl, _, _, _, _, rfl, rfl, h1, rfl, ?_⟩
      have s2 : SqL K (upd H' a (sto ce pos cur (left - 1) beat seed mode)) a [.ref ce, .int pos, .int cur, .int (left - 1), .int beat, .int seed, .int mode] := SqL.of upd_same
      refine ⟨_, rfl, _, _, _, _, rfl, rfl, s2, rfl, .inl ⟨_, rfl, ?_⟩⟩
      refine ⟨_, rfl, _, _, _, _, rfl, rfl, s2, rfl, rfl, _, rfl, ite2 (fun c => ?_) (fun c => ?_)⟩
      · have p200 : (2 : Nat) ^ 200 = 1606938044258990275541962092341162602522202993782792835301376 := by decide +kernel
        have lg : CDivW cur m := wide_div (b := 200) (by omega) (by rw [p200]; omega) (by decide) (by decide)
        refine ⟨_, rfl, _, rfl, _, _, rfl, rfl, lg, _, rfl, _, _, _, _, rfl, rfl, upd_same, rfl, ?_⟩
        rw [upd_upd]
        refine ⟨_, rfl, .inl ⟨_, rfl, _, rfl, _, _, rfl, rfl, (by omega : 0 < m), ?_⟩⟩
        exact q _ _ (Int.emod_nonneg _ (by omega)) (fun _ => Int.emod_lt_of_pos _ (by omega)) (fun z => by omega) (kp.trans Kp.put) ⟨cs, pos, _, _, _, _, _, upd_same, hC, h3, h4⟩
      · refine ⟨_, rfl, _, rfl, _, _, _, _, rfl, rfl, s2, rfl, _, _, rfl, fun r h0 => ?_⟩
        refine .inl ⟨_, rfl, _, rfl, _, _, rfl, rfl, (by omega : 0 < m), ?_⟩
        exact q _ _ (Int.emod_nonneg _ (by omega)) (fun _ => Int.emod_lt_of_pos _ (by omega)) (fun z => by omega) (kp.trans Kp.put) ⟨cs, pos, _, _, _, _, _, upd_same, hC, h3, h4⟩
theorem cut_mem {xs : List V} {lo hi : Option Int} {i : Nat} {x : V} (h : (cutV xs lo hi)[i]? = some x) : x ∈ xs := List.mem_of_mem_drop (List.mem_of_mem_take (List.mem_of_getElem? h))
theorem cut_len {xs : List V} {lo hi : Option Int} : (cutV xs lo hi).length ≤ xs.length := by
  unfold cutV
  rw [List.length_take, List.length_drop]
  omega
abbrev N_law_open : List Str := ["script", "wide", "cells", "seed", "cell", "small"]
theorem sc_law_open : FnScope N_law_open ["script"] (defScope s_law_open) := ⟨rfl, rfl, rfl, by decide +kernel, rfl, by decide +kernel, by decide +kernel⟩
theorem bi_law_open {K : PySem.W.Frag} {mg : Str → Option Value} {f : Addr} {fd : FuncData} (D : Dd K mg "_law_open" s_law_open f fd) : Binds K fd ["script"] [] := D.fn.bindsN fun _ _ _ _ _ _ us hl => match us, hl with | [_], _ => rfl
theorem ok_law_open (T : Tx K mg) : OkF P w K mg base CX0 1 "_law_open" ["script"] (spOpen K) := by
  obtain ⟨fd, D⟩ := dd_law_open T
  refine okF0 D sc_law_open (bi_law_open D) (fun vs H Q E h => ?_) (fun cdv A outer s H vs Q E hr h => ?_)
  · obtain ⟨a, ns, rfl, _⟩ := h
    rfl
  · obtain ⟨a, ns, rfl, hS, hlen, q⟩ := h
    refine ⟨_, (pss_cons (ps_set (i := 1) sc_law_open.nd rfl (Or.inl rfl) (pe_op op_powW (pe_op op_powW pe_int pe_int) pe_int))
      (pss_cons (ps_set (i := 2) sc_law_open.nd rfl (Or.inl rfl) (pe_lst pa_nil))
      (pss_cons (ps_set (i := 3) sc_law_open.nd rfl (Or.inl rfl) pe_int)
      (pss_cons (ps_for PassesOwn.never rfl (pi_list (pe_slice sl_list (pv 0) po_none (po_some pe_int))) (pg_name (i := 4) sc_law_open.nd rfl (Or.inl rfl))
      (pss_cons (ps_set (i := 5) sc_law_open.nd rfl (Or.inl rfl) (pe_op op_mod (pe_callB call_abs (by rfl) (m_abs T) (by decide +kernel) (pa_cons (pe_callTy call_int1 (by rfl) (m_int T) (by decide +kernel) (pa_cons (pv 4) pa_nil)) pa_nil)) (pv 1)))
      (C8.pss_cut (ps_if (PW.pt (pw_and (pt_cmpR op_lt (pv 5) (pe_op op_powW pe_int pe_int) (nomark _)) (pw_and1 (pt_cmpR op_lt (pv 4) pe_int (nomark _)))))
      (pss_one (ps_set (i := 5) sc_law_open.nd rfl (Or.inl rfl) (pe_op op_sub (pe_op op_sub (pe_op op_powW pe_int pe_int) pe_int) (pv 5))))
      pss_nil)
      (pss_cons (ps_expr (pe_bm PySem.F.plainAttrs_list PySem.F.slot_list_append PySem.F.type_list_append mt_append (pv 2) (pa_cons (pv 5) pa_nil)))
      (pss_one (ps_set (i := 3) sc_law_open.nd rfl (Or.inl rfl) (pe_op op_mod (pe_callTy call_int1 (by rfl) (m_int T) (by decide +kernel) (pa_cons (pe_op op_add (pe_op op_add (pe_op op_mul (pv 3) pe_int) (pv 5)) pe_int) pa_nil)) pe_int)))))))
      (pss_one (ps_ret (pe_lst (pa_cons (pv 2) (pa_cons pe_int (pa_cons pe_int (pa_cons pe_int (pa_cons pe_int (pa_cons (pv 3) (pa_cons pe_int pa_nil)))))))))))))), ?_⟩
    refine ⟨_, _, rfl, rfl, pow_ok (by decide +kernel), _, _, rfl, rfl, pow_ok (by decide +kernel), Nat.zero_le _, fun ce nce => ?_⟩
    have s1 : Same H (upd H ce (.lst [])) := fun b o e => by rw [upd_ne (ne_of_none e nce)]; exact e
    refine ⟨_, rfl, _, rfl, a, _, rfl, s1.seq hS, fun c nc => ?_⟩
    have pp : (0 : Int) < 2305843009213693951 := by decide
    have wp : (0 : Int) < (10 ^ Int.toNat 64) ^ Int.toNat 10 := by decide +kernel
    have necc : ce ≠ c := fun z => by rw [← z, upd_same] at nc; cases nc
    refine ⟨c, rfl, ⟨_, SqL.of upd_same⟩, for_list (K := K) (a := c) (xs := cutV (ns.map V.int) none (some 63)) (fun i σ H' => ∃ (cs : List Int) (seed : Int) (v4 v5 : Option V), σ = [some (.ref a), some (.int ((10 ^ Int.toNat 64) ^ Int.toNat 10)), some (.ref ce), some (.int seed), v4, v5] ∧
      H' ce = some (.lst (cs.map V.int)) ∧ cs.length = i ∧ Same H H' ∧ H' c = some (.lst (cutV (ns.map V.int) none (some 63))))
      ⟨[], _, none, none, rfl, by rw [upd_ne necc, upd_same]; rfl, rfl, fun b o e => by rw [upd_ne (ne_of_none (s1 b o e) nc)]; exact s1 b o e, upd_same⟩ (fun i σ H' _ ⟨_, _, _, _, _, _, _, _, e⟩ => SqL.of e) ?_ ?_⟩
    · rintro i x σ H' hx ⟨cs, seed, v4, v5, rfl, h1, h2, h3, h4⟩
      obtain ⟨z, _, rfl⟩ := List.mem_map.mp (cut_mem hx)
      have hi : i < 63 := by
        have h5 : i < (cutV (ns.map V.int) none (some 63)).length := (List.getElem?_eq_some_iff.mp hx).1
        have h6 := @cut_len (ns.map V.int) none (some 63)
        rw [List.length_map] at h6
        omega
      refine ⟨_, rfl, .inl ⟨_, rfl, _, rfl, _, rfl, _, _, rfl, rfl, wp, ?_⟩⟩
      refine ⟨fun σ' H2 => ∃ n : Int, σ' = [some (.ref a), some (.int ((10 ^ Int.toNat 64) ^ Int.toNat 10)), some (.ref ce), some (.int seed), some (.int z), some (.int n)] ∧ H2 = H', ?_, fun σ' H2 hM => ?_⟩
      · refine ⟨_, rfl, _, _, rfl, rfl, pow_ok (by decide +kernel), _, _, rfl, rfl, _, rfl, ite2 (fun c => ?_) (fun c => ?_)⟩
        · refine ⟨_, rfl, _, _, rfl, rfl, _, rfl, ite2 (fun c => ?_) (fun c => ?_)⟩
          · exact ⟨_, _, rfl, rfl, pow_ok (by decide +kernel), _, _, rfl, rfl, _, rfl, _, _, rfl, rfl, _, rfl, rfl⟩
          · exact ⟨_, rfl, rfl⟩
        · exact iteF ⟨_, rfl, rfl⟩
      · obtain ⟨n, rfl, rfl⟩ := hM
        refine ⟨_, rfl, .inl ⟨rfl, _, SqL.of h1⟩, _, rfl, ce, _, _, rfl, rfl, h1, by rw [List.length_map]; exact small1000 (by omega), ?_⟩
        have nek : ∀ b o, H b = some o → b ≠ ce := fun b o e => ne_of_none e nce
        refine ⟨_, rfl, _, _, rfl, rfl, .inr (by decide), _, rfl, _, _, rfl, rfl, _, _, rfl, rfl, .inl ⟨_, rfl, _, _, rfl, rfl, pp, ?_⟩⟩
        exact ⟨cs ++ [n], _, _, _, rfl, by rw [upd_same, List.map_append]; rfl, by simp [h2], fun b o e => by rw [upd_ne (nek b o e)]; exact h3 b o e, by rw [upd_ne necc.symm]; exact h4⟩
    · rintro σ H' ⟨cs, seed, v4, v5, rfl, h1, h2, h3, h4⟩
      refine ⟨_, rfl, _, rfl, (by show 7 ≤ sizeLine; decide), fun p np => ?_⟩
      have hl : cs.length ≤ 63 := by
        have h6 := @cut_len (ns.map V.int) none (some 63)
        rw [List.length_map] at h6
        omega
      have nep : ce ≠ p := ne_of_none h1 np
      exact q p ce _ (h3.free np) (fun b o e => by rw [upd_ne (ne_of_none (h3 b o e) np)]; exact h3 b o e) ⟨cs, 0, _, _, _, _, _, upd_same, by rw [upd_ne nep]; exact h1, hl, nep⟩
end
/-! ### the law's comparing (common) -/
def spSame (K : PySem.W.Frag) : Sp := fun vs H Q _ => ∃ (x y : V) (d e : PyData), vs = [x, y] ∧ Dp K H x d ∧ Dp K H y e ∧ nd e ≤ 999999 ∧ ∀ H', Same H H' → (d = e → Q (.bl true) H') ∧ (d ≠ e → Q (.bl false) H')
/-- a pair on the pile at l: a list of two values that stood in H0 -/
def OnPile (K : PySem.W.Frag) (H0 : Hp) (l : Addr) (H' : Hp) (v : V) (p : PyData × PyData) : Prop := ∃ (pa : Addr) (x y : V), v = .ref pa ∧ pa ≠ l ∧ H' pa = some (.lst [x, y]) ∧ Dp K H0 x p.1 ∧ Dp K H0 y p.2
theorem OnPile.put {K : PySem.W.Frag} {H0 H' : Hp} {l : Addr} {o : HO} {v : V} {p : PyData × PyData} (h : OnPile K H0 l H' v p) : OnPile K H0 l (upd H' l o) v p := by
  obtain ⟨pa, x, y, e, n, g, a, b⟩ := h
  exact ⟨pa, x, y, e, n, by rw [upd_ne n]; exact g, a, b⟩
theorem OnPile.new {K : PySem.W.Frag} {H0 H' : Hp} {l q : Addr} {o : HO} {v : V} {p : PyData × PyData} (f : H' q = none) (h : OnPile K H0 l H' v p) : OnPile K H0 l (upd H' q o) v p := by
  obtain ⟨pa, x, y, e, n, g, a, b⟩ := h
  exact ⟨pa, x, y, e, n, by rw [upd_ne (ne_of_none g f)]; exact g, a, b⟩
theorem same_new {H H' : Hp} {q : Addr} {o : HO} (s : Same H H') (f : H' q = none) : Same H (upd H' q o) := fun b u e => by
  rw [upd_ne (ne_of_none (s b u e) f)]
  exact s b u e
theorem same_put {H H' : Hp} {q : Addr} {o : HO} (s : Same H H') (f : H q = none) : Same H (upd H' q o) := fun b u e => by
  rw [upd_ne (ne_of_none e f)]
  exact s b u e
section
variable {P : Program} {w : World} {K : PySem.W.Frag} {mg : Str → Option Value} {base : Heap}
abbrev N_law_same : List Str := ["actual", "due", "left", "k", "pair", "one", "two", "at"]
theorem sc_law_same : FnScope N_law_same ["actual", "due"] (defScope s_law_same) := ⟨rfl, rfl, rfl, by decide +kernel, rfl, by decide +kernel, by decide +kernel⟩
theorem bi_law_same {K : PySem.W.Frag} {mg : Str → Option Value} {f : Addr} {fd : FuncData} (D : Dd K mg "_law_same" s_law_same f fd) : Binds K fd ["actual", "due"] [] := D.fn.bindsN fun _ _ _ _ _ _ us hl => match us, hl with | [_, _], _ => rfl
theorem ok_law_same (T : Tx K mg) : OkF P w K mg base CX0 1 "_law_same" ["actual", "due"] (spSame K) := by
  obtain ⟨fd, D⟩ := dd_law_same T
  refine okF0 D sc_law_same (bi_law_same D) (fun vs H Q E h => ?_) (fun cdv A outer s H vs Q E hr h => ?_)
  · obtain ⟨x, y, d, e, rfl, _⟩ := h
    rfl
  ·
    obtain ⟨x0, y0, d0, e0, rfl, hx0, hy0, hnd, q⟩ := h
    refine ⟨_, (pss_cons (ps_set (i := 2) sc_law_same.nd rfl (Or.inl rfl) (pe_lst (pa_cons (pe_lst (pa_cons (pv 0) (pa_cons (pv 1) pa_nil))) pa_nil)))
      (pss_cons (ps_for PassesOwn.never rfl (pi_range1 rfl (m_range T) (pa_cons pe_int pa_nil)) (pg_name (i := 3) sc_law_same.nd rfl (Or.inl rfl))
      (pss_cons (ps_if (pt_cmpR op_eq (pe_callB call_len_seq (by rfl) (m_len T) (by decide +kernel) (pa_cons (pv 2) pa_nil)) pe_int (nomark _))
      (pss_one (ps_ret pe_bl))
      pss_nil)
      (pss_cons (ps_set (i := 4) sc_law_same.nd rfl (Or.inl rfl) (pe_bm0 PySem.F.plainAttrs_list PySem.F.slot_list_pop PySem.F.type_list_pop mt_pop (pv 2)))
      (pss_cons (ps_set (i := 5) sc_law_same.nd rfl (Or.inl rfl) (pe_ix ix_list (pv 4) pe_int (fun _ _ => rfl)))
      (pss_cons (ps_set (i := 6) sc_law_same.nd rfl (Or.inl rfl) (pe_ix ix_list (pv 4) pe_int (fun _ _ => rfl)))
      (pss_one (ps_if (pt_cmpR op_isN (pv 6) pe_non (nomark _))
      (pss_one (ps_if (pt_cmpR op_notN (pv 5) pe_non (nomark _))
      (pss_one (ps_ret pe_bl))
      pss_nil))
      (pss_one (ps_if (pt_val (pe_callB call_isiT (by rfl) (m_isinstance T) (by decide +kernel) (pa_cons (pv 6) (pa_cons (pe_tup (pa_cons (pe_bltn (v := .ty "tuple") (by rfl) (m_tuple T) (by decide +kernel) rfl) (pa_cons (pe_bltn (v := .ty "list") (by rfl) (m_list T) (by decide +kernel) rfl) pa_nil))) pa_nil))))
      (pss_cons (ps_if (PW.pt (pw_or (pt_cmpR op_ne (pe_callB call_isi (by rfl) (m_isinstance T) (by decide +kernel) (pa_cons (pv 6) (pa_cons (pe_bltn (v := .ty "tuple") (by rfl) (m_tuple T) (by decide +kernel) rfl) pa_nil))) (pe_callB call_isi (by rfl) (m_isinstance T) (by decide +kernel) (pa_cons (pv 5) (pa_cons (pe_bltn (v := .ty "tuple") (by rfl) (m_tuple T) (by decide +kernel) rfl) pa_nil))) (nomark _)) (pw_or1 (pt_cmpR op_ne (pe_callB call_isi (by rfl) (m_isinstance T) (by decide +kernel) (pa_cons (pv 6) (pa_cons (pe_bltn (v := .ty "list") (by rfl) (m_list T) (by decide +kernel) rfl) pa_nil))) (pe_callB call_isi (by rfl) (m_isinstance T) (by decide +kernel) (pa_cons (pv 5) (pa_cons (pe_bltn (v := .ty "list") (by rfl) (m_list T) (by decide +kernel) rfl) pa_nil))) (nomark _)))))
      (pss_one (ps_ret pe_bl))
      pss_nil)
      (pss_cons (ps_if (pt_cmpR op_ne (pe_callB call_len (by rfl) (m_len T) (by decide +kernel) (pa_cons (pv 5) pa_nil)) (pe_callB call_len (by rfl) (m_len T) (by decide +kernel) (pa_cons (pv 6) pa_nil)) (nomark _))
      (pss_one (ps_ret pe_bl))
      pss_nil)
      (pss_one (ps_for PassesOwn.never rfl (pi_range1 rfl (m_range T) (pa_cons (pe_callB call_len (by rfl) (m_len T) (by decide +kernel) (pa_cons (pv 6) pa_nil)) pa_nil)) (pg_name (i := 7) sc_law_same.nd rfl (Or.inl rfl))
      (pss_one (ps_expr (pe_bm PySem.F.plainAttrs_list PySem.F.slot_list_append PySem.F.type_list_append mt_append (pv 2) (pa_cons (pe_lst (pa_cons (pe_ix ix_seq (pv 5) (pv 7) (fun _ _ => rfl)) (pa_cons (pe_ix ix_seq (pv 6) (pv 7) (fun _ _ => rfl)) pa_nil))) pa_nil))))))))
      (pss_one (ps_if (PW.pt (pw_or (pt_cmpR op_ne (pe_callB call_isi (by rfl) (m_isinstance T) (by decide +kernel) (pa_cons (pv 6) (pa_cons (pe_bltn (v := .ty "bool") (by rfl) (m_bool T) (by decide +kernel) rfl) pa_nil))) (pe_callB call_isi (by rfl) (m_isinstance T) (by decide +kernel) (pa_cons (pv 5) (pa_cons (pe_bltn (v := .ty "bool") (by rfl) (m_bool T) (by decide +kernel) rfl) pa_nil))) (nomark _)) (pw_or1 (pt_cmpR op_ne (pe_callB call_isi (by rfl) (m_isinstance T) (by decide +kernel) (pa_cons (pv 6) (pa_cons (pe_bltn (v := .ty "str") (by rfl) (m_str T) (by decide +kernel) rfl) pa_nil))) (pe_callB call_isi (by rfl) (m_isinstance T) (by decide +kernel) (pa_cons (pv 5) (pa_cons (pe_bltn (v := .ty "str") (by rfl) (m_str T) (by decide +kernel) rfl) pa_nil))) (nomark _)))))
      (pss_one (ps_ret pe_bl))
      (pss_one (ps_if (PW.pt (pw_or (PW.pt (pw_and (pt_not (pt_val (pe_callB call_isi (by rfl) (m_isinstance T) (by decide +kernel) (pa_cons (pv 6) (pa_cons (pe_bltn (v := .ty "str") (by rfl) (m_str T) (by decide +kernel) rfl) pa_nil))))) (pw_and1 (pt_not (pt_val (pe_callB call_isi (by rfl) (m_isinstance T) (by decide +kernel) (pa_cons (pv 5) (pa_cons (pe_bltn (v := .ty "int") (by rfl) (m_int T) (by decide +kernel) rfl) pa_nil)))))))) (pw_or1 (pt_cmpR (op_ne) (pv 5) (pv 6) (nomark _)))))
      (pss_one (ps_ret pe_bl))
      pss_nil)))))))))))))
      (pss_one (ps_ret pe_bl)))), ?_⟩
    refine ⟨_, rfl, _, rfl, (by show 2 ≤ sizeLine; decide), fun p0 np0 => ⟨(by show 1 ≤ sizeLine; decide), fun l nl => ?_⟩⟩
    have nlH : H l = none := (show Same H (upd H p0 (.lst [x0, y0])) from same_new (Same.refl H) np0).free nl
    have np0l : p0 ≠ l := fun z => by rw [← z, upd_same] at nl; cases nl
    refine ⟨1000000, rfl, by decide, by decide, for_range (lo := 0) (n := (1000000 : Int).toNat) (fun i σ H' => ∃ (v3 v4 v5 v6 v7 : Option V) (ps : List V) (st : List (PyData × PyData)), σ = [some x0, some y0, some (.ref l), v3, v4, v5, v6, v7] ∧ Same H H' ∧ H' l = some (.lst ps) ∧ Paired (OnPile K H l H') ps st ∧ i + work st ≤ 999999 ∧ (d0 = e0 ↔ ∀ p ∈ st, p.1 = p.2))
      ⟨none, none, none, none, none, [.ref p0], [(d0, e0)], rfl, same_new (same_new (Same.refl H) np0) nl, upd_same, .cons ⟨p0, x0, y0, rfl, np0l, by rw [upd_ne np0l, upd_same], hx0, hy0⟩ .nil, by simpa [work] using hnd, by simp⟩ ?_ ?_⟩
    · rintro i σ H' hi ⟨v3, v4, v5, v6, v7, ps, st, rfl, sm, hl, pr, hw, eqv⟩
      -- len(left) == 0
      refine ⟨_, rfl, l, ps, rfl, .inl (SqL.of hl), rfl, _, rfl, ite2 (fun c => ?_) (fun c => ?_)⟩
      · have e1 : ps.length = 0 := by
          have z := V.int.inj (of_decide_eq_true c)
          omega
        have e2 : ps = [] := List.length_eq_zero_iff.mp e1
        subst e2
        cases pr
        exact (q H' sm).1 (eqv.mpr (by simp))
      have ne : ps ≠ [] := fun z => by
        subst z
        exact c (decide_eq_true rfl)
      obtain ⟨qs, v, st', ⟨d, e⟩, rfl, rfl, pr', ⟨pa, x, y, rfl, npl, hpa, hx, hy⟩⟩ := paired_last pr ne
      have hx : Dp K H x d := hx
      have hy : Dp K H y e := hy
      -- pair = left.pop(); one = pair[0]; two = pair[1]
      refine ⟨_, rfl, .inl ⟨rfl, _, .inl (.inl hl)⟩, l, _, .ref pa, rfl, rfl, hl, by simp, ?_⟩
      rw [List.dropLast_concat]
      have sm1 : Same H (upd H' l (.lst qs)) := same_put sm nlH
      have hpa1 : (upd H' l (.lst qs)) pa = some (.lst [x, y]) := by rw [upd_ne npl]; exact hpa
      have pr1 : Paired (OnPile K H l (upd H' l (.lst qs))) qs st' := paired_map (fun _ _ h => h.put) pr'
      generalize hH1 : upd H' l (.lst qs) = H1 at sm1 hpa1 pr1
      have hl1 : H1 l = some (.lst qs) := by rw [← hH1]; exact upd_same
      refine ⟨_, rfl, _, _, _, _, rfl, rfl, SqL.of hpa1, rfl, _, rfl, _, _, _, _, rfl, rfl, SqL.of hpa1, rfl, ?_⟩
      have wsum : work (st' ++ [(d, e)]) = work st' + nd e := by rw [work_app]; simp [work]
      have ndp := nd_pos e
      rw [wsum] at hw
      have eqv2 : (d0 = e0 ↔ (∀ p ∈ st', p.1 = p.2) ∧ d = e) := by
        rw [eqv]
        constructor
        · intro h
          exact ⟨fun p hp => h p (List.mem_append_left _ hp), h (d, e) (List.mem_append_right _ (List.mem_singleton.mpr rfl))⟩
        · rintro ⟨h1, h2⟩ p hp
          rcases List.mem_append.mp hp with hp | hp
          · exact h1 p hp
          · rw [List.mem_singleton.mp hp]
            exact h2
      have bad : ∀ H2, Same H H2 → d ≠ e → Q (.bl false) H2 := fun H2 s2 n => (q H2 s2).2 fun z => n (eqv2.mp z).2
      have good : ∀ (a5 a6 a7 : Option V) (a4 : Option V) (a3 : Option V) (H2 : Hp), Same H H2 → H2 l = some (.lst qs) → Paired (OnPile K H l H2) qs st' → d = e → ∃ (v3 v4 v5 v6 v7 : Option V) (ps : List V) (st : List (PyData × PyData)), [some x0, some y0, some (V.ref l), a3, a4, a5, a6, a7] = [some x0, some y0, some (.ref l), v3, v4, v5, v6, v7] ∧ Same H H2 ∧ H2 l = some (.lst ps) ∧ Paired (OnPile K H l H2) ps st ∧ (i + 1) + work st ≤ 999999 ∧ (d0 = e0 ↔ ∀ p ∈ st, p.1 = p.2) := fun a5 a6 a7 a4 a3 H2 s2 l2 p2 z =>
        ⟨_, _, _, _, _, qs, st', rfl, s2, l2, p2, by omega, eqv2.trans ⟨fun h => h.1, fun h => ⟨h, z⟩⟩⟩
      -- two is None
      refine ⟨_, rfl, rfl, _, rfl, ite2 (fun c => ?_) (fun c => ?_)⟩
      · have ee : e = .none := (dp_non hy).mp (of_decide_eq_true c)
        refine ⟨_, rfl, rfl, _, rfl, ite2 (fun c => ?_) (fun c => ?_)⟩
        · refine bad _ sm1 fun z => ?_
          rw [ee] at z
          rw [(dp_non hx).mpr z] at c
          cases c
        · refine good _ _ _ _ _ _ sm1 hl1 pr1 ?_
          rw [ee]
          refine (dp_non hx).mp ?_
          by_cases z : x = .non
          · exact z
          · rw [decide_eq_false z] at c
            exact absurd rfl c
      have ne' : e ≠ .none := fun z => c (decide_eq_true ((dp_non hy).mpr z))
      -- isinstance(two, (tuple, list))
      refine ⟨_, rfl, (by show 2 ≤ sizeLine; decide), fun tp ntp => ⟨_, _, _, _, _, _, rfl, upd_same, cls2, ty_at hy (same_new sm1 ntp), kit_seqT e, _, rfl, ?_⟩⟩
      have sm2 : Same H (upd H1 tp (.tup [.ty "tuple", .ty "list"])) := same_new sm1 ntp
      have pr2 : Paired (OnPile K H l (upd H1 tp (.tup [.ty "tuple", .ty "list"]))) qs st' := paired_map (fun _ _ h => h.new ntp) pr1
      have hl2 : (upd H1 tp (.tup [.ty "tuple", .ty "list"])) l = some (.lst qs) := by rw [upd_ne (ne_of_none hl1 ntp)]; exact hl1
      generalize upd H1 tp (.tup [.ty "tuple", .ty "list"]) = H2 at sm2 pr2 hl2
      refine ite2 (fun cq => ?_) (fun cq => ?_)
      · -- two is a sequence
        have other : ∀ b1 b2 : Bool, (!decide (V.bl b1 = V.bl b2)) = true → b1 ≠ b2 := fun b1 b2 h z => by
          rw [z, decide_eq_true rfl] at h
          cases h
        have alike : ∀ b1 b2 : Bool, ¬ (!decide (V.bl b1 = V.bl b2)) = true → b1 = b2 := fun b1 b2 h => by
          by_cases z : b1 = b2
          · exact z
          · exact absurd (show (!decide (V.bl b1 = V.bl b2)) = true by rw [decide_eq_false fun y => z (V.bl.inj y)]; rfl) h
        refine ⟨_, rfl, _, _, _, _, _, rfl, .ty _, ty_at hy sm2, kit_ty (kit_tup e), ⟨_, rfl, _, _, _, _, _, rfl, .ty _, ty_at hx sm2, kit_ty (kit_tup d), ⟨rfl, _, rfl, ite2 (fun c1 => iteT (bad _ sm2 fun z => other _ _ c1 (by rw [z]))) (fun c1 => ?_)⟩⟩⟩
        refine ⟨_, rfl, _, _, _, _, _, rfl, .ty _, ty_at hy sm2, kit_ty (kit_lst e), ⟨_, rfl, _, _, _, _, _, rfl, .ty _, ty_at hx sm2, kit_ty (kit_lst d), ⟨rfl, _, rfl, ite2 (fun c2 => bad _ sm2 fun z => other _ _ c2 (by rw [z])) (fun c2 => ?_)⟩⟩⟩
        have k1 := alike _ _ c1
        have k2 := alike _ _ c2
        have kd : (isTup d || isLst d) = true := by rw [← k1, ← k2]; exact cq
        obtain ⟨ax, xs, rfl, sx, ox⟩ := dp_seq hx kd
        obtain ⟨ay, ys, rfl, sy, oy⟩ := dp_seq hy cq
        have lx := dpAll_len ox
        have ly := dpAll_len oy
        -- len(one) != len(two)
        refine ⟨_, rfl, _, _, rfl, len_rd (sq_same sm2 sx), _, rfl, _, _, rfl, len_rd (sq_same sm2 sy), rfl, _, rfl, ite2 (fun c3 => ?_) (fun c3 => ?_)⟩
        · refine bad _ sm2 fun z => ?_
          rw [lx, ly, z, decide_eq_true rfl] at c3
          cases c3
        have ll : (kids d).length = (kids e).length := by
          by_cases z : V.int (xs.length : Int) = V.int (ys.length : Int)
          · have := V.int.inj z
            omega
          · rw [decide_eq_false z] at c3
            exact absurd rfl c3
        have nk := nd_kids cq
        have big : ys.length ≤ 999999 := by
          have h1 := work_len ((kids d).zip (kids e))
          rw [work_zip _ _ ll, List.length_zip] at h1
          omega
        refine ⟨_, rfl, _, _, rfl, len_rd (sq_same sm2 sy), _, rfl, by omega, by omega, for_range (lo := 0) (n := ((ys.length : Nat) : Int).toNat) (fun j σ H3 => ∃ (v7 : Option V) (ps : List V), σ = [some x0, some y0, some (.ref l), some (.int (0 + (i : Int))), some (.ref pa), some (.ref ax), some (.ref ay), v7] ∧ Same H H3 ∧ H3 l = some (.lst ps) ∧ Paired (OnPile K H l H3) ps (st' ++ ((kids d).zip (kids e)).take j))
          ⟨v7, qs, rfl, sm2, hl2, by simpa using pr2⟩ ?_ ?_⟩
        · rintro j σ H3 hj ⟨v7, ps, rfl, s3, l3, p3⟩
          have hj' : j < (kids e).length := by omega
          have hj2 : j < (kids d).length := by omega
          obtain ⟨u, gu, du⟩ := dpAll_get ox j _ (List.getElem?_eq_getElem hj2)
          obtain ⟨z, gz, dz⟩ := dpAll_get oy j _ (List.getElem?_eq_getElem hj')
          have lps : ps.length < sizeLine := by
            have h1 := Paired.length p3
            have h2 := work_len (st' ++ ((kids d).zip (kids e)).take j)
            have h3 := work_len st'
            have h4 : (((kids d).zip (kids e)).take j).length ≤ ys.length := by
              rw [List.length_take, List.length_zip]
              omega
            rw [List.length_append] at h1
            have := sizeLine_eq
            omega
          have gu' : atI xs (0 + (j : Int)) = some u := by rw [Int.zero_add]; exact atI_nat gu
          have gz' : atI ys (0 + (j : Int)) = some z := by rw [Int.zero_add]; exact atI_nat gz
          have gz2 : ((kids d).zip (kids e))[j]? = some ((kids d)[j], (kids e)[j]) := by
            rw [List.getElem?_zip_eq_some]
            exact ⟨List.getElem?_eq_getElem hj2, List.getElem?_eq_getElem hj'⟩
          have done : ∀ pn : Addr, H3 pn = none → ∃ (v7 : Option V) (ps' : List V), [some x0, some y0, some (V.ref l), some (.int (0 + (i : Int))), some (.ref pa), some (.ref ax), some (.ref ay), some (.int (0 + (j : Int)))] = [some x0, some y0, some (.ref l), some (.int (0 + (i : Int))), some (.ref pa), some (.ref ax), some (.ref ay), v7] ∧ Same H (upd (upd H3 pn (.lst [u, z])) l (.lst (ps ++ [.ref pn]))) ∧
              (upd (upd H3 pn (.lst [u, z])) l (.lst (ps ++ [.ref pn]))) l = some (.lst ps') ∧ Paired (OnPile K H l (upd (upd H3 pn (.lst [u, z])) l (.lst (ps ++ [.ref pn])))) ps' (st' ++ ((kids d).zip (kids e)).take (j + 1)) := fun pn npn => by
            have npl2 : pn ≠ l := (ne_of_none l3 npn).symm
            refine ⟨_, ps ++ [.ref pn], rfl, same_put (same_new s3 npn) nlH, upd_same, ?_⟩
            rw [List.take_add_one, gz2, ← List.append_assoc]
            exact paired_snoc (paired_map (fun _ _ h => (h.new npn).put) p3) ⟨pn, u, z, rfl, npl2, by rw [upd_ne npl2, upd_same], du, dz⟩
          refine ⟨_, rfl, .inl ⟨rfl, _, .inl (.inl l3)⟩, _, rfl, _, rfl, ?_⟩
          rcases sq_same s3 sx with gx | gx <;> rcases sq_same s3 sy with gy | gy
          all_goals first
            | refine .inl ⟨_, _, _, _, rfl, rfl, gx, gu', _, rfl, _, rfl, ?_⟩
            | refine .inr (.inl ⟨_, _, _, _, rfl, rfl, gx, gu', _, rfl, _, rfl, ?_⟩)
          all_goals first
            | refine .inl ⟨_, _, _, _, rfl, rfl, gy, gz', (by show 2 ≤ sizeLine; decide), fun pn npn => ?_⟩
            | refine .inr (.inl ⟨_, _, _, _, rfl, rfl, gy, gz', (by show 2 ≤ sizeLine; decide), fun pn npn => ?_⟩)
          all_goals exact ⟨l, ps, .ref pn, rfl, rfl, by rw [upd_ne (ne_of_none l3 npn)]; exact l3, lps, done pn npn⟩
        · rintro σ H3 ⟨v7, ps, rfl, s3, l3, p3⟩
          have full : ((kids d).zip (kids e)).take ((ys.length : Nat) : Int).toNat = (kids d).zip (kids e) := List.take_of_length_le (by rw [List.length_zip]; omega)
          rw [full] at p3
          refine ⟨_, _, _, _, _, ps, _, rfl, s3, l3, p3, ?_, ?_⟩
          · rw [work_app, work_zip _ _ ll]
            omega
          · rw [eqv2, kind_eq k1 k2 cq, zip_eq _ _ ll]
            constructor
            · rintro ⟨h1, h2⟩ p hp
              exact (List.mem_append.mp hp).elim (h1 p) (h2 p)
            · intro h
              exact ⟨fun p hp => h p (List.mem_append_left _ hp), fun p hp => h p (List.mem_append_right _ hp)⟩
      · -- two is a leaf
        have cs : (isTup e || isLst e) = false := by
          cases z : (isTup e || isLst e) with
          | true => exact absurd z cq
          | false => rfl
        have other : ∀ b1 b2 : Bool, (!decide (V.bl b1 = V.bl b2)) = true → b1 ≠ b2 := fun b1 b2 h z => by
          rw [z, decide_eq_true rfl] at h
          cases h
        have alike : ∀ b1 b2 : Bool, ¬ (!decide (V.bl b1 = V.bl b2)) = true → b1 = b2 := fun b1 b2 h => by
          by_cases z : b1 = b2
          · exact z
          · exact absurd (show (!decide (V.bl b1 = V.bl b2)) = true by rw [decide_eq_false fun y => z (V.bl.inj y)]; rfl) h
        refine ⟨_, rfl, _, _, _, _, _, rfl, .ty _, ty_at hy sm2, kit_ty (kit_bl e), ⟨_, rfl, _, _, _, _, _, rfl, .ty _, ty_at hx sm2, kit_ty (kit_bl d), ⟨rfl, _, rfl, ite2 (fun c1 => iteT (bad _ sm2 fun z => other _ _ c1 (by rw [z]))) (fun c1 => ?_)⟩⟩⟩
        refine ⟨_, rfl, _, _, _, _, _, rfl, .ty _, ty_at hy sm2, kit_ty (kit_st e), ⟨_, rfl, _, _, _, _, _, rfl, .ty _, ty_at hx sm2, kit_ty (kit_st d), ⟨rfl, _, rfl, ite2 (fun c2 => bad _ sm2 fun z => other _ _ c2 (by rw [z])) (fun c2 => ?_)⟩⟩⟩
        have k1 := alike _ _ c1
        have k2 := alike _ _ c2
        -- not isinstance(two, str) and not isinstance(one, int) or one != two
        refine ⟨_, rfl, _, _, _, _, _, rfl, .ty _, ty_at hy sm2, kit_ty (kit_st e), ⟨_, rfl, ?_⟩⟩
        have last : (isSt e = true ∨ isIn d = true) → scal x y = true ∧ ((!decide (x = y)) = true → d ≠ e) ∧ (¬ (!decide (x = y)) = true → d = e) := fun h => by
          obtain ⟨h1, h2⟩ := leaf_ne hx hy ne' cs k1 k2 h
          refine ⟨h1, fun z y' => ?_, fun z => ?_⟩
          · rw [decide_eq_true (h2.mpr y')] at z
            cases z
          · refine h2.mp ?_
            by_cases y' : x = y
            · exact y'
            · rw [decide_eq_false y'] at z
              exact absurd rfl z
        cases hst : isSt e with
        | true =>
          obtain ⟨h1, h2, h3⟩ := last (.inl hst)
          refine ⟨_, rfl, _, rfl, h1, _, rfl, ite2 (fun c4 => bad _ sm2 (h2 c4)) (fun c4 => good _ _ _ _ _ _ sm2 hl2 pr2 (h3 c4))⟩
        | false =>
          refine ⟨_, rfl, _, _, _, _, _, rfl, .ty _, ty_at hx sm2, kit_ty (kit_in d), ⟨_, rfl, ?_⟩⟩
          cases hin : isIn d with
          | true =>
            obtain ⟨h1, h2, h3⟩ := last (.inr hin)
            refine ⟨_, rfl, _, rfl, h1, _, rfl, ite2 (fun c4 => bad _ sm2 (h2 c4)) (fun c4 => good _ _ _ _ _ _ sm2 hl2 pr2 (h3 c4))⟩
          | false =>
            refine bad _ sm2 fun z => ?_
            subst z
            cases hy <;> simp_all [isTup, isLst, isSt, isIn]
    · rintro σ H' ⟨v3, v4, v5, v6, v7, ps, st, rfl, sm, hl, pr, hw, eqv⟩
      exact absurd hw (by show ¬ (1000000 + work st ≤ 999999); omega)
theorem okH_law_same (T : Tx K mg) : OkH P w K mg base CX0 1 "_law_same" ["actual", "due"] (spSame K) := by
  obtain ⟨fd, D⟩ := dd_law_same T
  refine okH0 D sc_law_same (bi_law_same D) (fun vs H Q E h => ?_) (fun cdv A outer s H vs Q E p _ hot1 hr h => ?_)
  · obtain ⟨x, y, d, e, rfl, _⟩ := h
    rfl
  · have hot : L2H.HotC (L2H.cxH CX0 P w K mg base N_law_same "_law_same" (defScope s_law_same) (He.ga K "_law_same") cdv A outer s H E p).nox := ⟨p, hot1, List.mem_cons_self⟩
    obtain ⟨x0, y0, d0, e0, rfl, hx0, hy0, hnd, q⟩ := h
    refine ⟨_, (pss_cons (ps_set (i := 2) sc_law_same.nd rfl (Or.inl rfl) (pe_lst (pa_cons (pe_lst (pa_cons (pv 0) (pa_cons (pv 1) pa_nil))) pa_nil)))
      (pss_cons (L2H.ps_forH PassesOwn.never hot (L2H.pi_range1H rfl (m_range T) (pa_cons pe_int pa_nil)) (pg_name (i := 3) sc_law_same.nd rfl (Or.inl rfl))
      (pss_cons (ps_if (pt_cmpR op_eq (pe_callB call_len_seq (by rfl) (m_len T) (by decide +kernel) (pa_cons (pv 2) pa_nil)) pe_int (nomark _))
      (pss_one (ps_ret pe_bl))
      pss_nil)
      (pss_cons (ps_set (i := 4) sc_law_same.nd rfl (Or.inl rfl) (pe_bm0 PySem.F.plainAttrs_list PySem.F.slot_list_pop PySem.F.type_list_pop mt_pop (pv 2)))
      (pss_cons (ps_set (i := 5) sc_law_same.nd rfl (Or.inl rfl) (pe_ix ix_list (pv 4) pe_int (fun _ _ => rfl)))
      (pss_cons (ps_set (i := 6) sc_law_same.nd rfl (Or.inl rfl) (pe_ix ix_list (pv 4) pe_int (fun _ _ => rfl)))
      (pss_one (ps_if (pt_cmpR op_isN (pv 6) pe_non (nomark _))
      (pss_one (ps_if (pt_cmpR op_notN (pv 5) pe_non (nomark _))
      (pss_one (ps_ret pe_bl))
      pss_nil))
      (pss_one (ps_if (pt_val (pe_callB call_isiT (by rfl) (m_isinstance T) (by decide +kernel) (pa_cons (pv 6) (pa_cons (pe_tup (pa_cons (pe_bltn (v := .ty "tuple") (by rfl) (m_tuple T) (by decide +kernel) rfl) (pa_cons (pe_bltn (v := .ty "list") (by rfl) (m_list T) (by decide +kernel) rfl) pa_nil))) pa_nil))))
      (pss_cons (ps_if (PW.pt (pw_or (pt_cmpR op_ne (pe_callB call_isi (by rfl) (m_isinstance T) (by decide +kernel) (pa_cons (pv 6) (pa_cons (pe_bltn (v := .ty "tuple") (by rfl) (m_tuple T) (by decide +kernel) rfl) pa_nil))) (pe_callB call_isi (by rfl) (m_isinstance T) (by decide +kernel) (pa_cons (pv 5) (pa_cons (pe_bltn (v := .ty "tuple") (by rfl) (m_tuple T) (by decide +kernel) rfl) pa_nil))) (nomark _)) (pw_or1 (pt_cmpR op_ne (pe_callB call_isi (by rfl) (m_isinstance T) (by decide +kernel) (pa_cons (pv 6) (pa_cons (pe_bltn (v := .ty "list") (by rfl) (m_list T) (by decide +kernel) rfl) pa_nil))) (pe_callB call_isi (by rfl) (m_isinstance T) (by decide +kernel) (pa_cons (pv 5) (pa_cons (pe_bltn (v := .ty "list") (by rfl) (m_list T) (by decide +kernel) rfl) pa_nil))) (nomark _)))))
      (pss_one (ps_ret pe_bl))
      pss_nil)
      (pss_cons (ps_if (pt_cmpR op_ne (pe_callB call_len (by rfl) (m_len T) (by decide +kernel) (pa_cons (pv 5) pa_nil)) (pe_callB call_len (by rfl) (m_len T) (by decide +kernel) (pa_cons (pv 6) pa_nil)) (nomark _))
      (pss_one (ps_ret pe_bl))
      pss_nil)
      (pss_one (L2H.ps_forH PassesOwn.never hot (L2H.pi_range1H rfl (m_range T) (pa_cons (pe_callB call_len (by rfl) (m_len T) (by decide +kernel) (pa_cons (pv 6) pa_nil)) pa_nil)) (pg_name (i := 7) sc_law_same.nd rfl (Or.inl rfl))
      (pss_one (ps_expr (pe_bm PySem.F.plainAttrs_list PySem.F.slot_list_append PySem.F.type_list_append mt_append (pv 2) (pa_cons (pe_lst (pa_cons (pe_ix ix_seq (pv 5) (pv 7) (fun _ _ => rfl)) (pa_cons (pe_ix ix_seq (pv 6) (pv 7) (fun _ _ => rfl)) pa_nil))) pa_nil))))))))
      (pss_one (ps_if (PW.pt (pw_or (pt_cmpR op_ne (pe_callB call_isi (by rfl) (m_isinstance T) (by decide +kernel) (pa_cons (pv 6) (pa_cons (pe_bltn (v := .ty "bool") (by rfl) (m_bool T) (by decide +kernel) rfl) pa_nil))) (pe_callB call_isi (by rfl) (m_isinstance T) (by decide +kernel) (pa_cons (pv 5) (pa_cons (pe_bltn (v := .ty "bool") (by rfl) (m_bool T) (by decide +kernel) rfl) pa_nil))) (nomark _)) (pw_or1 (pt_cmpR op_ne (pe_callB call_isi (by rfl) (m_isinstance T) (by decide +kernel) (pa_cons (pv 6) (pa_cons (pe_bltn (v := .ty "str") (by rfl) (m_str T) (by decide +kernel) rfl) pa_nil))) (pe_callB call_isi (by rfl) (m_isinstance T) (by decide +kernel) (pa_cons (pv 5) (pa_cons (pe_bltn (v := .ty "str") (by rfl) (m_str T) (by decide +kernel) rfl) pa_nil))) (nomark _)))))
      (pss_one (ps_ret pe_bl))
      (pss_one (ps_if (PW.pt (pw_or (PW.pt (pw_and (pt_not (pt_val (pe_callB call_isi (by rfl) (m_isinstance T) (by decide +kernel) (pa_cons (pv 6) (pa_cons (pe_bltn (v := .ty "str") (by rfl) (m_str T) (by decide +kernel) rfl) pa_nil))))) (pw_and1 (pt_not (pt_val (pe_callB call_isi (by rfl) (m_isinstance T) (by decide +kernel) (pa_cons (pv 5) (pa_cons (pe_bltn (v := .ty "int") (by rfl) (m_int T) (by decide +kernel) rfl) pa_nil)))))))) (pw_or1 (pt_cmpR (op_ne) (pv 5) (pv 6) (nomark _)))))
      (pss_one (ps_ret pe_bl))
      pss_nil)))))))))))))
      (pss_one (ps_ret pe_bl)))), ?_⟩
    refine ⟨_, rfl, _, rfl, (by show 2 ≤ sizeLine; decide), fun p0 np0 => ⟨(by show 1 ≤ sizeLine; decide), fun l nl => ?_⟩⟩
    have nlH : H l = none := (show Same H (upd H p0 (.lst [x0, y0])) from same_new (Same.refl H) np0).free nl
    have np0l : p0 ≠ l := fun z => by rw [← z, upd_same] at nl; cases nl
    refine ⟨1000000, rfl, by decide, by decide, for_range (lo := 0) (n := (1000000 : Int).toNat) (fun i σ H' => ∃ (v3 v4 v5 v6 v7 : Option V) (ps : List V) (st : List (PyData × PyData)), σ = [some x0, some y0, some (.ref l), v3, v4, v5, v6, v7] ∧ Same H H' ∧ H' l = some (.lst ps) ∧ Paired (OnPile K H l H') ps st ∧ i + work st ≤ 999999 ∧ (d0 = e0 ↔ ∀ p ∈ st, p.1 = p.2))
      ⟨none, none, none, none, none, [.ref p0], [(d0, e0)], rfl, same_new (same_new (Same.refl H) np0) nl, upd_same, .cons ⟨p0, x0, y0, rfl, np0l, by rw [upd_ne np0l, upd_same], hx0, hy0⟩ .nil, by simpa [work] using hnd, by simp⟩ ?_ ?_⟩
    · rintro i σ H' hi ⟨v3, v4, v5, v6, v7, ps, st, rfl, sm, hl, pr, hw, eqv⟩
      -- len(left) == 0
      refine ⟨_, rfl, l, ps, rfl, .inl (SqL.of hl), rfl, _, rfl, ite2 (fun c => ?_) (fun c => ?_)⟩
      · have e1 : ps.length = 0 := by
          have z := V.int.inj (of_decide_eq_true c)
          omega
        have e2 : ps = [] := List.length_eq_zero_iff.mp e1
        subst e2
        cases pr
        exact (q H' sm).1 (eqv.mpr (by simp))
      have ne : ps ≠ [] := fun z => by
        subst z
        exact c (decide_eq_true rfl)
      obtain ⟨qs, v, st', ⟨d, e⟩, rfl, rfl, pr', ⟨pa, x, y, rfl, npl, hpa, hx, hy⟩⟩ := paired_last pr ne
      have hx : Dp K H x d := hx
      have hy : Dp K H y e := hy
      -- pair = left.pop(); one = pair[0]; two = pair[1]
      refine ⟨_, rfl, .inl ⟨rfl, _, .inl (.inl hl)⟩, l, _, .ref pa, rfl, rfl, hl, by simp, ?_⟩
      rw [List.dropLast_concat]
      have sm1 : Same H (upd H' l (.lst qs)) := same_put sm nlH
      have hpa1 : (upd H' l (.lst qs)) pa = some (.lst [x, y]) := by rw [upd_ne npl]; exact hpa
      have pr1 : Paired (OnPile K H l (upd H' l (.lst qs))) qs st' := paired_map (fun _ _ h => h.put) pr'
      generalize hH1 : upd H' l (.lst qs) = H1 at sm1 hpa1 pr1
      have hl1 : H1 l = some (.lst qs) := by rw [← hH1]; exact upd_same
      refine ⟨_, rfl, _, _, _, _, rfl, rfl, SqL.of hpa1, rfl, _, rfl, _, _, _, _, rfl, rfl, SqL.of hpa1, rfl, ?_⟩
      have wsum : work (st' ++ [(d, e)]) = work st' + nd e := by rw [work_app]; simp [work]
      have ndp := nd_pos e
      rw [wsum] at hw
      have eqv2 : (d0 = e0 ↔ (∀ p ∈ st', p.1 = p.2) ∧ d = e) := by
        rw [eqv]
        constructor
        · intro h
          exact ⟨fun p hp => h p (List.mem_append_left _ hp), h (d, e) (List.mem_append_right _ (List.mem_singleton.mpr rfl))⟩
        · rintro ⟨h1, h2⟩ p hp
          rcases List.mem_append.mp hp with hp | hp
          · exact h1 p hp
          · rw [List.mem_singleton.mp hp]
            exact h2
      have bad : ∀ H2, Same H H2 → d ≠ e → Q (.bl false) H2 := fun H2 s2 n => (q H2 s2).2 fun z => n (eqv2.mp z).2
      have good : ∀ (a5 a6 a7 : Option V) (a4 : Option V) (a3 : Option V) (H2 : Hp), Same H H2 → H2 l = some (.lst qs) → Paired (OnPile K H l H2) qs st' → d = e → ∃ (v3 v4 v5 v6 v7 : Option V) (ps : List V) (st : List (PyData × PyData)), [some x0, some y0, some (V.ref l), a3, a4, a5, a6, a7] = [some x0, some y0, some (.ref l), v3, v4, v5, v6, v7] ∧ Same H H2 ∧ H2 l = some (.lst ps) ∧ Paired (OnPile K H l H2) ps st ∧ (i + 1) + work st ≤ 999999 ∧ (d0 = e0 ↔ ∀ p ∈ st, p.1 = p.2) := fun a5 a6 a7 a4 a3 H2 s2 l2 p2 z =>
        ⟨_, _, _, _, _, qs, st', rfl, s2, l2, p2, by omega, eqv2.trans ⟨fun h => h.1, fun h => ⟨h, z⟩⟩⟩
      -- two is None
      refine ⟨_, rfl, rfl, _, rfl, ite2 (fun c => ?_) (fun c => ?_)⟩
      · have ee : e = .none := (dp_non hy).mp (of_decide_eq_true c)
        refine ⟨_, rfl, rfl, _, rfl, ite2 (fun c => ?_) (fun c => ?_)⟩
        · refine bad _ sm1 fun z => ?_
          rw [ee] at z
          rw [(dp_non hx).mpr z] at c
          cases c
        · refine good _ _ _ _ _ _ sm1 hl1 pr1 ?_
          rw [ee]
          refine (dp_non hx).mp ?_
          by_cases z : x = .non
          · exact z
          · rw [decide_eq_false z] at c
            exact absurd rfl c
      have ne' : e ≠ .none := fun z => c (decide_eq_true ((dp_non hy).mpr z))
      -- isinstance(two, (tuple, list))
      refine ⟨_, rfl, (by show 2 ≤ sizeLine; decide), fun tp ntp => ⟨_, _, _, _, _, _, rfl, upd_same, cls2, ty_at hy (same_new sm1 ntp), kit_seqT e, _, rfl, ?_⟩⟩
      have sm2 : Same H (upd H1 tp (.tup [.ty "tuple", .ty "list"])) := same_new sm1 ntp
      have pr2 : Paired (OnPile K H l (upd H1 tp (.tup [.ty "tuple", .ty "list"]))) qs st' := paired_map (fun _ _ h => h.new ntp) pr1
      have hl2 : (upd H1 tp (.tup [.ty "tuple", .ty "list"])) l = some (.lst qs) := by rw [upd_ne (ne_of_none hl1 ntp)]; exact hl1
      generalize upd H1 tp (.tup [.ty "tuple", .ty "list"]) = H2 at sm2 pr2 hl2
      refine ite2 (fun cq => ?_) (fun cq => ?_)
      · -- two is a sequence
        have other : ∀ b1 b2 : Bool, (!decide (V.bl b1 = V.bl b2)) = true → b1 ≠ b2 := fun b1 b2 h z => by
          rw [z, decide_eq_true rfl] at h
          cases h
        have alike : ∀ b1 b2 : Bool, ¬ (!decide (V.bl b1 = V.bl b2)) = true → b1 = b2 := fun b1 b2 h => by
          by_cases z : b1 = b2
          · exact z
          · exact absurd (show (!decide (V.bl b1 = V.bl b2)) = true by rw [decide_eq_false fun y => z (V.bl.inj y)]; rfl) h
        refine ⟨_, rfl, _, _, _, _, _, rfl, .ty _, ty_at hy sm2, kit_ty (kit_tup e), ⟨_, rfl, _, _, _, _, _, rfl, .ty _, ty_at hx sm2, kit_ty (kit_tup d), ⟨rfl, _, rfl, ite2 (fun c1 => iteT (bad _ sm2 fun z => other _ _ c1 (by rw [z]))) (fun c1 => ?_)⟩⟩⟩
        refine ⟨_, rfl, _, _, _, _, _, rfl, .ty _, ty_at hy sm2, kit_ty (kit_lst e), ⟨_, rfl, _, _, _, _, _, rfl, .ty _, ty_at hx sm2, kit_ty (kit_lst d), ⟨rfl, _, rfl, ite2 (fun c2 => bad _ sm2 fun z => other _ _ c2 (by rw [z])) (fun c2 => ?_)⟩⟩⟩
        have k1 := alike _ _ c1
        have k2 := alike _ _ c2
        have kd : (isTup d || isLst d) = true := by rw [← k1, ← k2]; exact cq
        obtain ⟨ax, xs, rfl, sx, ox⟩ := dp_seq hx kd
        obtain ⟨ay, ys, rfl, sy, oy⟩ := dp_seq hy cq
        have lx := dpAll_len ox
        have ly := dpAll_len oy
        -- len(one) != len(two)
        refine ⟨_, rfl, _, _, rfl, len_rd (sq_same sm2 sx), _, rfl, _, _, rfl, len_rd (sq_same sm2 sy), rfl, _, rfl, ite2 (fun c3 => ?_) (fun c3 => ?_)⟩
        · refine bad _ sm2 fun z => ?_
          rw [lx, ly, z, decide_eq_true rfl] at c3
          cases c3
        have ll : (kids d).length = (kids e).length := by
          by_cases z : V.int (xs.length : Int) = V.int (ys.length : Int)
          · have := V.int.inj z
            omega
          · rw [decide_eq_false z] at c3
            exact absurd rfl c3
        have nk := nd_kids cq
        have big : ys.length ≤ 999999 := by
          have h1 := work_len ((kids d).zip (kids e))
          rw [work_zip _ _ ll, List.length_zip] at h1
          omega
        refine ⟨_, rfl, _, _, rfl, len_rd (sq_same sm2 sy), _, rfl, by omega, by omega, for_range (lo := 0) (n := ((ys.length : Nat) : Int).toNat) (fun j σ H3 => ∃ (v7 : Option V) (ps : List V), σ = [some x0, some y0, some (.ref l), some (.int (0 + (i : Int))), some (.ref pa), some (.ref ax), some (.ref ay), v7] ∧ Same H H3 ∧ H3 l = some (.lst ps) ∧ Paired (OnPile K H l H3) ps (st' ++ ((kids d).zip (kids e)).take j))
          ⟨v7, qs, rfl, sm2, hl2, by simpa using pr2⟩ ?_ ?_⟩
        · rintro j σ H3 hj ⟨v7, ps, rfl, s3, l3, p3⟩
          have hj' : j < (kids e).length := by omega
          have hj2 : j < (kids d).length := by omega
          obtain ⟨u, gu, du⟩ := dpAll_get ox j _ (List.getElem?_eq_getElem hj2)
          obtain ⟨z, gz, dz⟩ := dpAll_get oy j _ (List.getElem?_eq_getElem hj')
          have lps : ps.length < sizeLine := by
            have h1 := Paired.length p3
            have h2 := work_len (st' ++ ((kids d).zip (kids e)).take j)
            have h3 := work_len st'
            have h4 : (((kids d).zip (kids e)).take j).length ≤ ys.length := by
              rw [List.length_take, List.length_zip]
              omega
            rw [List.length_append] at h1
            have := sizeLine_eq
            omega
          have gu' : atI xs (0 + (j : Int)) = some u := by rw [Int.zero_add]; exact atI_nat gu
          have gz' : atI ys (0 + (j : Int)) = some z := by rw [Int.zero_add]; exact atI_nat gz
          have gz2 : ((kids d).zip (kids e))[j]? = some ((kids d)[j], (kids e)[j]) := by
            rw [List.getElem?_zip_eq_some]
            exact ⟨List.getElem?_eq_getElem hj2, List.getElem?_eq_getElem hj'⟩
          have done : ∀ pn : Addr, H3 pn = none → ∃ (v7 : Option V) (ps' : List V), [some x0, some y0, some (V.ref l), some (.int (0 + (i : Int))), some (.ref pa), some (.ref ax), some (.ref ay), some (.int (0 + (j : Int)))] = [some x0, some y0, some (.ref l), some (.int (0 + (i : Int))), some (.ref pa), some (.ref ax), some (.ref ay), v7] ∧ Same H (upd (upd H3 pn (.lst [u, z])) l (.lst (ps ++ [.ref pn]))) ∧
              (upd (upd H3 pn (.lst [u, z])) l (.lst (ps ++ [.ref pn]))) l = some (.lst ps') ∧ Paired (OnPile K H l (upd (upd H3 pn (.lst [u, z])) l (.lst (ps ++ [.ref pn])))) ps' (st' ++ ((kids d).zip (kids e)).take (j + 1)) := fun pn npn => by
            have npl2 : pn ≠ l := (ne_of_none l3 npn).symm
            refine ⟨_, ps ++ [.ref pn], rfl, same_put (same_new s3 npn) nlH, upd_same, ?_⟩
            rw [List.take_add_one, gz2, ← List.append_assoc]
            exact paired_snoc (paired_map (fun _ _ h => (h.new npn).put) p3) ⟨pn, u, z, rfl, npl2, by rw [upd_ne npl2, upd_same], du, dz⟩
          refine ⟨_, rfl, .inl ⟨rfl, _, .inl (.inl l3)⟩, _, rfl, _, rfl, ?_⟩
          rcases sq_same s3 sx with gx | gx <;> rcases sq_same s3 sy with gy | gy
          all_goals first
            | refine .inl ⟨_, _, _, _, rfl, rfl, gx, gu', _, rfl, _, rfl, ?_⟩
            | refine .inr (.inl ⟨_, _, _, _, rfl, rfl, gx, gu', _, rfl, _, rfl, ?_⟩)
          all_goals first
            | refine .inl ⟨_, _, _, _, rfl, rfl, gy, gz', (by show 2 ≤ sizeLine; decide), fun pn npn => ?_⟩
            | refine .inr (.inl ⟨_, _, _, _, rfl, rfl, gy, gz', (by show 2 ≤ sizeLine; decide), fun pn npn => ?_⟩)
          all_goals exact ⟨l, ps, .ref pn, rfl, rfl, by rw [upd_ne (ne_of_none l3 npn)]; exact l3, lps, done pn npn⟩
        · rintro σ H3 ⟨v7, ps, rfl, s3, l3, p3⟩
          have full : ((kids d).zip (kids e)).take ((ys.length : Nat) : Int).toNat = (kids d).zip (kids e) := List.take_of_length_le (by rw [List.length_zip]; omega)
          rw [full] at p3
          refine ⟨_, _, _, _, _, ps, _, rfl, s3, l3, p3, ?_, ?_⟩
          · rw [work_app, work_zip _ _ ll]
            omega
          · rw [eqv2, kind_eq k1 k2 cq, zip_eq _ _ ll]
            constructor
            · rintro ⟨h1, h2⟩ p hp
              exact (List.mem_append.mp hp).elim (h1 p) (h2 p)
            · intro h
              exact ⟨fun p hp => h p (List.mem_append_left _ hp), fun p hp => h p (List.mem_append_right _ hp)⟩
      · -- two is a leaf
        have cs : (isTup e || isLst e) = false := by
          cases z : (isTup e || isLst e) with
          | true => exact absurd z cq
          | false => rfl
        have other : ∀ b1 b2 : Bool, (!decide (V.bl b1 = V.bl b2)) = true → b1 ≠ b2 := fun b1 b2 h z => by
          rw [z, decide_eq_true rfl] at h
          cases h
        have alike : ∀ b1 b2 : Bool, ¬ (!decide (V.bl b1 = V.bl b2)) = true → b1 = b2 := fun b1 b2 h => by
          by_cases z : b1 = b2
          · exact z
          · exact absurd (show (!decide (V.bl b1 = V.bl b2)) = true by rw [decide_eq_false fun y => z (V.bl.inj y)]; rfl) h
        refine ⟨_, rfl, _, _, _, _, _, rfl, .ty _, ty_at hy sm2, kit_ty (kit_bl e), ⟨_, rfl, _, _, _, _, _, rfl, .ty _, ty_at hx sm2, kit_ty (kit_bl d), ⟨rfl, _, rfl, ite2 (fun c1 => iteT (bad _ sm2 fun z => other _ _ c1 (by rw [z]))) (fun c1 => ?_)⟩⟩⟩
        refine ⟨_, rfl, _, _, _, _, _, rfl, .ty _, ty_at hy sm2, kit_ty (kit_st e), ⟨_, rfl, _, _, _, _, _, rfl, .ty _, ty_at hx sm2, kit_ty (kit_st d), ⟨rfl, _, rfl, ite2 (fun c2 => bad _ sm2 fun z => other _ _ c2 (by rw [z])) (fun c2 => ?_)⟩⟩⟩
        have k1 := alike _ _ c1
        have k2 := alike _ _ c2
        -- not isinstance(two, str) and not isinstance(one, int) or one != two
        refine ⟨_, rfl, _, _, _, _, _, rfl, .ty _, ty_at hy sm2, kit_ty (kit_st e), ⟨_, rfl, ?_⟩⟩
        have last : (isSt e = true ∨ isIn d = true) → scal x y = true ∧ ((!decide (x = y)) = true → d ≠ e) ∧ (¬ (!decide (x = y)) = true → d = e) := fun h => by
          obtain ⟨h1, h2⟩ := leaf_ne hx hy ne' cs k1 k2 h
          refine ⟨h1, fun z y' => ?_, fun z => ?_⟩
          · rw [decide_eq_true (h2.mpr y')] at z
            cases z
          · refine h2.mp ?_
            by_cases y' : x = y
            · exact y'
            · rw [decide_eq_false y'] at z
              exact absurd rfl z
        cases hst : isSt e with
        | true =>
          obtain ⟨h1, h2, h3⟩ := last (.inl hst)
          refine ⟨_, rfl, _, rfl, h1, _, rfl, ite2 (fun c4 => bad _ sm2 (h2 c4)) (fun c4 => good _ _ _ _ _ _ sm2 hl2 pr2 (h3 c4))⟩
        | false =>
          refine ⟨_, rfl, _, _, _, _, _, rfl, .ty _, ty_at hx sm2, kit_ty (kit_in d), ⟨_, rfl, ?_⟩⟩
          cases hin : isIn d with
          | true =>
            obtain ⟨h1, h2, h3⟩ := last (.inr hin)
            refine ⟨_, rfl, _, rfl, h1, _, rfl, ite2 (fun c4 => bad _ sm2 (h2 c4)) (fun c4 => good _ _ _ _ _ _ sm2 hl2 pr2 (h3 c4))⟩
          | false =>
            refine bad _ sm2 fun z => ?_
            subst z
            cases hy <;> simp_all [isTup, isLst, isSt, isIn]
    · rintro σ H' ⟨v3, v4, v5, v6, v7, ps, st, rfl, sm, hl, pr, hw, eqv⟩
      exact absurd hw (by show ¬ (1000000 + work st ≤ 999999); omega)
end
/-! ### K42: the program's own defs -/
open M42
def isI : PyData → Bool
  | .int _ => true
  | _ => false
def amt : PyData → Bool
  | .int p => decide (0 ≤ p)
  | _ => false
section
variable {P : Program} {w : World} {K : PySem.W.Frag} {mg : Str → Option Value} {base : Heap}
def spWhole (K : PySem.W.Frag) : Sp := fun vs H Q _ => ∃ (x : V) (d : PyData), vs = [x] ∧ Dp K H x d ∧ Q (.bl (isI d)) H
def spAmount (K : PySem.W.Frag) : Sp := fun vs H Q _ => ∃ (x : V) (d : PyData), vs = [x] ∧ Dp K H x d ∧ Q (.bl (amt d)) H
abbrev N_is_whole : List Str := ["item"]
theorem sc_is_whole : FnScope N_is_whole ["item"] (defScope s_is_whole) := ⟨rfl, rfl, rfl, by decide +kernel, rfl, by decide +kernel, by decide +kernel⟩
theorem bi_is_whole {K : PySem.W.Frag} {mg : Str → Option Value} {f : Addr} {fd : FuncData} (D : Dd K mg "is_whole" s_is_whole f fd) : Binds K fd ["item"] [] := D.fn.bindsN fun _ _ _ _ _ _ us hl => match us, hl with | [_], _ => rfl
theorem ok_is_whole (T : Tx K mg) : OkF P w K mg base CX0 1 "is_whole" ["item"] (spWhole K) := by
  obtain ⟨fd, D⟩ := dd_is_whole T
  refine okF0 D sc_is_whole (bi_is_whole D) (fun vs H Q E h => ?_) (fun cdv A outer s H vs Q E hr h => ?_)
  · obtain ⟨x, d, rfl, _⟩ := h
    rfl
  · obtain ⟨x, d, rfl, hx, q⟩ := h
    refine ⟨_, (pss_one (ps_ret (pe_and (pe_callB call_isi (by rfl) (m_isinstance T) (by decide +kernel) (pa_cons (pv 0) (pa_cons (pe_bltn (v := .ty "int") (by rfl) (m_int T) (by decide +kernel) rfl) pa_nil))) (pe_one (pe_not (pe_callB call_isi (by rfl) (m_isinstance T) (by decide +kernel) (pa_cons (pv 0) (pa_cons (pe_bltn (v := .ty "bool") (by rfl) (m_bool T) (by decide +kernel) rfl) pa_nil)))))))), ?_⟩
    refine ⟨_, rfl, _, _, _, _, _, rfl, .ty _, dp_ty hx, kit_ty (kit_in d), ⟨_, rfl, ?_⟩⟩
    cases hi : isIn d with
    | false =>
      refine iteF ?_
      have e : isI d = false := by cases d <;> first | rfl | cases hi
      rw [← e]
      exact q
    | true =>
      refine iteT ⟨_, rfl, _, _, _, _, _, rfl, .ty _, dp_ty hx, kit_ty (kit_bl d), ⟨_, rfl, ?_⟩⟩
      have e : isI d = !isBl d := by cases d <;> first | rfl | cases hi
      rw [← e]
      exact q
abbrev N_is_amount : List Str := ["item"]
theorem sc_is_amount : FnScope N_is_amount ["item"] (defScope s_is_amount) := ⟨rfl, rfl, rfl, by decide +kernel, rfl, by decide +kernel, by decide +kernel⟩
theorem bi_is_amount {K : PySem.W.Frag} {mg : Str → Option Value} {f : Addr} {fd : FuncData} (D : Dd K mg "is_amount" s_is_amount f fd) : Binds K fd ["item"] [] := D.fn.bindsN fun _ _ _ _ _ _ us hl => match us, hl with | [_], _ => rfl
theorem ok_is_amount (T : Tx K mg) : OkF P w K mg base CX0 2 "is_amount" ["item"] (spAmount K) := by
  obtain ⟨fd, D⟩ := dd_is_amount T
  refine okF0 D sc_is_amount (bi_is_amount D) (fun vs H Q E h => ?_) (fun cdv A outer s H vs Q E hr h => ?_)
  · obtain ⟨x, d, rfl, _⟩ := h
    rfl
  · obtain ⟨x, d, rfl, hx, q⟩ := h
    refine ⟨_, (pss_one (ps_ret (pe_and (pe_callO (ok_is_whole T) (hr.mono (by decide)) pass0 (pa_cons (pv 0) pa_nil)) (pe_one (pe_cmpR op_ge (pv 0) pe_int (nomark _)))))), ?_⟩
    refine ⟨_, rfl, x, d, rfl, hx, ⟨_, rfl, ?_⟩⟩
    cases hx with
    | int p => exact iteT ⟨_, rfl, _, _, rfl, rfl, q⟩
    | _ => exact iteF q
/-- the calls: a tuple or list of tuples, the first a name -/
def IsCall (K : PySem.W.Frag) (H : Hp) (v : V) (n : Str) : Prop := ∃ (t : Addr) (j : V), v = .ref t ∧ SqT K H t [.str n, j]
/-- the dict of items -/
def IsTab (K : PySem.W.Frag) (H : Hp) (kvs : List (Key × V)) (t : List (Str × PyData)) : Prop := Paired (fun (kv : Key × V) (e : Str × PyData) => kv.1 = .inr e.1 ∧ Dp K H kv.2 e.2) kvs t
theorem tab_get {H : Hp} {kvs : List (Key × V)} {t : List (Str × PyData)} (h : IsTab K H kvs t) (n : Str) : (valV kvs (Sum.inr n : Key) = none ∧ lk t n = none) ∨ ∃ v d, valV kvs (Sum.inr n : Key) = some v ∧ lk t n = some d ∧ Dp K H v d := by
  induction h with
  | nil => exact .inl ⟨rfl, rfl⟩
  | @cons kv e kvs t h _ ih =>
    obtain ⟨k, v⟩ := kv
    obtain ⟨m, d⟩ := e
    obtain ⟨h1, h2⟩ := h
    simp only at h1 h2
    subst h1
    by_cases c : m = n
    · subst c
      exact .inr ⟨v, d, by unfold valV; simp, by unfold lk; simp, h2⟩
    · rcases ih with ⟨i1, i2⟩ | ⟨v', d', i1, i2, i3⟩
      · refine .inl ⟨?_, ?_⟩
        · unfold valV at i1 ⊢
          rw [List.find?_cons_of_neg (by simp [c])]
          exact i1
        · unfold lk at i2 ⊢
          rw [List.find?_cons_of_neg (by simp [c])]
          exact i2
      · refine .inr ⟨v', d', ?_, ?_, i3⟩
        · unfold valV at i1 ⊢
          rw [List.find?_cons_of_neg (by simp [c])]
          exact i1
        · unfold lk at i2 ⊢
          rw [List.find?_cons_of_neg (by simp [c])]
          exact i2
def spPrice (K : PySem.W.Frag) : Sp := fun vs H Q E => ∃ (ct pd : Addr) (xs : List V) (names : List Str) (kvs : List (Key × V)) (t : List (Str × PyData)), vs = [.ref ct, .ref pd] ∧ SqT K H ct xs ∧ Paired (IsCall K H) xs names ∧ names.length < 64 ∧ H pd = some (.dK kvs) ∧ IsTab K H kvs t ∧
  (∀ n, n ∈ names → (lk t n).bind fine = none → (∀ m ∈ names, (lk t m).bind fine = none → le n m) → ∀ (d : Addr) (H' : Hp), Same H H' → H' d = none → E (.ref (He.ga K "BadPrice")) (some d) (upd H' d (.xd (mk_BadPrice [.str n])))) ∧
  ((∀ n ∈ names, (lk t n).bind fine ≠ none) → ∀ H', Same H H' → Q (.int (names.map (priceOf fun n => (lk t n).bind fine)).sum) H')
theorem isCall_same {H H' : Hp} {v : V} {n : Str} (s : Same H H') (h : IsCall K H v n) : IsCall K H' v n := by
  obtain ⟨t, j, e, g⟩ := h
  exact ⟨t, j, e, sqT_same s g⟩
theorem paired_get {α β : Type} {R : α → β → Prop} : ∀ {xs : List α} {ys : List β}, Paired R xs ys → ∀ (i : Nat) (x : α), xs[i]? = some x → ∃ y, ys[i]? = some y ∧ R x y
  | _, _, .nil, i, x, h => by simp at h
  | _, _, .cons a _, 0, x, h => by
    simp at h
    subst h
    exact ⟨_, rfl, a⟩
  | _, _, .cons _ t, i + 1, x, h => paired_get t i x (by simpa using h)
theorem fine_no {d0 : PyData} {r : List PyData} (h : amt d0 = false) : fine (.tuple (d0 :: r)) = none := by
  cases d0 with
  | int p =>
    show (if p < 0 then none else some p) = none
    rw [if_pos]
    have : ¬ 0 ≤ p := fun z => by
      rw [show amt (.int p) = decide (0 ≤ p) from rfl, decide_eq_true z] at h
      cases h
    omega
  | _ => rfl
theorem fine_yes {d0 : PyData} {r : List PyData} (h : amt d0 = true) : ∃ p, d0 = .int p ∧ fine (.tuple (d0 :: r)) = some p := by
  cases d0 with
  | int p =>
    refine ⟨p, rfl, ?_⟩
    show (if p < 0 then none else some p) = some p
    have : 0 ≤ p := of_decide_eq_true h
    rw [if_neg (by omega)]
  | _ => cases h
theorem fine_some {d : PyData} {p : Int} (h : fine d = some p) : ∃ r, d = .tuple (.int p :: r) := by
  match d, h with
  | .tuple (.int q :: r), h =>
    have h : (if q < 0 then none else some q) = some p := h
    by_cases c : q < 0
    · rw [if_pos c] at h
      cases h
    · rw [if_neg c] at h
      cases h
      exact ⟨r, rfl⟩
  | .tuple [], h => cases h
abbrev N_price_of : List Str := ["calls", "prices", "name", "call", "item"]
theorem sc_price_of : FnScope N_price_of ["calls", "prices"] (defScope s_price_of) := ⟨rfl, rfl, rfl, by decide +kernel, rfl, by decide +kernel, by decide +kernel⟩
theorem bi_price_of {K : PySem.W.Frag} {mg : Str → Option Value} {f : Addr} {fd : FuncData} (D : Dd K mg "price_of" s_price_of f fd) : Binds K fd ["calls", "prices"] [] := D.fn.bindsN fun _ _ _ _ _ _ us hl => match us, hl with | [_, _], _ => rfl
theorem ok_price_of (T : Tx K mg) : OkF P w K mg base (L2N.CX P w) 4 "price_of" ["calls", "prices"] (spPrice K) := by
  obtain ⟨fd, D⟩ := dd_price_of T
  refine okFN D sc_price_of (bi_price_of D) (fun vs H Q E h => ?_) (fun cdv A outer s H vs Q E hr h => ?_)
  · obtain ⟨ct, pd, xs, names, kvs, t, rfl, _⟩ := h
    rfl
  · obtain ⟨ct, pd, xs, names, kvs, t, rfl, hct, hcs, hlen, hpd, ht, hbad, hgood⟩ := h
    have hu := hu_of hr
    refine ⟨_, (pss_cons (ps_for PassesOwn.leaving rfl (pi_list (pe_callB (Tx.cr_sorted rfl) (by rfl) (m_sorted T) (by decide +kernel) (pa_cons (Tx.pe_sc (own := [("call", 3)]) (g := gName 3) (tt := tYes) rfl sc_price_of.nd (pi_tup (pv 0)) (blkOk_by (own := [("call", 3)]) (N := N_price_of) (sc := defScope s_price_of) (by decide +kernel)) (fun _ _ _ _ _ => pg_name (i := 3) sc_price_of.nd rfl (Or.inl rfl)) (fun _ _ _ _ _ => pts_nil) (fun _ _ _ _ _ => (pe_ix (show IxR _ (rIxT K) from ix_tup) (pv 3) pe_int (fun _ _ => rfl)))) pa_nil))) (pg_name (i := 2) sc_price_of.nd rfl (Or.inl rfl))
      (pss_cons (ps_if (pt_cmp (pc_dnotin hu (pv 2) (pv 1)) rfl)
      (pss_one (L2N.ps_raise rfl (L2N.takes_of rfl rfl rfl rfl) (pmk_x (x_BadPrice T) hr (by decide) (by decide) (pa_cons (pv 2) pa_nil))))
      pss_nil)
      (pss_cons (ps_set (i := 4) sc_price_of.nd rfl (Or.inl rfl) (pe_dget hu (pv 1) (pv 2) (fun _ _ => rfl)))
      (pss_one (ps_if (PW.pt (pw_or (pt_not (pt_val (pe_callB call_isi (by rfl) (m_isinstance T) (by decide +kernel) (pa_cons (pv 4) (pa_cons (pe_bltn (v := .ty "tuple") (by rfl) (m_tuple T) (by decide +kernel) rfl) pa_nil))))) (pw_or (pt_cmpR op_eq (pe_callB call_len (by rfl) (m_len T) (by decide +kernel) (pa_cons (pv 4) pa_nil)) pe_int (nomark _)) (pw_or1 (pt_not (pt_val (pe_callO (ok_is_amount T) (hr.mono (by decide)) pass0 (pa_cons (pe_ix ix_seq (pv 4) pe_int (fun _ _ => rfl)) pa_nil))))))))
      (pss_one (L2N.ps_raise rfl (L2N.takes_of rfl rfl rfl rfl) (pmk_x (x_BadPrice T) hr (by decide) (by decide) (pa_cons (pv 2) pa_nil))))
      pss_nil)))))
      (pss_one (ps_ret (pe_callB (cr_sum rfl) (by rfl) (m_sum T) (by decide +kernel) (pa_cons (pe_lc (own := [("call", 3)]) (g := gName 3) (tt := tYes) rfl sc_price_of.nd (pi_tup (pv 0)) (blkOk_by (own := [("call", 3)]) (N := N_price_of) (sc := defScope s_price_of) (by decide +kernel)) (fun _ _ _ _ _ => pg_name (i := 3) sc_price_of.nd rfl (Or.inl rfl)) (fun _ _ _ _ _ => pts_nil) (fun _ _ _ _ _ => (pe_ix (show IxR _ (rIx K) from ix_seq) (pe_dget hu (pv 1) (pe_ix (show IxR _ (rIxT K) from ix_tup) (pv 3) pe_int (fun _ _ => rfl)) (fun _ _ => rfl)) pe_int (fun _ _ => rfl)))) pa_nil))))), ?_⟩
    generalize hf : (fun n => (lk t n).bind fine) = f at hgood
    have hf2 : ∀ n, (lk t n).bind fine = f n := fun n => congrFun hf n
    have plen := Paired.length hcs
    refine ⟨_, rfl, ct, rfl, ⟨_, hct⟩, fun D nD => Tx.sc_tup (w := w) (K := K) (a := ct) (xs := xs) (fun i H' => ∃ l : List Str, H' D = some (Tx.O w D l) ∧ l.Nodup ∧ (∀ x, x ∈ l ↔ x ∈ names.take i) ∧ Same H H')
      ⟨[], upd_same, .nil, fun x => by simp, same_new (Same.refl H) nD⟩ (fun i H' _ ⟨_, _, _, _, sm⟩ => sqT_same sm hct) ?_ ?_⟩
    · rintro i x H' hx ⟨l, hD, nd, hm, sm⟩
      obtain ⟨n, hn, tc, j, rfl, hc⟩ := paired_get hcs i x hx
      have lt : i < names.length := (List.getElem?_eq_some_iff.mp hn).1
      refine ⟨rfl, ?_⟩
      unfold tYes
      refine iteT ⟨_, rfl, _, _, _, _, rfl, rfl, sqT_same sm hc, rfl, n, l, rfl, hD, ?_, Tx.ins n l, upd_same, ?_, fun y => ?_, same_put sm nD⟩
      · have := nd.length_le_of_subset (l₂ := names.take i) fun y hy => (hm y).mp hy
        rw [List.length_take] at this
        have b : (1000 : Nat) < scanBound := by decide
        omega
      · unfold Tx.ins
        by_cases c : n ∈ l
        · rw [if_pos c]
          exact nd
        · rw [if_neg c]
          exact List.nodup_cons.mpr ⟨c, nd⟩
      · rw [List.take_add_one, hn]
        unfold Tx.ins
        by_cases c : n ∈ l
        · rw [if_pos c, hm]
          simp only [Option.toList, List.mem_append, List.mem_singleton]
          exact ⟨.inl, fun z => z.elim id fun e => by rw [e]; exact (hm n).mp c⟩
        · rw [if_neg c, List.mem_cons, hm]
          simp only [Option.toList, List.mem_append, List.mem_singleton]
          exact Or.comm
    rintro H1 ⟨l, hD, nd, hm, sm1⟩
    have hm : ∀ x, x ∈ l ↔ x ∈ names := fun x => by
      rw [hm x, List.take_of_length_le (by omega)]
    have ll := nd.length_le_of_subset (l₂ := names) fun y hy => (hm y).mp hy
    refine ⟨D, l, rfl, hD, by omega, fun ys p pm srt np => ?_⟩
    have hmy : ∀ x, x ∈ ys ↔ x ∈ names := fun x => pm.mem_iff.trans (hm x)
    have pw := sorted_pw srt
    have smp : Same H (upd H1 p (.lst (ys.map V.str))) := same_new sm1 np
    have npH : H p = none := sm1.free np
    refine ⟨p, rfl, ⟨_, SqL.of upd_same⟩, for_list (K := K) (a := p) (xs := ys.map V.str) (fun i σ H' => ∃ (v2 v3 v4 : Option V), σ = [some (.ref ct), some (.ref pd), v2, v3, v4] ∧ Same H H' ∧ H' p = some (.lst (ys.map V.str)) ∧ ∀ j m, j < i → ys[j]? = some m → ¬ f m = none)
      ⟨_, _, _, rfl, smp, upd_same, fun j m h => by omega⟩ (fun i σ H' _ ⟨_, _, _, _, _, e, _⟩ => SqL.of e) ?_ ?_⟩
    · rintro i x σ H' hx ⟨v2, v3, v4, rfl, sm, hp, hok⟩
      rw [List.getElem?_map] at hx
      obtain ⟨n, hn, rfl⟩ := Option.map_eq_some_iff.mp hx
      have hpd' := sm _ _ hpd
      have inn : n ∈ names := (hmy n).mp (List.mem_of_getElem? hn)
      have raise : ∀ σ : L2.St, σ[2]? = some (some (V.str n)) → f n = none → tMkX (He.ga K "BadPrice") 1 mk_BadPrice (tCons (tVar 2) tNil) σ H' fun cls d H' => E cls d H' := fun σ e b => by
        refine ⟨_, e, rfl, fun d nd => hbad n inn ((hf2 n).trans b) (fun m hm2 hb => ?_) d H' sm nd⟩
        rw [hf2] at hb
        exact first_min (bad := fun m => f m = none) pw hn hok m ((hmy m).mpr hm2) hb
      have next : ∀ (v3 v4 : Option V), f n ≠ none → ∃ (v2 v3' v4' : Option V), [some (V.ref ct), some (V.ref pd), some (V.str n), v3, v4] = [some (.ref ct), some (.ref pd), v2, v3', v4'] ∧ Same H H' ∧ H' p = some (.lst (ys.map V.str)) ∧ ∀ j m, j < i + 1 → ys[j]? = some m → ¬ f m = none := fun v3 v4 h => by
        refine ⟨_, _, _, rfl, sm, hp, fun j m hj hm2 => ?_⟩
        by_cases c : j = i
        · subst c
          rw [hn] at hm2
          cases hm2
          exact h
        · exact hok j m (by omega) hm2
      refine ⟨_, rfl, _, rfl, pd, _, rfl, DGet.k (k := Sum.inr n) hpd', _, rfl, ?_⟩
      rcases tab_get ht n with ⟨g1, g2⟩ | ⟨v, d, g1, g2, hv⟩
      · rw [g1]
        refine iteT (raise _ rfl ?_)
        rw [← hf2, g2]
        rfl
      rw [g1]
      refine iteF ⟨_, rfl, _, rfl, pd, v, rfl, by rw [← g1]; exact DGet.k (k := Sum.inr n) hpd', ?_⟩
      have ef : f n = fine d := by
        rw [← hf2, g2]
        rfl
      have hv := dp_same sm hv
      refine ⟨_, rfl, _, _, _, _, _, rfl, .ty _, dp_ty hv, kit_ty (kit_tup d), ⟨_, rfl, ?_⟩⟩
      cases hv with
      | tup h1 h2 =>
        refine iteF ⟨_, rfl, _, _, rfl, len_rd (.inr h1), rfl, _, rfl, ?_⟩
        cases h2 with
        | nil => exact iteT (raise _ rfl ef)
        | cons h3 h4 =>
          rename_i v0 vr d0 dr
          refine iteF ⟨_, rfl, .inr (.inl ⟨_, _, _, _, rfl, rfl, h1, atI_nat (j := 0) rfl, v0, d0, rfl, h3, ⟨_, rfl, ?_⟩⟩)⟩
          cases hb : amt d0 with
          | false => exact iteT (raise _ rfl (ef.trans (fine_no hb)))
          | true =>
            refine iteF (next _ _ ?_)
            obtain ⟨p0, _, e2⟩ := fine_yes (r := dr) hb
            rw [ef, e2]
            exact fun z => by cases z
      | _ => exact iteT (iteT (raise _ rfl ef))
    · rintro σ H' ⟨v2, v3, v4, rfl, sm, hp, hok⟩
      have good : ∀ n ∈ names, f n ≠ none := fun n hn => by
        obtain ⟨j, hj⟩ := List.mem_iff_getElem?.mp ((hmy n).mpr hn)
        exact hok j n (by have := (List.getElem?_eq_some_iff.mp hj).1; simpa using this) hj
      have fin := hgood (fun n hn => by rw [hf2]; exact good n hn)
      refine ⟨_, rfl, ct, rfl, ⟨_, sqT_same sm hct⟩, fun D2 nD2 => lc_tup (K := K) (a := ct) (xs := xs) (fun i H2 => H2 D2 = some (.lst (((names.take i).map (priceOf f)).map V.int)) ∧ Same H' H2) ⟨upd_same, same_new (Same.refl H') nD2⟩ (fun i H2 _ h => sqT_same (sm.trans h.2) hct) ?_ ?_⟩
      · rintro i x H2 hx ⟨hD2, s2⟩
        have s3 := sm.trans s2
        obtain ⟨n, hn, tc, j, rfl, hc⟩ := paired_get hcs i x hx
        have lt : i < names.length := (List.getElem?_eq_some_iff.mp hn).1
        have inn := List.mem_of_getElem? hn
        obtain ⟨pr, hpr⟩ := Option.ne_none_iff_exists'.mp (good n inn)
        rcases tab_get ht n with ⟨g1, g2⟩ | ⟨v, d, g1, g2, hv⟩
        · have := hf2 n
          rw [g2, hpr] at this
          cases this
        have ef : fine d = some pr := by
          have := hf2 n
          rw [g2, hpr] at this
          exact this
        obtain ⟨r, rfl⟩ := fine_some ef
        cases dp_same s3 hv with
        | tup h1 h2 =>
          cases h2 with
          | cons h3 h4 =>
            cases h3
            refine ⟨rfl, ?_⟩
            unfold tYes
            refine iteT ⟨_, rfl, _, rfl, _, _, _, _, rfl, rfl, sqT_same s3 hc, rfl, pd, _, rfl, by rw [← g1]; exact DGet.k (k := Sum.inr n) (s3 _ _ hpd), .inr (.inl ⟨_, _, _, _, rfl, rfl, h1, atI_nat (j := 0) rfl, _, hD2, ?_, ?_, same_put s2 nD2⟩)⟩
            · rw [List.length_map, List.length_map, List.length_take]
              have := sizeLine_eq
              omega
            · rw [upd_same, List.take_add_one, hn]
              simp only [Option.toList, List.map_append, List.map_cons, List.map_nil]
              unfold priceOf
              rw [hpr]
              rfl
      · rintro H2 ⟨hD2, s2⟩
        refine ⟨D2, _, rfl, SqL.of hD2, ?_⟩
        rw [List.take_of_length_le (by omega)]
        exact fin H2 (sm.trans s2)
end
/-! ### K42: what is asked -/
open M42 L2H HotX
def spFine (K : PySem.W.Frag) (x : Str) (mk : List V → List (Str × V)) : Addr × Obj → Sp := fun p vs H Q _ => ∃ (d : Addr) (us : List V) (z : Str), vs = [.ref p.1, .str z] ∧ Hx p (He.ga K x) d ∧ H d = some (.xd (mk us)) ∧ (mk us).lookup ("called" : Str) = some (V.str z) ∧ ∀ H', Same H H' → Q (.bl true) H'
section
variable {P : Program} {w : World} {K : PySem.W.Frag} {mg : Str → Option Value} {base : Heap}
theorem xd_new {H : Hp} {d p : Addr} {o u : HO} (h : H d = some u) (np : H p = none) : (upd H p o) d = some u := by
  rw [upd_ne (ne_of_none h np)]
  exact h
abbrev N_law_fine : List Str := ["error", "kind", "flags", "flag"]
theorem sc_law_fine : FnScope N_law_fine ["error", "kind"] (defScope s_law_fine) := ⟨rfl, rfl, rfl, by decide +kernel, rfl, by decide +kernel, by decide +kernel⟩
theorem bi_law_fine {K : PySem.W.Frag} {mg : Str → Option Value} {f : Addr} {fd : FuncData} (D : Dd K mg "_law_fine" s_law_fine f fd) : Binds K fd ["error", "kind"] [] := D.fn.bindsN fun _ _ _ _ _ _ us hl => match us, hl with | [_, _], _ => rfl
theorem okP_law_fine (T : Tx K mg) : OkP P w K mg base CX0 2 "_law_fine" ["error", "kind"] (spFine K "BadPrice" mk_BadPrice) := by
  obtain ⟨fd, D⟩ := dd_law_fine T
  refine okP0 D sc_law_fine (bi_law_fine D) (fun p vs H Q E h => ?_) (fun cdv A outer s H vs Q E p hot1 hr h => ?_)
  · obtain ⟨d, us, z, rfl, _⟩ := h
    rfl
  · obtain ⟨d, us, z, rfl, hx, hd, hcl, q⟩ := h
    have hrH := hr
    have hpm : p ∈ (cxH CX0 P w K mg base N_law_fine "_law_fine" (defScope s_law_fine) (He.ga K "_law_fine") cdv A outer s H E p).nox.pn := List.mem_cons_self
    have hot : HotC (cxH CX0 P w K mg base N_law_fine "_law_fine" (defScope s_law_fine) (He.ga K "_law_fine") cdv A outer s H E p).nox := ⟨p, hot1, List.mem_cons_self⟩
    have xce := (xc_BadPrice T).e
    have flx := @fl_BadPrice K mg T
    refine ⟨_, (pss_cons (ps_set (i := 2) sc_law_fine.nd rfl (Or.inl rfl) (pe_lst (pa_cons (pe_callB (call_isP hpm hx xce) (by rfl) (m_isinstance T) (by decide +kernel) (pa_cons (pv 0) (pa_cons (pe_glob (v := .ref (He.ga K "TooMany")) rfl (g_TooMany T) rfl) pa_nil))) (pa_cons (pe_callB (call_isP hpm hx xce) (by rfl) (m_isinstance T) (by decide +kernel) (pa_cons (pv 0) (pa_cons (pe_glob (v := .ref (He.ga K "Mismatch")) rfl (g_Mismatch T) rfl) pa_nil))) (pa_cons (pe_callB (call_isP hpm hx xce) (by rfl) (m_isinstance T) (by decide +kernel) (pa_cons (pv 0) (pa_cons (pe_glob (v := .ref (He.ga K "BadWidth")) rfl (g_BadWidth T) rfl) pa_nil))) (pa_cons (pe_callB (call_isP hpm hx xce) (by rfl) (m_isinstance T) (by decide +kernel) (pa_cons (pv 0) (pa_cons (pe_glob (v := .ref (He.ga K "BadExit")) rfl (g_BadExit T) rfl) pa_nil))) (pa_cons (pe_callB (call_isP hpm hx xce) (by rfl) (m_isinstance T) (by decide +kernel) (pa_cons (pv 0) (pa_cons (pe_glob (v := .ref (He.ga K "BadName")) rfl (g_BadName T) rfl) pa_nil))) (pa_cons (pe_callB (call_isP hpm hx xce) (by rfl) (m_isinstance T) (by decide +kernel) (pa_cons (pv 0) (pa_cons (pe_glob (v := .ref (He.ga K "BadOuts")) rfl (g_BadOuts T) rfl) pa_nil))) (pa_cons (pe_callB (call_isP hpm hx xce) (by rfl) (m_isinstance T) (by decide +kernel) (pa_cons (pv 0) (pa_cons (pe_glob (v := .ref (He.ga K "BadText")) rfl (g_BadText T) rfl) pa_nil))) (pa_cons (pe_callB (call_isP hpm hx xce) (by rfl) (m_isinstance T) (by decide +kernel) (pa_cons (pv 0) (pa_cons (pe_glob (v := .ref (He.ga K "BadTree")) rfl (g_BadTree T) rfl) pa_nil))) (pa_cons (pe_callB (call_isP hpm hx xce) (by rfl) (m_isinstance T) (by decide +kernel) (pa_cons (pv 0) (pa_cons (pe_glob (v := .ref (He.ga K "BadForm")) rfl (g_BadForm T) rfl) pa_nil))) (pa_cons (pe_callB (call_isP hpm hx xce) (by rfl) (m_isinstance T) (by decide +kernel) (pa_cons (pv 0) (pa_cons (pe_glob (v := .ref (He.ga K "BadScript")) rfl (g_BadScript T) rfl) pa_nil))) (pa_cons (pe_callB (call_isP hpm hx xce) (by rfl) (m_isinstance T) (by decide +kernel) (pa_cons (pv 0) (pa_cons (pe_glob (v := .ref (He.ga K "BadMove")) rfl (g_BadMove T) rfl) pa_nil))) (pa_cons (pe_callB (call_isP hpm hx xce) (by rfl) (m_isinstance T) (by decide +kernel) (pa_cons (pv 0) (pa_cons (pe_glob (v := .ref (He.ga K "BadDevice")) rfl (g_BadDevice T) rfl) pa_nil))) (pa_cons (pe_callB (call_isP hpm hx xce) (by rfl) (m_isinstance T) (by decide +kernel) (pa_cons (pv 0) (pa_cons (pe_glob (v := .ref (He.ga K "NoStep")) rfl (g_NoStep T) rfl) pa_nil))) (pa_cons (pe_callB (call_isP hpm hx xce) (by rfl) (m_isinstance T) (by decide +kernel) (pa_cons (pv 0) (pa_cons (pe_glob (v := .ref (He.ga K "BadTable")) rfl (g_BadTable T) rfl) pa_nil))) (pa_cons (pe_callB (call_isP hpm hx xce) (by rfl) (m_isinstance T) (by decide +kernel) (pa_cons (pv 0) (pa_cons (pe_glob (v := .ref (He.ga K "Ring")) rfl (g_Ring T) rfl) pa_nil))) (pa_cons (pe_callB (call_isP hpm hx xce) (by rfl) (m_isinstance T) (by decide +kernel) (pa_cons (pv 0) (pa_cons (pe_glob (v := .ref (He.ga K "BadCode")) rfl (g_BadCode T) rfl) pa_nil))) (pa_cons (pe_callB (call_isP hpm hx xce) (by rfl) (m_isinstance T) (by decide +kernel) (pa_cons (pv 0) (pa_cons (pe_glob (v := .ref (He.ga K "OffEnd")) rfl (g_OffEnd T) rfl) pa_nil))) (pa_cons (pe_callB (call_isP hpm hx xce) (by rfl) (m_isinstance T) (by decide +kernel) (pa_cons (pv 0) (pa_cons (pe_glob (v := .ref (He.ga K "NoAnswer")) rfl (g_NoAnswer T) rfl) pa_nil))) (pa_cons (pe_callB (call_isP hpm hx xce) (by rfl) (m_isinstance T) (by decide +kernel) (pa_cons (pv 0) (pa_cons (pe_glob (v := .ref (He.ga K "NoPlace")) rfl (g_NoPlace T) rfl) pa_nil))) (pa_cons (pe_callB (call_isP hpm hx xce) (by rfl) (m_isinstance T) (by decide +kernel) (pa_cons (pv 0) (pa_cons (pe_glob (v := .ref (He.ga K "NotCatching")) rfl (g_NotCatching T) rfl) pa_nil))) (pa_cons (pe_callB (call_isP hpm hx xce) (by rfl) (m_isinstance T) (by decide +kernel) (pa_cons (pv 0) (pa_cons (pe_glob (v := .ref (He.ga K "NotScript")) rfl (g_NotScript T) rfl) pa_nil))) (pa_cons (pe_callB (call_isP hpm hx xce) (by rfl) (m_isinstance T) (by decide +kernel) (pa_cons (pv 0) (pa_cons (pe_glob (v := .ref (He.ga K "BadDivision")) rfl (g_BadDivision T) rfl) pa_nil))) (pa_cons (pe_callB (call_isP hpm hx xce) (by rfl) (m_isinstance T) (by decide +kernel) (pa_cons (pv 0) (pa_cons (pe_glob (v := .ref (He.ga K "NotMergeable")) rfl (g_NotMergeable T) rfl) pa_nil))) (pa_cons (pe_callB (call_isP hpm hx xce) (by rfl) (m_isinstance T) (by decide +kernel) (pa_cons (pv 0) (pa_cons (pe_glob (v := .ref (He.ga K "NotPiece")) rfl (g_NotPiece T) rfl) pa_nil))) (pa_cons (pe_callB (call_isP hpm hx xce) (by rfl) (m_isinstance T) (by decide +kernel) (pa_cons (pv 0) (pa_cons (pe_glob (v := .ref (He.ga K "Unknown")) rfl (g_Unknown T) rfl) pa_nil))) (pa_cons (pe_callB (call_isP hpm hx xce) (by rfl) (m_isinstance T) (by decide +kernel) (pa_cons (pv 0) (pa_cons (pe_glob (v := .ref (He.ga K "Doubled")) rfl (g_Doubled T) rfl) pa_nil))) (pa_cons (pe_callB (call_isP hpm hx xce) (by rfl) (m_isinstance T) (by decide +kernel) (pa_cons (pv 0) (pa_cons (pe_glob (v := .ref (He.ga K "BadPrice")) rfl (g_BadPrice T) rfl) pa_nil))) (pa_cons (pe_callB (call_isP hpm hx xce) (by rfl) (m_isinstance T) (by decide +kernel) (pa_cons (pv 0) (pa_cons (pe_glob (v := .ref (He.ga K "Nothing")) rfl (g_Nothing T) rfl) pa_nil))) pa_nil))))))))))))))))))))))))))))))
      (pss_cons (ps_if (PW.pt (pw_or (pt_cmpR op_ne (pe_callB call_len_seq (by rfl) (m_len T) (by decide +kernel) (pa_cons (pe_lcH (own := [("flag", 3)]) (g := gName 3) hot sc_law_fine.nd (pi_listH (pv 2)) (blkOk_by (own := [("flag", 3)]) (N := N_law_fine) (sc := defScope s_law_fine) (by decide +kernel)) (fun _ _ _ _ _ => pg_name (i := 3) sc_law_fine.nd rfl (Or.inl rfl)) (fun _ _ _ _ _ => pts_one (pt_val (pv 3))) (fun _ _ _ _ _ => (pv 3))) pa_nil)) pe_int (nomark _)) (pw_or1 (pt_not (pt_val (pe_callB (call_isP hpm hx xce) (by rfl) (m_isinstance T) (by decide +kernel) (pa_cons (pv 0) (pa_cons (pe_bltn (v := .ty "ValueError") (by rfl) (m_ValueError T) (by decide +kernel) rfl) pa_nil))))))))
      (pss_one (ps_ret pe_bl))
      pss_nil)
      (pss_one (ps_ret (pe_and (pe_callB (call_isP hpm hx xce) (by rfl) (m_isinstance T) (by decide +kernel) (pa_cons (pv 0) (pa_cons (pe_glob (v := .ref (He.ga K "Refused")) rfl (g_Refused T) rfl) pa_nil))) (pe_one (pe_callOH (okH_law_same T) (hrH.mono (by decide)) hot (fun σ => pass0S σ) (pa_cons (pe_xfP hpm hx xce (flx (by decide)) (pv 0)) (pa_cons (pv 1) pa_nil))))))))), ?_⟩
    refine ⟨_, rfl, _, _, false, _, rfl, (fun _ h => h), hd, ki_BadPrice T (x := "TooMany") (b := false) (by decide), _, rfl, _, _, false, _, rfl, (fun _ h => h), hd, ki_BadPrice T (x := "Mismatch") (b := false) (by decide), _, rfl, _, _, false, _, rfl, (fun _ h => h), hd, ki_BadPrice T (x := "BadWidth") (b := false) (by decide), _, rfl, _, _, false, _, rfl, (fun _ h => h), hd, ki_BadPrice T (x := "BadExit") (b := false) (by decide), _, rfl, _, _, false, _, rfl, (fun _ h => h), hd, ki_BadPrice T (x := "BadName") (b := false) (by decide), _, rfl, _, _, false, _, rfl, (fun _ h => h), hd, ki_BadPrice T (x := "BadOuts") (b := false) (by decide), _, rfl, _, _, false, _, rfl, (fun _ h => h), hd, ki_BadPrice T (x := "BadText") (b := false) (by decide), _, rfl, _, _, false, _, rfl, (fun _ h => h), hd, ki_BadPrice T (x := "BadTree") (b := false) (by decide), _, rfl, _, _, false, _, rfl, (fun _ h => h), hd, ki_BadPrice T (x := "BadForm") (b := false) (by decide), _, rfl, _, _, false, _, rfl, (fun _ h => h), hd, ki_BadPrice T (x := "BadScript") (b := false) (by decide), _, rfl, _, _, false, _, rfl, (fun _ h => h), hd, ki_BadPrice T (x := "BadMove") (b := false) (by decide), _, rfl, _, _, false, _, rfl, (fun _ h => h), hd, ki_BadPrice T (x := "BadDevice") (b := false) (by decide), _, rfl, _, _, false, _, rfl, (fun _ h => h), hd, ki_BadPrice T (x := "NoStep") (b := false) (by decide), _, rfl, _, _, false, _, rfl, (fun _ h => h), hd, ki_BadPrice T (x := "BadTable") (b := false) (by decide), _, rfl, _, _, false, _, rfl, (fun _ h => h), hd, ki_BadPrice T (x := "Ring") (b := false) (by decide), _, rfl, _, _, false, _, rfl, (fun _ h => h), hd, ki_BadPrice T (x := "BadCode") (b := false) (by decide), _, rfl, _, _, false, _, rfl, (fun _ h => h), hd, ki_BadPrice T (x := "OffEnd") (b := false) (by decide), _, rfl, _, _, false, _, rfl, (fun _ h => h), hd, ki_BadPrice T (x := "NoAnswer") (b := false) (by decide), _, rfl, _, _, false, _, rfl, (fun _ h => h), hd, ki_BadPrice T (x := "NoPlace") (b := false) (by decide), _, rfl, _, _, false, _, rfl, (fun _ h => h), hd, ki_BadPrice T (x := "NotCatching") (b := false) (by decide), _, rfl, _, _, false, _, rfl, (fun _ h => h), hd, ki_BadPrice T (x := "NotScript") (b := false) (by decide), _, rfl, _, _, false, _, rfl, (fun _ h => h), hd, ki_BadPrice T (x := "BadDivision") (b := false) (by decide), _, rfl, _, _, false, _, rfl, (fun _ h => h), hd, ki_BadPrice T (x := "NotMergeable") (b := false) (by decide), _, rfl, _, _, false, _, rfl, (fun _ h => h), hd, ki_BadPrice T (x := "NotPiece") (b := false) (by decide), _, rfl, _, _, false, _, rfl, (fun _ h => h), hd, ki_BadPrice T (x := "Unknown") (b := false) (by decide), _, rfl, _, _, false, _, rfl, (fun _ h => h), hd, ki_BadPrice T (x := "Doubled") (b := false) (by decide), _, rfl, _, _, true, _, rfl, (fun _ h => h), hd, ki_BadPrice T (x := "BadPrice") (b := true) (by decide), _, rfl, _, _, false, _, rfl, (fun _ h => h), hd, ki_BadPrice T (x := "Nothing") (b := false) (by decide), (by show 28 ≤ sizeLine; decide), fun p0 np0 => ?_⟩
    refine ⟨_, rfl, p0, rfl, ⟨_, SqL.of upd_same⟩, fun D nD => lc_list (K := K) (a := p0) (xs := ([false, false, false, false, false, false, false, false, false, false, false, false, false, false, false, false, false, false, false, false, false, false, false, false, false, false, true, false] : List Bool).map V.bl) (fun i H2 => H2 D = some (.lst (((([false, false, false, false, false, false, false, false, false, false, false, false, false, false, false, false, false, false, false, false, false, false, false, false, false, false, true, false] : List Bool).take i).filter id).map V.bl)) ∧ H2 p0 = some (.lst (([false, false, false, false, false, false, false, false, false, false, false, false, false, false, false, false, false, false, false, false, false, false, false, false, false, false, true, false] : List Bool).map V.bl)) ∧ Same H H2)
      ⟨upd_same, xd_new upd_same nD, same_new (same_new (Same.refl H) np0) nD⟩ (fun i H2 _ h => SqL.of h.2.1) ?_ ?_⟩
    · rintro i x H2 hx ⟨h1, h2, h3⟩
      rw [List.getElem?_map] at hx
      obtain ⟨b, hb, rfl⟩ := Option.map_eq_some_iff.mp hx
      have nDp : p0 ≠ D := fun z => by rw [← z, upd_same] at nD; cases nD
      have nDH : H D = none := (same_new (o := .lst (([false, false, false, false, false, false, false, false, false, false, false, false, false, false, false, false, false, false, false, false, false, false, false, false, false, false, true, false] : List Bool).map V.bl)) (Same.refl H) np0).free nD
      refine ⟨rfl, _, rfl, b, rfl, ?_⟩
      have tk : (([false, false, false, false, false, false, false, false, false, false, false, false, false, false, false, false, false, false, false, false, false, false, false, false, false, false, true, false] : List Bool).take (i + 1)).filter id = (([false, false, false, false, false, false, false, false, false, false, false, false, false, false, false, false, false, false, false, false, false, false, false, false, false, false, true, false] : List Bool).take i).filter id ++ (if b = true then [true] else []) := by
        rw [List.take_add_one, hb, List.filter_append]
        cases b <;> rfl
      cases b with
      | false =>
        refine iteF ⟨?_, h2, h3⟩
        rw [tk, if_neg (by decide), List.append_nil]
        exact h1
      | true =>
        refine iteT ⟨_, rfl, _, h1, ?_, ?_, by rw [upd_ne nDp]; exact h2, same_put h3 nDH⟩
        · have l1 := List.length_filter_le id (([false, false, false, false, false, false, false, false, false, false, false, false, false, false, false, false, false, false, false, false, false, false, false, false, false, false, true, false] : List Bool).take i)
          have l2 : (([false, false, false, false, false, false, false, false, false, false, false, false, false, false, false, false, false, false, false, false, false, false, false, false, false, false, true, false] : List Bool).take i).length ≤ 28 := by
            rw [List.length_take]
            exact Nat.min_le_right _ _
          rw [List.length_map]
          have := sizeLine_eq
          omega
        · rw [tk, if_pos rfl, upd_same, List.map_append]
          rfl
    · rintro H2 ⟨h1, h2, h3⟩
      refine ⟨D, _, rfl, .inl (SqL.of h1), rfl, _, rfl, ite2 (fun c => absurd c (by decide +kernel)) (fun _ => ?_)⟩
      have hd2 := h3 _ _ hd
      refine ⟨_, rfl, _, .type "ValueError", true, _, rfl, (fun _ h => h), hd2, ve_BadPrice T, true, rfl, iteF ?_⟩
      refine ⟨_, rfl, _, _, true, _, rfl, (fun _ h => h), hd2, ki_BadPrice T (x := "Refused") (b := true) (by decide), true, rfl, iteT ?_⟩
      exact ⟨_, rfl, rfl, _, _, hd2, hcl, _, rfl, _, _, .str z, .str z, rfl, .str _, .str _, by simp [nd], fun H' s' => ⟨fun _ => q H' (h3.trans s'), fun n => absurd rfl n⟩⟩
theorem conv_law_fine {a d : Addr} {oe : Obj} (hx : Hx (a, oe) (He.ga K "BadPrice") d) (vs : List V) (H : Hp) (Q : VK) (h : vs = [.ref a, .str "BadPrice"] ∧ ∃ us : List V, H d = some (.xd (mk_BadPrice us)) ∧ ∀ H', Same H H' → Q (.bl true) H') : spFine K "BadPrice" mk_BadPrice (a, oe) vs H Q E0 := by
  obtain ⟨e, us, hd, q⟩ := h
  exact ⟨d, us, _, e, hx, hd, rfl, q⟩
/-- what is asked of the program: as it is due -/
def spAsk (K : PySem.W.Frag) : Sp := fun vs H Q E => ∃ (ct pd : Addr) (xs : List V) (names : List Str) (kvs : List (Key × V)) (t : List (Str × PyData)), vs = [.ref ct, .ref pd] ∧ SqT K H ct xs ∧ Paired (IsCall K H) xs names ∧ names.length < 64 ∧ H pd = some (.dK kvs) ∧ IsTab K H kvs t ∧
  ∀ (p : Addr) (H' : Hp) (d : PyData), Same H H' → IsOut names (fun n => (lk t n).bind fine) d → Dp K H' (.ref p) d → H p = none → Q (.ref p) H'
abbrev N_law_ask : List Str := ["calls", "given", "error"]
theorem sc_law_ask : FnScope N_law_ask ["calls", "given"] (defScope s_law_ask) := ⟨rfl, rfl, rfl, by decide +kernel, rfl, by decide +kernel, by decide +kernel⟩
theorem bi_law_ask {K : PySem.W.Frag} {mg : Str → Option Value} {f : Addr} {fd : FuncData} (D : Dd K mg "_law_ask" s_law_ask f fd) : Binds K fd ["calls", "given"] [] := D.fn.bindsN fun _ _ _ _ _ _ us hl => match us, hl with | [_, _], _ => rfl
theorem ok_law_ask (T : Tx K mg) : OkF P w K mg base CX0 5 "_law_ask" ["calls", "given"] (spAsk K) := by
  obtain ⟨fd, D⟩ := dd_law_ask T
  refine okF0 D sc_law_ask (bi_law_ask D) (fun vs H Q E h => ?_) (fun cdv A outer s H vs Q E hr h => ?_)
  · obtain ⟨ct, pd, xs, names, kvs, t, rfl, _⟩ := h
    rfl
  · obtain ⟨ct, pd, xs, names, kvs, t, rfl, hct, hcs, hlen, hpd, ht, q⟩ := h
    refine ⟨_, (pss_one (L2N.ps_try_as (i := 2) rfl rfl sc_law_ask.nd rfl rfl ⟨rfl, by decide, Or.inl (g_BadPrice T)⟩ takes0N (fun W pn xe tk po => (pss_one (ps_ret (pe_lst (pa_cons pe_str (pa_cons (pe_callOS (ok_price_of T) (hr.mono (by decide)) (fun σ => L2N.passAt tk σ) (pa_cons (pv 0) (pa_cons (pv 1) pa_nil))) pa_nil))))))
      (fun a oe cls d pn hz hf => pss_ex (p := fun dd => cls = .ref (He.ga K "BadPrice") ∧ d = some dd) fun dd hd => have hx : Hx (a, oe) (He.ga K "BadPrice") dd := hx_of (hd.1 ▸ hd.2 ▸ hz) hf
        (pss_one (ps_ret (pe_lst (pa_cons pe_str (pa_cons (pe_callA (okP_law_fine T) (L2H.roomH_mark (hr.mono (by decide)) _) (hx.hot rfl) List.mem_cons_self (conv_law_fine hx) (pa_cons (pv 2) (pa_cons pe_str pa_nil))) (pa_cons (pe_xfA List.mem_cons_self hx (xc_BadPrice T).e (fl_BadPrice T (by decide)) (pv 2)) pa_nil))))))))), ?_⟩
    refine ⟨_, rfl, _, rfl, ct, pd, xs, names, kvs, t, rfl, hct, hcs, hlen, hpd, ht, fun n hn hb hm dd H1 s1 nd1 => ?_, fun hg H1 s1 => ⟨(by show 2 ≤ sizeLine; decide), fun pl npl => ?_⟩⟩
    · have s2 : Same H (upd H1 dd (.xd (mk_BadPrice [.str n]))) := same_new s1 nd1
      have hd2 : (upd H1 dd (.xd (mk_BadPrice [.str n]))) dd = some (.xd (mk_BadPrice [.str n])) := upd_same
      generalize upd H1 dd (.xd (mk_BadPrice [.str n])) = H2 at s2 hd2
      refine ⟨true, em_BadPrice T, fun _ a ha => ⟨dd, ⟨rfl, rfl⟩, ?_⟩, fun z => nomatch z⟩
      refine ⟨_, rfl, rfl, _, hd2, fun H3 s3 => ⟨_, rfl, rfl, _, _, s3 _ _ hd2, rfl, (by show 3 ≤ sizeLine; decide), fun pl npl => ?_⟩⟩
      exact q pl _ _ (same_new (s2.trans s3) npl) (.bad n hn hb hm) (.lst (SqL.of upd_same) (.cons (.str _) (.cons (.bl true) (.cons (.str n) .nil)))) ((s2.trans s3).free npl)
    · exact q pl _ _ (same_new s1 npl) (.told hg) (.lst (SqL.of upd_same) (.cons (.str _) (.cons (.int _) .nil))) (s1.free npl)
end
/-! ### K42: items, tables, what is owed -/
open M42
section
variable {P : Program} {w : World} {K : PySem.W.Frag} {mg : Str → Option Value} {base : Heap}
def spItem (K : PySem.W.Frag) : Sp := fun vs H Q _ => ∃ (kind price k : Int), vs = [.int kind, .int price, .int k] ∧ 0 ≤ kind ∧ kind < 20 ∧ 2 ≤ k ∧ k ≤ 4 ∧ ∀ (v : V) (H' : Hp), Same H H' → Dp K H' v (itemD kind price k) → Q v H'
theorem dp_new {H : Hp} {p : Addr} {o : HO} {v : V} {d : PyData} (np : H p = none) (h : Dp K H v d) : Dp K (upd H p o) v d := dp_same (same_new (Same.refl H) np) h
theorem all_new {H : Hp} {p : Addr} {o : HO} {vs : List V} {ds : List PyData} (np : H p = none) (h : DpAll K H vs ds) : DpAll K (upd H p o) vs ds := dpAll_same (same_new (Same.refl H) np) h
theorem pick_d {H : Hp} {xs : List V} {ds : List PyData} {n : Int} (h : DpAll K H xs ds) (h0 : 0 ≤ n) (h1 : n < ds.length) : ∃ v d, atI xs n = some v ∧ ds[n.toNat]? = some d ∧ Dp K H v d := by
  obtain ⟨j, rfl⟩ : ∃ j : Nat, n = j := ⟨n.toNat, by omega⟩
  have lt : j < ds.length := by omega
  obtain ⟨v, g, dv⟩ := dpAll_get h j _ (List.getElem?_eq_getElem lt)
  exact ⟨v, ds[j], atI_nat g, by rw [Int.toNat_natCast]; exact List.getElem?_eq_getElem lt, dv⟩
theorem all_rep {H : Hp} {i : Int} : ∀ n : Nat, DpAll K H (List.replicate n (.int i)) (List.replicate n (.int i))
  | 0 => .nil
  | n + 1 => .cons (.int i) (all_rep n)
theorem rep40 (x : V) : (List.replicate (40 : Int).toNat [x]).flatten = List.replicate 40 x := by
  rw [show (40 : Int).toNat = 40 from rfl]
  simp
abbrev N_law_item : List Str := ["kind", "price", "k", "more", "e"]
theorem sc_law_item : FnScope N_law_item ["kind", "price", "k"] (defScope s_law_item) := ⟨rfl, rfl, rfl, by decide +kernel, rfl, by decide +kernel, by decide +kernel⟩
theorem bi_law_item {K : PySem.W.Frag} {mg : Str → Option Value} {f : Addr} {fd : FuncData} (D : Dd K mg "_law_item" s_law_item f fd) : Binds K fd ["kind", "price", "k"] [] := D.fn.bindsN fun _ _ _ _ _ _ us hl => match us, hl with | [_, _, _], _ => rfl
theorem ok_law_item (T : Tx K mg) : OkF P w K mg base CX0 1 "_law_item" ["kind", "price", "k"] (spItem K) := by
  obtain ⟨fd, D⟩ := dd_law_item T
  refine okF0 D sc_law_item (bi_law_item D) (fun vs H Q E h => ?_) (fun cdv A outer s H vs Q E hr h => ?_)
  · obtain ⟨kind, price, k, rfl, _⟩ := h
    rfl
  · obtain ⟨kind, price, k, rfl, k0, k20, hk2, hk4, q⟩ := h
    refine ⟨_, (pss_cons (ps_if (pt_cmpR op_lt (pv 0) pe_int (nomark _))
      (pss_cons (ps_set (i := 3) sc_law_item.nd rfl (Or.inl rfl) (pe_lst (pa_cons (pe_tup pa_nil) (pa_cons (pe_tup (pa_cons pe_str pa_nil)) (pa_cons (pe_callTy call_tuple_of (by rfl) (m_tuple T) (by decide +kernel) (pa_cons (pe_lc (own := [("e", 4)]) (g := gName 4) (tt := tYes) rfl sc_law_item.nd (pi_range1 rfl (m_range T) (pa_cons (pv 2) pa_nil)) (blkOk_by (own := [("e", 4)]) (N := N_law_item) (sc := defScope s_law_item) (by decide +kernel)) (fun _ _ _ _ _ => pg_name (i := 4) sc_law_item.nd rfl (Or.inl rfl)) (fun _ _ _ _ _ => pts_nil) (fun _ _ _ _ _ => pe_int)) pa_nil)) (pa_cons (pe_tup (pa_cons (pe_un un_neg pe_int) (pa_cons pe_non (pa_cons (pe_lst (pa_cons pe_int pa_nil)) pa_nil)))) (pa_cons (pe_callTy call_tuple_of (by rfl) (m_tuple T) (by decide +kernel) (pa_cons (pe_lc (own := [("e", 4)]) (g := gName 4) (tt := tYes) rfl sc_law_item.nd (pi_range1 rfl (m_range T) (pa_cons (pv 2) pa_nil)) (blkOk_by (own := [("e", 4)]) (N := N_law_item) (sc := defScope s_law_item) (by decide +kernel)) (fun _ _ _ _ _ => pg_name (i := 4) sc_law_item.nd rfl (Or.inl rfl)) (fun _ _ _ _ _ => pts_nil) (fun _ _ _ _ _ => pe_int)) pa_nil)) (pa_cons (pe_op op_repT (pe_tup (pa_cons (pv 1) pa_nil)) pe_int) pa_nil))))))))
      (pss_one (ps_ret (pe_op op_catA (pe_tup (pa_cons (pv 1) pa_nil)) (pe_ix ix_list (pv 3) (pv 0) (fun _ _ => rfl))))))
      pss_nil)
      (pss_cons (ps_if (pt_cmpR op_lt (pv 0) pe_int (nomark _))
      (pss_one (ps_ret (pe_ix ix_list (pe_lst (pa_cons (pe_tup pa_nil) (pa_cons (pe_tup (pa_cons (pe_op op_sub (pe_op op_sub pe_int pe_int) (pv 1)) (pa_cons pe_int (pa_cons pe_int pa_nil)))) (pa_cons (pe_tup (pa_cons pe_bl (pa_cons pe_int (pa_cons pe_int pa_nil)))) (pa_cons (pe_tup (pa_cons pe_non (pa_cons pe_int pa_nil))) (pa_cons (pe_tup (pa_cons pe_str (pa_cons pe_int pa_nil))) (pa_cons (pe_tup (pa_cons (pe_lst (pa_cons (pv 1) pa_nil)) (pa_cons pe_int pa_nil))) pa_nil))))))) (pe_op op_sub (pv 0) pe_int) (fun _ _ => rfl))))
      pss_nil)
      (pss_cons (ps_if (pt_cmpR op_lt (pv 0) pe_int (nomark _))
      (pss_one (ps_ret (pe_ix ix_list (pe_lst (pa_cons (pe_lst (pa_cons (pv 1) (pa_cons pe_int (pa_cons pe_int pa_nil)))) (pa_cons (pv 1) (pa_cons pe_non (pa_cons pe_str pa_nil))))) (pe_op op_sub (pv 0) pe_int) (fun _ _ => rfl))))
      pss_nil)
      (pss_one (ps_ret (pe_ix ix_list (pe_lst (pa_cons (pe_tup (pa_cons (pe_tup (pa_cons (pv 1) pa_nil)) (pa_cons pe_int pa_nil))) (pa_cons pe_bl (pa_cons (pe_lst pa_nil) (pa_cons (pe_tup (pa_cons pe_bl (pa_cons pe_int (pa_cons pe_int pa_nil)))) pa_nil))))) (pe_op op_sub (pv 0) pe_int) (fun _ _ => rfl))))))), ?_⟩
    have q' : ∀ (v : V) (H' : Hp) (d : PyData), Same H H' → d = itemD kind price k → Dp K H' v d → Q v H' := fun v H' d s e h => q v H' s (by rw [← e]; exact h)
    refine ⟨_, rfl, _, _, rfl, rfl, _, rfl, ite2 (fun c => ?_) (fun c => ?_)⟩
    · have k6 : kind < 6 := of_decide_eq_true c
      -- (), ('x',)
      refine ⟨(by show 0 ≤ sizeLine; decide), fun p0 n0 => ⟨(by show 1 ≤ sizeLine; decide), fun p1 n1 => ?_⟩⟩
      have s1 : Same H (upd (upd H p0 (.tup [])) p1 (.tup [.str "x"])) := same_new (same_new (Same.refl H) n0) n1
      have A1 : DpAll K (upd (upd H p0 (.tup [])) p1 (.tup [.str "x"])) [.ref p0, .ref p1] [.tuple [], .tuple [.str "x"]] :=
        dpAll_snoc (all_new n1 (dpAll_snoc (all_new n0 .nil) (.tup (.inl (.inl upd_same)) .nil))) (.tup (.inl (.inl upd_same)) (.cons (.str _) .nil))
      generalize upd (upd H p0 (.tup [])) p1 (.tup [.str "x"]) = H1 at s1 A1
      -- tuple([1 ..])
      refine ⟨_, rfl, k, rfl, by omega, by omega, fun D nD => lc_range (lo := 0) (n := k.toNat) (fun i H' => H' D = some (.lst (List.replicate i (.int 1))) ∧ Same H1 H') ⟨upd_same, same_new (Same.refl H1) nD⟩ ?_ ?_⟩
      · rintro i H' hi ⟨hD, sm⟩
        refine ⟨rfl, ?_⟩
        unfold tYes
        exact iteT ⟨_, hD, by rw [List.length_replicate]; have := sizeLine_eq; omega, by rw [upd_same, List.replicate_succ'], same_put sm nD⟩
      rintro H2 ⟨hD2, sm2⟩
      refine ⟨D, _, rfl, .inl ⟨SqL.of hD2, fun p2 n2 => ?_⟩⟩
      have s3 : Same H (upd H2 p2 (.tup (List.replicate k.toNat (.int 1)))) := same_new (s1.trans sm2) n2
      have A3 : DpAll K (upd H2 p2 (.tup (List.replicate k.toNat (.int 1)))) [.ref p0, .ref p1, .ref p2] [.tuple [], .tuple [.str "x"], .tuple (List.replicate k.toNat (.int 1))] :=
        dpAll_snoc (all_new n2 (dpAll_same sm2 A1)) (.tup (.inl (.inl upd_same)) (all_rep _))
      generalize upd H2 p2 (.tup (List.replicate k.toNat (.int 1))) = H3 at s3 A3
      -- (-1, None, [3])
      refine ⟨_, rfl, (by show 1 ≤ sizeLine; decide), fun p3 n3 => ⟨(by show 3 ≤ sizeLine; decide), fun p4 n4 => ?_⟩⟩
      have A4 : DpAll K (upd (upd H3 p3 (.lst [.int 3])) p4 (.tup [.int (-1), .non, .ref p3])) [.ref p0, .ref p1, .ref p2, .ref p4] [.tuple [], .tuple [.str "x"], .tuple (List.replicate k.toNat (.int 1)), .tuple [.int (-1), .none, .list [.int 3]]] :=
        dpAll_snoc (all_new n4 (all_new n3 A3)) (.tup (.inl (.inl upd_same)) (.cons (.int _) (.cons .non (.cons (dp_new n4 (.lst (SqL.of upd_same) (.cons (.int _) .nil))) .nil))))
      have s4 : Same H (upd (upd H3 p3 (.lst [.int 3])) p4 (.tup [.int (-1), .non, .ref p3])) := same_new (same_new s3 n3) n4
      -- tuple([0 ..])
      refine ⟨_, rfl, k, rfl, by omega, by omega, fun D4 nD4 => lc_range (lo := 0) (n := k.toNat) (fun i H' => H' D4 = some (.lst (List.replicate i (.int 0))) ∧ Same (upd (upd H3 p3 (.lst [.int 3])) p4 (.tup [.int (-1), .non, .ref p3])) H') ⟨upd_same, same_new (Same.refl _) nD4⟩ ?_ ?_⟩
      · rintro i H' hi ⟨hD, sm⟩
        refine ⟨rfl, ?_⟩
        unfold tYes
        exact iteT ⟨_, hD, by rw [List.length_replicate]; have := sizeLine_eq; omega, by rw [upd_same, List.replicate_succ'], same_put sm nD4⟩
      rintro H5 ⟨hD5, sm5⟩
      refine ⟨D4, _, rfl, .inl ⟨SqL.of hD5, fun p5 n5 => ?_⟩⟩
      have s6 : Same H (upd H5 p5 (.tup (List.replicate k.toNat (.int 0)))) := same_new (s4.trans sm5) n5
      have A6 : DpAll K (upd H5 p5 (.tup (List.replicate k.toNat (.int 0)))) [.ref p0, .ref p1, .ref p2, .ref p4, .ref p5] [.tuple [], .tuple [.str "x"], .tuple (List.replicate k.toNat (.int 1)), .tuple [.int (-1), .none, .list [.int 3]], .tuple (List.replicate k.toNat (.int 0))] :=
        dpAll_snoc (all_new n5 (dpAll_same sm5 A4)) (.tup (.inl (.inl upd_same)) (all_rep _))
      generalize upd H5 p5 (.tup (List.replicate k.toNat (.int 0))) = H6 at s6 A6
      -- (price,) * 40
      refine ⟨_, rfl, (by show 1 ≤ sizeLine; decide), fun p6 n6 => ⟨p6, 40, _, rfl, rfl, .inl (.inl upd_same), by simp, by decide, by decide, by show 1 ≤ 1000; decide, fun p7 n7 => ?_⟩⟩
      have n7' : (upd H6 p6 (.tup [.int price])) p7 = none := n7
      have s8 : Same H (upd (upd H6 p6 (.tup [.int price])) p7 (.tup (List.replicate (40 : Int).toNat [V.int price]).flatten)) := same_new (same_new s6 n6) n7
      have A8 : DpAll K (upd (upd H6 p6 (.tup [.int price])) p7 (.tup (List.replicate (40 : Int).toNat [V.int price]).flatten)) [.ref p0, .ref p1, .ref p2, .ref p4, .ref p5, .ref p7] [.tuple [], .tuple [.str "x"], .tuple (List.replicate k.toNat (.int 1)), .tuple [.int (-1), .none, .list [.int 3]], .tuple (List.replicate k.toNat (.int 0)), .tuple (List.replicate 40 (.int price))] :=
        dpAll_snoc (all_new n7 (all_new n6 A6)) (.tup (.inl (.inl (by rw [upd_same, rep40]))) (all_rep _))
      generalize upd (upd H6 p6 (.tup [.int price])) p7 (.tup (List.replicate (40 : Int).toNat [V.int price]).flatten) = H8 at s8 A8
      refine ⟨(by show 6 ≤ sizeLine; decide), fun pm nm => ?_⟩
      -- (price,) + more[kind]
      refine ⟨_, rfl, (by show 1 ≤ sizeLine; decide), fun pt nt => ?_⟩
      have s9 : Same H (upd (upd H8 pm (.lst [.ref p0, .ref p1, .ref p2, .ref p4, .ref p5, .ref p7])) pt (.tup [.int price])) := same_new (same_new s8 nm) nt
      have A9 := all_new (o := .tup [.int price]) nt (all_new (o := .lst [.ref p0, .ref p1, .ref p2, .ref p4, .ref p5, .ref p7]) nm A8)
      have npm : pm ≠ pt := fun z => by rw [← z, upd_same] at nt; cases nt
      obtain ⟨v, d, g, gd, dv⟩ := pick_d A9 k0 (by show kind < 6; exact k6)
      have hd : d = .tuple (more kind price k) := by
        have cases6 : kind = 0 ∨ kind = 1 ∨ kind = 2 ∨ kind = 3 ∨ kind = 4 ∨ kind = 5 := by omega
        rcases cases6 with e | e | e | e | e | e <;> subst e <;> exact (Option.some.inj gd).symm
      subst hd
      refine ⟨_, rfl, _, rfl, _, _, _, _, rfl, rfl, SqL.of ((upd_ne npm).trans upd_same), g, ?_⟩
      have item : itemD kind price k = .tuple (.int price :: more kind price k) := by
        unfold itemD
        rw [if_pos k6]
      cases dv with
      | tup h1 h2 =>
        rename_i a8 us
        have lu := dpAll_len h2
        have lm : (more kind price k).length ≤ 40 := by
          unfold more
          repeat' split
          all_goals simp
          all_goals omega
        refine ⟨pt, a8, [.int price], us, rfl, rfl, .inl (.inl upd_same), h1, by show 1 + us.length ≤ sizeLine; have := sizeLine_eq; omega, (fun z => by cases z), fun _ z => ?_, fun _ _ pf nf => ?_⟩
        · subst z
          refine q' _ _ _ s9 item.symm (.tup (.inl (.inl upd_same)) (.cons (.int _) ?_))
          exact h2
        · exact q' _ _ _ (same_new s9 nf) item.symm (.tup (.inl (.inl upd_same)) (.cons (.int _) (all_new nf h2)))
    have k6 : ¬ kind < 6 := fun z => c (decide_eq_true z)
    refine ⟨_, rfl, _, _, rfl, rfl, _, rfl, ite2 (fun c => ?_) (fun c => ?_)⟩
    · have k12 : kind < 12 := of_decide_eq_true c
      refine ⟨(by show 0 ≤ sizeLine; decide), fun p0 n0 => ⟨_, _, rfl, rfl, _, rfl, _, _, rfl, rfl, (by show 3 ≤ sizeLine; decide), fun p1 n1 => ⟨(by show 3 ≤ sizeLine; decide), fun p2 n2 => ⟨(by show 2 ≤ sizeLine; decide), fun p3 n3 => ⟨(by show 2 ≤ sizeLine; decide), fun p4 n4 => ⟨_, rfl, (by show 1 ≤ sizeLine; decide), fun p5 n5 => ⟨(by show 2 ≤ sizeLine; decide), fun p6 n6 => ⟨(by show 6 ≤ sizeLine; decide), fun pm nm => ?_⟩⟩⟩⟩⟩⟩⟩⟩
      have A := dpAll_snoc (all_new n1 (dpAll_snoc (all_new n0 (.nil : DpAll K H [] [])) (.tup (.inl (.inl upd_same)) .nil))) (.tup (.inl (.inl upd_same)) (.cons (.int (0 - 1 - price)) (.cons (.int 1) (.cons (.int 1) .nil))))
      have A := dpAll_snoc (all_new n2 A) (.tup (.inl (.inl upd_same)) (.cons (.bl true) (.cons (.int 1) (.cons (.int 1) .nil))))
      have A := dpAll_snoc (all_new n3 A) (.tup (.inl (.inl upd_same)) (.cons .non (.cons (.int 1) .nil)))
      have A := dpAll_snoc (all_new n4 A) (.tup (.inl (.inl upd_same)) (.cons (.str "5") (.cons (.int 1) .nil)))
      have A := dpAll_snoc (all_new n6 (all_new n5 A)) (.tup (.inl (.inl upd_same)) (.cons (dp_new n6 (.lst (SqL.of upd_same) (.cons (.int price) .nil))) (.cons (.int 1) .nil)))
      obtain ⟨v, d, g, gd, dv⟩ := pick_d (n := kind - 6) A (by omega) (by show kind - 6 < 6; omega)
      refine ⟨_, rfl, _, _, rfl, rfl, _, _, _, _, rfl, rfl, SqL.of upd_same, g, q' _ _ _ (same_new (same_new (same_new (same_new (same_new (same_new (same_new (same_new (Same.refl H) n0) n1) n2) n3) n4) n5) n6) nm) ?_ (dp_new nm dv)⟩
      have cs : kind = 6 ∨ kind = 7 ∨ kind = 8 ∨ kind = 9 ∨ kind = 10 ∨ kind = 11 := by omega
      rcases cs with e | e | e | e | e | e <;> subst e <;> exact (Option.some.inj gd).symm
    have k12 : ¬ kind < 12 := fun z => c (decide_eq_true z)
    refine ⟨_, rfl, _, _, rfl, rfl, _, rfl, ite2 (fun c => ?_) (fun c => ?_)⟩
    · have k16 : kind < 16 := of_decide_eq_true c
      refine ⟨_, rfl, (by show 3 ≤ sizeLine; decide), fun p0 n0 => ⟨_, rfl, (by show 4 ≤ sizeLine; decide), fun pm nm => ?_⟩⟩
      have A : DpAll K (upd H p0 (.lst [.int price, .int 1, .int 1])) [.ref p0, .int price, .non, .str "price"] [.list [.int price, .int 1, .int 1], .int price, .none, .str "price"] :=
        .cons (.lst (SqL.of upd_same) (.cons (.int _) (.cons (.int _) (.cons (.int _) .nil)))) (.cons (.int _) (.cons .non (.cons (.str _) .nil)))
      obtain ⟨v, d, g, gd, dv⟩ := pick_d (n := kind - 12) A (by omega) (by show kind - 12 < 4; omega)
      refine ⟨_, rfl, _, _, rfl, rfl, _, _, _, _, rfl, rfl, SqL.of upd_same, g, q' _ _ _ (same_new (same_new (Same.refl H) n0) nm) ?_ (dp_new nm dv)⟩
      have cs : kind = 12 ∨ kind = 13 ∨ kind = 14 ∨ kind = 15 := by omega
      rcases cs with e | e | e | e <;> subst e <;> exact (Option.some.inj gd).symm
    · have k16 : ¬ kind < 16 := fun z => c (decide_eq_true z)
      refine ⟨_, rfl, (by show 1 ≤ sizeLine; decide), fun p0 n0 => ⟨(by show 2 ≤ sizeLine; decide), fun p1 n1 => ⟨(by show 0 ≤ sizeLine; decide), fun p2 n2 => ⟨(by show 3 ≤ sizeLine; decide), fun p3 n3 => ⟨(by show 4 ≤ sizeLine; decide), fun pm nm => ?_⟩⟩⟩⟩⟩
      have A : DpAll K (upd (upd H p0 (.tup [.int price])) p1 (.tup [.ref p0, .int 1])) [.ref p1, .bl false] [.tuple [.tuple [.int price], .int 1], .bool false] :=
        .cons (.tup (.inl (.inl upd_same)) (.cons (dp_new n1 (.tup (.inl (.inl upd_same)) (.cons (.int _) .nil))) (.cons (.int _) .nil))) (.cons (.bl _) .nil)
      have A := dpAll_snoc (all_new n2 A) (.lst (SqL.of upd_same) .nil)
      have A := dpAll_snoc (all_new n3 A) (.tup (.inl (.inl upd_same)) (.cons (.bl false) (.cons (.int 0) (.cons (.int 1) .nil))))
      obtain ⟨v, d, g, gd, dv⟩ := pick_d (n := kind - 16) A (by omega) (by show kind - 16 < 4; omega)
      refine ⟨_, rfl, _, _, rfl, rfl, _, _, _, _, rfl, rfl, SqL.of upd_same, g, q' _ _ _ (same_new (same_new (same_new (same_new (same_new (Same.refl H) n0) n1) n2) n3) nm) ?_ (dp_new nm dv)⟩
      have cs : kind = 16 ∨ kind = 17 ∨ kind = 18 ∨ kind = 19 := by omega
      rcases cs with e | e | e | e <;> subst e <;> exact (Option.some.inj gd).symm
end
/-! ### K42: tables, what is owed -/
open M42
section
variable {P : Program} {w : World} {K : PySem.W.Frag} {mg : Str → Option Value} {base : Heap}
/-- a desc that stands -/
def IsDesc (H : Hp) (v : V) (d : Desc) : Prop := ∃ q : Addr, v = .ref q ∧ H q = some (.lst [.str d.1, .int d.2.1, .int d.2.2])
theorem isDesc_same {H H' : Hp} {v : V} {d : Desc} (s : Same H H') (h : IsDesc H v d) : IsDesc H' v d := by
  obtain ⟨q, e, g⟩ := h
  exact ⟨q, e, s _ _ g⟩
theorem tab_same {H H' : Hp} {kvs : List (Key × V)} {t : List (Str × PyData)} (s : Same H H') (h : IsTab K H kvs t) : IsTab K H' kvs t := paired_map (fun _ _ h => ⟨h.1, dp_same s h.2⟩) h
theorem tab_upd {H : Hp} {p : Addr} {kvs : List (Key × V)} {t : List (Str × PyData)} {k0 : List (Key × V)} {o : HO} (hp : H p = some (.dK k0)) (h : IsTab K H kvs t) : IsTab K (upd H p o) kvs t :=
  paired_map (fun _ _ h => ⟨h.1, dp_upd hp (fun _ z => nomatch z) (fun _ z => nomatch z) (fun _ _ z => nomatch z) h.2⟩) h
theorem tab_put {H : Hp} {kvs : List (Key × V)} {t : List (Str × PyData)} {n : Str} {v : V} {d : PyData} (h : IsTab K H kvs t) (hv : Dp K H v d) : IsTab K H (putK kvs (Sum.inr n : Key) v) (putT t n d) := by
  have any : (kvs.any fun kv => decide (kv.1 = (Sum.inr n : Key))) = (t.any fun e => decide (e.1 = n)) := by
    induction h with
    | nil => rfl
    | @cons kv e kvs t h _ ih =>
      rw [List.any_cons, List.any_cons, ih, h.1]
      simp
  unfold putK putT
  rw [any]
  by_cases c : (t.any fun e => decide (e.1 = n)) = true
  · rw [if_pos c, if_pos c]
    clear any c
    induction h with
    | nil => exact .nil
    | @cons kv e kvs t h _ ih =>
      rw [List.map_cons, List.map_cons]
      refine .cons ?_ ih
      by_cases ce : e.1 = n
      · rw [if_pos (by rw [h.1, ce]), if_pos ce]
        exact ⟨h.1, hv⟩
      · rw [if_neg (by rw [h.1]; exact fun z => ce (Sum.inr.inj z)), if_neg ce]
        exact h
  · rw [if_neg c, if_neg c]
    exact paired_snoc h ⟨rfl, hv⟩
theorem put_len {kvs : List (Key × V)} {k : Key} {v : V} : (putK kvs k v).length ≤ kvs.length + 1 := by
  unfold putK
  split
  · rw [List.length_map]
    omega
  · rw [List.length_append]
    exact Nat.le_refl _
def spTab (K : PySem.W.Frag) : Sp := fun vs H Q _ => ∃ (pd : Addr) (us : List V) (ds : List Desc) (k : Int), vs = [.ref pd, .int k] ∧ SqL K H pd us ∧ Paired (IsDesc H) us ds ∧ (∀ d ∈ ds, Good d) ∧ 2 ≤ k ∧ k ≤ 4 ∧ ds.length ≤ 1000 ∧
  ∀ (p : Addr) (H' : Hp) (kvs : List (Key × V)), Same H H' → H p = none → H' p = some (.dK kvs) → IsTab K H' kvs (tab k [] ds) → kvs.length ≤ ds.length → Q (.ref p) H'
abbrev N_law_table : List Str := ["descs", "k", "found", "desc"]
theorem sc_law_table : FnScope N_law_table ["descs", "k"] (defScope s_law_table) := ⟨rfl, rfl, rfl, by decide +kernel, rfl, by decide +kernel, by decide +kernel⟩
theorem bi_law_table {K : PySem.W.Frag} {mg : Str → Option Value} {f : Addr} {fd : FuncData} (D : Dd K mg "_law_table" s_law_table f fd) : Binds K fd ["descs", "k"] [] := D.fn.bindsN fun _ _ _ _ _ _ us hl => match us, hl with | [_, _], _ => rfl
theorem ok_law_table (T : Tx K mg) : OkF P w K mg base CX0 2 "_law_table" ["descs", "k"] (spTab K) := by
  obtain ⟨fd, D⟩ := dd_law_table T
  refine okF0 D sc_law_table (bi_law_table D) (fun vs H Q E h => ?_) (fun cdv A outer s H vs Q E hr h => ?_)
  · obtain ⟨pd, us, ds, k, rfl, _⟩ := h
    rfl
  · obtain ⟨pd, us, ds, k, rfl, hpd, hds, hg, k2, k4, hlen, q⟩ := h
    have hu := hu_of hr
    refine ⟨_, (pss_cons (ps_set (i := 2) sc_law_table.nd rfl (Or.inl rfl) pe_dnewK)
      (pss_cons (ps_for PassesOwn.never rfl (pi_list (pv 0)) (pg_name (i := 3) sc_law_table.nd rfl (Or.inl rfl))
      (pss_one (ps_if (pt_cmpR op_lt (pe_ix ix_list (pv 3) pe_int (fun _ _ => rfl)) pe_int (nomark _))
      (pss_one (ps_dput hu (pv 2) (pe_ix ix_list (pv 3) pe_int (fun _ _ => rfl)) (pe_callO (ok_law_item T) (hr.mono (by decide)) pass0 (pa_cons (pe_ix ix_list (pv 3) pe_int (fun _ _ => rfl)) (pa_cons (pe_ix ix_list (pv 3) pe_int (fun _ _ => rfl)) (pa_cons (pv 1) pa_nil)))) rfl))
      pss_nil)))
      (pss_one (ps_ret (pv 2))))), ?_⟩
    have plen := Paired.length hds
    refine fun fo nfo => ⟨_, rfl, pd, rfl, ⟨_, (same_new (Same.refl H) nfo).seq hpd⟩, for_list (K := K) (a := pd) (xs := us) (fun i σ H' => ∃ (v3 : Option V) (kvs : List (Key × V)), σ = [some (.ref pd), some (.int k), some (.ref fo), v3] ∧ Same H H' ∧ H' fo = some (.dK kvs) ∧ IsTab K H' kvs (tab k [] (ds.take i)) ∧ kvs.length ≤ i)
      ⟨_, [], rfl, same_new (Same.refl H) nfo, upd_same, .nil, Nat.le_refl _⟩ (fun i σ H' _ ⟨_, _, _, sm, _⟩ => sm.seq hpd) ?_ ?_⟩
    · rintro i x σ H' hx ⟨v3, kvs, rfl, sm, hfo, ht, hl⟩
      obtain ⟨d, hd, qd, rfl, hq⟩ := paired_get hds i x hx
      have hq := sm _ _ hq
      have lt : i < ds.length := (List.getElem?_eq_some_iff.mp hd).1
      have gd := hg d (List.mem_of_getElem? hd)
      have tk : ds.take (i + 1) = ds.take i ++ [d] := by rw [List.take_add_one, hd]; rfl
      refine ⟨_, rfl, _, _, _, _, rfl, rfl, SqL.of hq, rfl, _, _, rfl, rfl, _, rfl, ite2 (fun c => ?_) (fun c => ?_)⟩
      · have c20 : d.2.1 < 20 := of_decide_eq_true c
        refine ⟨_, rfl, _, _, _, _, rfl, rfl, SqL.of hq, rfl, _, rfl, _, _, _, _, rfl, rfl, SqL.of hq, rfl, _, rfl, d.2.1, d.2.2, k, rfl, gd.1, c20, k2, k4, fun v H2 s2 dv => ?_⟩
        have hfo2 := s2 _ _ hfo
        refine ⟨_, rfl, _, rfl, _, _, _, _, rfl, rfl, SqL.of (s2 _ _ hq), rfl, fo, _, rfl, DPut.k (k := Sum.inr d.1) hfo2 (by have := sizeLine_eq; omega), ?_⟩
        refine ⟨_, _, rfl, same_put (sm.trans s2) nfo, upd_same, ?_, Nat.le_trans put_len (Nat.succ_le_succ hl)⟩
        rw [tk, tab_snoc, if_pos c20]
        exact tab_upd hfo2 (tab_put (tab_same s2 ht) dv)
      · refine ⟨_, _, rfl, sm, hfo, ?_, Nat.le_succ_of_le hl⟩
        rw [tk, tab_snoc, if_neg fun z => c (decide_eq_true z)]
        exact ht
    · rintro σ H' ⟨v3, kvs, rfl, sm, hfo, ht, hl⟩
      rw [List.take_of_length_le (by omega)] at ht
      exact ⟨_, rfl, q fo H' kvs sm nfo hfo ht (by omega)⟩
theorem sum_snoc (a b : List Int) : (a ++ b).sum = a.sum + b.sum := List.sum_append
def spOwed (K : PySem.W.Frag) : Sp := fun vs H Q _ => ∃ (pc pd : Addr) (xs us : List V) (names : List Str) (ds : List Desc), vs = [.ref pc, .ref pd] ∧ SqL K H pc xs ∧ Paired (IsCall K H) xs names ∧ names.length < 64 ∧ SqL K H pd us ∧ Paired (IsDesc H) us ds ∧ ds.length ≤ 1000 ∧
  (ds.map (·.1)).Nodup ∧ (∀ n ∈ names, n ∈ ds.map (·.1)) ∧ ∀ (p : Addr) (H' : Hp) (d : PyData), Same H H' → IsOut names (prO ds) d → Dp K H' (.ref p) d → H p = none → Q (.ref p) H'
abbrev N_law_owed : List Str := ["calls", "descs", "line", "call", "name", "desc", "total"]
theorem sc_law_owed : FnScope N_law_owed ["calls", "descs"] (defScope s_law_owed) := ⟨rfl, rfl, rfl, by decide +kernel, rfl, by decide +kernel, by decide +kernel⟩
theorem bi_law_owed {K : PySem.W.Frag} {mg : Str → Option Value} {f : Addr} {fd : FuncData} (D : Dd K mg "_law_owed" s_law_owed f fd) : Binds K fd ["calls", "descs"] [] := D.fn.bindsN fun _ _ _ _ _ _ us hl => match us, hl with | [_, _], _ => rfl
theorem ok_law_owed (T : Tx K mg) : OkF P w K mg base CX0 1 "_law_owed" ["calls", "descs"] (spOwed K) := by
  obtain ⟨fd, D⟩ := dd_law_owed T
  refine okF0 D sc_law_owed (bi_law_owed D) (fun vs H Q E h => ?_) (fun cdv A outer s H vs Q E hr h => ?_)
  · obtain ⟨pc, pd, xs, us, names, ds, rfl, _⟩ := h
    rfl
  · obtain ⟨pc, pd, xs, us, names, ds, rfl, hpc, hcs, hlen, hpd, hds, dlen, nd, sub, q⟩ := h
    refine ⟨_, (pss_cons (ps_set (i := 2) sc_law_owed.nd rfl (Or.inl rfl) (pe_callB cr_sortedS (by rfl) (m_sorted T) (by decide +kernel) (pa_cons (pe_lc (own := [("call", 3)]) (g := gName 3) (tt := tYes) rfl sc_law_owed.nd (pi_list (pv 0)) (blkOk_by (own := [("call", 3)]) (N := N_law_owed) (sc := defScope s_law_owed) (by decide +kernel)) (fun _ _ _ _ _ => pg_name (i := 3) sc_law_owed.nd rfl (Or.inl rfl)) (fun _ _ _ _ _ => pts_nil) (fun _ _ _ _ _ => (pe_ix (show IxR _ (rIxT K) from ix_tup) (pv 3) pe_int (fun _ _ => rfl)))) pa_nil)))
      (pss_cons (ps_for PassesOwn.never rfl (pi_list (pv 2)) (pg_name (i := 4) sc_law_owed.nd rfl (Or.inr rfl))
      (pss_one (ps_for PassesOwn.never rfl (pi_list (pv 1)) (pg_name (i := 5) sc_law_owed.nd rfl (Or.inl rfl))
      (pss_one (ps_if (PW.pt (pw_and (pt_cmpR op_eq (pe_ix ix_list (pv 5) pe_int (fun _ _ => rfl)) (pv 4) (nomark _)) (pw_and1 (pt_cmpR op_ge (pe_ix ix_list (pv 5) pe_int (fun _ _ => rfl)) pe_int (nomark _)))))
      (pss_one (ps_ret (pe_lst (pa_cons pe_str (pa_cons pe_bl (pa_cons (pv 4) pa_nil))))))
      pss_nil)))))
      (pss_cons (ps_set (i := 6) sc_law_owed.nd rfl (Or.inl rfl) pe_int)
      (pss_cons (ps_for PassesOwn.never rfl (pi_list (pv 2)) (pg_name (i := 4) sc_law_owed.nd rfl (Or.inr rfl))
      (pss_one (ps_set (i := 6) sc_law_owed.nd rfl (Or.inl rfl) (pe_op op_add (pv 6) (pe_callB (cr_sum rfl) (by rfl) (m_sum T) (by decide +kernel) (pa_cons (pe_lc (own := [("desc", 5)]) (g := gName 5) rfl sc_law_owed.nd (pi_list (pv 1)) (blkOk_by (own := [("desc", 5)]) (N := N_law_owed) (sc := defScope s_law_owed) (by decide +kernel)) (fun _ _ _ _ _ => pg_name (i := 5) sc_law_owed.nd rfl (Or.inl rfl)) (fun _ _ _ _ _ => pts_one (pt_cmpR op_eq (pe_ix (show IxR _ (rIxL K) from ix_list) (pv 5) pe_int (fun _ _ => rfl)) (pv 4) (nomark _))) (fun _ _ _ _ _ => (pe_ix (show IxR _ (rIxL K) from ix_list) (pv 5) pe_int (fun _ _ => rfl)))) pa_nil))))))
      (pss_one (ps_ret (pe_lst (pa_cons pe_str (pa_cons (pv 6) pa_nil))))))))), ?_⟩
    have plen := Paired.length hcs
    have ulen := Paired.length hds
    refine ⟨_, rfl, pc, rfl, ⟨_, hpc⟩, fun D nD => lc_list (K := K) (a := pc) (xs := xs) (fun i H' => H' D = some (.lst ((names.take i).map V.str)) ∧ Same H H') ⟨upd_same, same_new (Same.refl H) nD⟩ (fun i H' _ h => h.2.seq hpc) ?_ ?_⟩
    · rintro i x H' hx ⟨hD, sm⟩
      obtain ⟨n, hn, tc, j, rfl, hc⟩ := paired_get hcs i x hx
      refine ⟨rfl, ?_⟩
      unfold tYes
      refine iteT ⟨_, rfl, _, _, _, _, rfl, rfl, sqT_same sm hc, rfl, _, hD, ?_, ?_, same_put sm nD⟩
      · rw [List.length_map, List.length_take]
        have := sizeLine_eq
        omega
      · rw [upd_same, List.take_add_one, hn, List.map_append]
        rfl
    rintro H0 ⟨hD, s0⟩
    rw [List.take_of_length_le (by omega)] at hD
    refine ⟨D, names, rfl, SqL.of hD, hlen, fun ys p pm srt np => ?_⟩
    have pw := sorted_pw srt
    have s1 : Same H (upd H0 p (.lst (ys.map V.str))) := same_new s0 np
    have hp1 : (upd H0 p (.lst (ys.map V.str))) p = some (.lst (ys.map V.str)) := upd_same
    generalize upd H0 p (.lst (ys.map V.str)) = H1 at s1 hp1
    have yn : ∀ n, n ∈ ys → n ∈ names := fun n h => pm.mem_iff.mp h
    refine ⟨_, rfl, p, rfl, ⟨_, SqL.of hp1⟩, for_list (K := K) (a := p) (xs := ys.map V.str) (fun i σ H' => ∃ (v3 v4 v5 v6 : Option V), σ = [some (.ref pc), some (.ref pd), some (.ref p), v3, v4, v5, v6] ∧ H' = H1 ∧ ∀ j m, j < i → ys[j]? = some m → ¬ prO ds m = none)
      ⟨_, _, _, _, rfl, rfl, fun j m h => by omega⟩ (fun i σ H' _ ⟨_, _, _, _, _, e, _⟩ => by rw [e]; exact SqL.of hp1) ?_ ?_⟩
    · rintro i x σ H' hx ⟨v3, v4, v5, v6, rfl, rfl, hok⟩
      rw [List.getElem?_map] at hx
      obtain ⟨n, hn, rfl⟩ := Option.map_eq_some_iff.mp hx
      have inn := yn n (List.mem_of_getElem? hn)
      refine ⟨_, rfl, pd, rfl, ⟨_, s1.seq hpd⟩, for_list (K := K) (a := pd) (xs := us) (fun j σ H2 => ∃ (v5 : Option V), σ = [some (.ref pc), some (.ref pd), some (.ref p), v3, some (.str n), v5, v6] ∧ H2 = H' ∧ ∀ i2 d2, i2 < j → ds[i2]? = some d2 → d2.1 = n → d2.2.1 < 6)
        ⟨_, rfl, rfl, fun j m h => by omega⟩ (fun i σ H' _ ⟨_, _, e, _⟩ => by rw [e]; exact s1.seq hpd) ?_ ?_⟩
      · rintro j x σ H2 hx ⟨v5, rfl, rfl, hok2⟩
        obtain ⟨d, hd, qd, rfl, hq⟩ := paired_get hds j x hx
        have hq := s1 _ _ hq
        have ind := List.mem_of_getElem? hd
        have go : ∀ v5, (d.1 = n → d.2.1 < 6) → ∃ (v5' : Option V), [some (V.ref pc), some (.ref pd), some (.ref p), v3, some (.str n), v5, v6] = [some (.ref pc), some (.ref pd), some (.ref p), v3, some (.str n), v5', v6] ∧ H2 = H2 ∧ ∀ i2 d2, i2 < j + 1 → ds[i2]? = some d2 → d2.1 = n → d2.2.1 < 6 := fun v5 h => by
          refine ⟨_, rfl, rfl, fun i2 d2 h1 h2 h3 => ?_⟩
          by_cases c : i2 = j
          · subst c
            rw [hd] at h2
            cases h2
            exact h h3
          · exact hok2 i2 d2 (by omega) h2 h3
        refine ⟨_, rfl, _, _, _, _, rfl, rfl, SqL.of hq, rfl, _, rfl, rfl, _, rfl, ite2 (fun c => ?_) (fun c => ?_)⟩
        · have en : d.1 = n := V.str.inj (of_decide_eq_true c)
          refine ⟨_, rfl, _, _, _, _, rfl, rfl, SqL.of hq, rfl, _, _, rfl, rfl, _, rfl, ite2 (fun c2 => ?_) (fun c2 => ?_)⟩
          · have b6 : 6 ≤ d.2.1 := of_decide_eq_true c2
            have bad : prO ds n = none := by rw [← en]; exact prO_bad nd ind b6
            refine ⟨_, rfl, (by show 3 ≤ sizeLine; decide), fun pl npl => q pl _ _ (same_new s1 npl) (.bad n inn bad fun m hm hb => first_min (bad := fun m => prO ds m = none) pw hn hok m (pm.mem_iff.mpr hm) hb) (.lst (SqL.of upd_same) (.cons (.str _) (.cons (.bl true) (.cons (.str n) .nil)))) (s1.free npl)⟩
          · exact go _ fun _ => by
              have : ¬ 6 ≤ d.2.1 := fun z => c2 (decide_eq_true z)
              omega
        · exact iteF (go _ fun z => absurd (decide_eq_true (by rw [z])) c)
      · rintro σ H2 ⟨v5, rfl, rfl, hok2⟩
        refine ⟨_, _, _, _, rfl, rfl, fun j m hj hm => ?_⟩
        by_cases c : j = i
        · subst c
          rw [hn] at hm
          cases hm
          obtain ⟨pr, e, _⟩ := prO_good nd (sub n inn) fun d hd e => by
            obtain ⟨i2, h2⟩ := List.mem_iff_getElem?.mp hd
            exact hok2 i2 d (by have := (List.getElem?_eq_some_iff.mp h2).1; omega) h2 e
          rw [e]
          exact fun z => by cases z
        · exact hok j m (by omega) hm
    · rintro σ H' ⟨v3, v4, v5, v6, rfl, rfl, hok⟩
      have good : ∀ n ∈ names, prO ds n ≠ none := fun n hn => by
        obtain ⟨j, hj⟩ := List.mem_iff_getElem?.mp (pm.mem_iff.mpr hn)
        exact hok j n (by have := (List.getElem?_eq_some_iff.mp hj).1; simpa using this) hj
      refine ⟨_, rfl, p, rfl, ⟨_, SqL.of hp1⟩, for_list (K := K) (a := p) (xs := ys.map V.str) (fun i σ H2 => ∃ (v3 v4 v5 : Option V), σ = [some (.ref pc), some (.ref pd), some (.ref p), v3, v4, v5, some (.int ((ys.take i).map (priceOf (prO ds))).sum)] ∧ Same H' H2)
        ⟨_, _, _, rfl, Same.refl H'⟩ (fun i σ H2 _ ⟨_, _, _, _, e⟩ => SqL.of (e _ _ hp1)) ?_ ?_⟩
      · rintro i x σ H2 hx ⟨v3, v4, v5, rfl, s2⟩
        rw [List.getElem?_map] at hx
        obtain ⟨n, hn, rfl⟩ := Option.map_eq_some_iff.mp hx
        have inn := yn n (List.mem_of_getElem? hn)
        have s12 := s1.trans s2
        refine ⟨_, rfl, _, rfl, pd, rfl, ⟨_, s12.seq hpd⟩, fun D2 nD2 => lc_list (K := K) (a := pd) (xs := us) (fun j H3 => H3 D2 = some (.lst ((((ds.take j).filter fun d => decide (d.1 = n)).map fun d => d.2.2).map V.int)) ∧ Same H2 H3) ⟨upd_same, same_new (Same.refl H2) nD2⟩ (fun j H3 _ h => (s12.trans h.2).seq hpd) ?_ ?_⟩
        · rintro j x H3 hx ⟨hD3, s3⟩
          obtain ⟨d, hd, qd, rfl, hq⟩ := paired_get hds j x hx
          have hq := (s12.trans s3) _ _ hq
          have lt : j < ds.length := (List.getElem?_eq_some_iff.mp hd).1
          have tk : (ds.take (j + 1)).filter (fun d => decide (d.1 = n)) = (ds.take j).filter (fun d => decide (d.1 = n)) ++ (if d.1 = n then [d] else []) := by
            rw [List.take_add_one, hd, List.filter_append]
            by_cases c : d.1 = n
            · rw [if_pos c]
              simp [c]
            · rw [if_neg c]
              simp [c]
          refine ⟨rfl, _, rfl, _, _, _, _, rfl, rfl, SqL.of hq, rfl, _, rfl, rfl, _, rfl, ite2 (fun c => ?_) (fun c => ?_)⟩
          · refine ⟨_, rfl, _, _, _, _, rfl, rfl, SqL.of hq, rfl, _, hD3, ?_, ?_, same_put s3 nD2⟩
            · have l1 := List.length_filter_le (fun d : Desc => decide (d.1 = n)) (ds.take j)
              rw [List.length_take] at l1
              rw [List.length_map, List.length_map]
              have := sizeLine_eq
              omega
            · rw [upd_same, tk, if_pos (V.str.inj (of_decide_eq_true c)), List.map_append, List.map_append]
              rfl
          · refine ⟨?_, s3⟩
            rw [tk, if_neg (fun z => c (decide_eq_true (by rw [z]))), List.append_nil]
            exact hD3
        · rintro H3 ⟨hD3, s3⟩
          obtain ⟨pr, e1, e2⟩ := prO_good nd (sub n inn) fun d hd e => by
            by_cases c : d.2.1 < 6
            · exact c
            · exact absurd (prO_bad nd hd (by omega)) (by rw [e]; exact good n inn)
          rw [List.take_of_length_le (by omega)] at hD3
          have es : ((ys.take i).map (priceOf (prO ds))).sum + (((ds.filter fun d => decide (d.1 = n)).map fun d => d.2.2)).sum = ((ys.take (i + 1)).map (priceOf (prO ds))).sum := by
            rw [e2, List.take_add_one, hn, List.map_append, sum_snoc]
            show _ = _ + (priceOf (prO ds) n + 0)
            unfold priceOf
            rw [e1, Int.add_zero]
            rfl
          exact ⟨D2, _, rfl, SqL.of hD3, _, _, rfl, rfl, v3, some (.str n), v5, congrArg (fun z : Int => [some (V.ref pc), some (.ref pd), some (.ref p), v3, some (.str n), v5, some (.int z)]) es, s2.trans s3⟩
      · rintro σ H2 ⟨v3, v4, v5, rfl, s2⟩
        have s12 := s1.trans s2
        have es : ((ys.take (ys.map V.str).length).map (priceOf (prO ds))).sum = (names.map (priceOf (prO ds))).sum := by
          rw [List.length_map, List.take_of_length_le (Nat.le_refl _)]
          exact sum_perm (pm.map _)
        rw [es]
        exact ⟨_, rfl, (by show 2 ≤ sizeLine; decide), fun pl npl => q pl _ _ (same_new s12 npl) (.told good) (.lst (SqL.of upd_same) (.cons (.str _) (.cons (.int _) .nil))) (s12.free npl)⟩
end
/-! ### K42: the asking -/
open M42
section
variable {P : Program} {w : World} {K : PySem.W.Frag} {mg : Str → Option Value} {base : Heap}
theorem isOut_nd {names : List Str} {f : Str → Option Int} {d : PyData} (h : IsOut names f d) : nd d ≤ 999999 := by
  cases h <;> simp [nd, ndL]
/-- a list of descs that may be asked -/
structure Fit (K : PySem.W.Frag) (H : Hp) (pc pd : Addr) (xs us : List V) (names : List Str) (ds : List Desc) (k : Int) : Prop where
  cl : SqL K H pc xs
  ca : Paired (IsCall K H) xs names
  few : names.length < 64
  dl : SqL K H pd us
  de : Paired (IsDesc H) us ds
  good : ∀ d ∈ ds, Good d
  nd : (ds.map (·.1)).Nodup
  sub : ∀ n ∈ names, n ∈ ds.map (·.1)
  k2 : 2 ≤ k
  k4 : k ≤ 4
  len : ds.length < 64
  ok : ∀ d ∈ ds, PyData.strOk d.1 = true
theorem Fit.same {H H' : Hp} {pc pd : Addr} {xs us : List V} {names : List Str} {ds : List Desc} {k : Int} (s : Same H H') (F : Fit K H pc pd xs us names ds k) : Fit K H' pc pd xs us names ds k :=
  ⟨s.seq F.cl, paired_map (fun _ _ h => isCall_same s h) F.ca, F.few, s.seq F.dl, paired_map (fun _ _ h => isDesc_same s h) F.de, F.good, F.nd, F.sub, F.k2, F.k4, F.len, F.ok⟩
theorem Fit.out {H : Hp} {pc pd : Addr} {xs us : List V} {names : List Str} {ds : List Desc} {k : Int} {d : PyData} (F : Fit K H pc pd xs us names ds k) (h : IsOut names (fun n => (lk (tab k [] ds) n).bind fine) d) : IsOut names (prO ds) d :=
  isOut_congr (fun n hn => price_tab F.good F.nd (F.sub n hn)) h
def spAsked (K : PySem.W.Frag) : Sp := fun vs H Q _ => ∃ (pc pd : Addr) (xs us : List V) (names : List Str) (ds : List Desc) (k : Int), vs = [.ref pc, .ref pd, .int k] ∧ Fit K H pc pd xs us names ds k ∧ ∀ H', Same H H' → Q (.bl true) H'
theorem tab_keys {H : Hp} {kvs : List (Key × V)} {t : List (Str × PyData)} (h : IsTab K H kvs t) : (kvs.map fun kv => kV kv.1) = (t.map (·.1)).map V.str := by
  induction h with
  | nil => rfl
  | @cons kv e kvs t h _ ih =>
    rw [List.map_cons, List.map_cons, List.map_cons, ih, h.1]
    rfl
theorem put_keys {t : List (Str × PyData)} {n : Str} {d : PyData} {x : Str} (h : x ∈ (putT t n d).map (·.1)) : x ∈ t.map (·.1) ∨ x = n := by
  unfold putT at h
  split at h
  · left
    rw [List.map_map] at h
    obtain ⟨e, he, rfl⟩ := List.mem_map.mp h
    refine List.mem_map.mpr ⟨e, he, ?_⟩
    show e.1 = (if e.1 = n then (e.1, d) else e).1
    split <;> rfl
  · rw [List.map_append] at h
    rcases List.mem_append.mp h with h | h
    · exact .inl h
    · exact .inr (by simpa using h)
theorem tab_names {k : Int} : ∀ (ds : List Desc) (t : List (Str × PyData)) (x : Str), x ∈ (tab k t ds).map (·.1) → x ∈ t.map (·.1) ∨ x ∈ ds.map (·.1)
  | [], t, x, h => .inl h
  | d :: r, t, x, h => by
    have h : x ∈ (tab k (if d.2.1 < 20 then putT t d.1 (itemD d.2.1 d.2.2 k) else t) r).map (·.1) := h
    rcases tab_names r _ x h with h | h
    · split at h
      · rcases put_keys h with h | h
        · exact .inl h
        · exact .inr (by rw [h]; exact List.mem_cons_self)
      · exact .inl h
    · exact .inr (List.mem_cons_of_mem _ h)
theorem strs_data {H : Hp} : ∀ ys : List Str, DpAll K H (ys.map V.str) (ys.map PyData.str)
  | [] => .nil
  | y :: r => .cons (.str y) (strs_data r)
theorem strs_can : ∀ ys : List Str, (∀ y ∈ ys, PyData.strOk y = true) → PyData.canLayAll0 (ys.map PyData.str) = true
  | [], _ => rfl
  | y :: r, h => by
    show (PyData.strOk y && PyData.canLayAll0 (r.map PyData.str)) = true
    rw [h y List.mem_cons_self, strs_can r fun z hz => h z (List.mem_cons_of_mem _ hz)]
    rfl
theorem strs_depth (ys : List Str) : (PyData.list (ys.map PyData.str)).depth ≤ 64 := by
  have h : PyData.depthAll (ys.map PyData.str) ≤ 1 := by
    induction ys with
    | nil => exact Nat.zero_le _
    | cons y r ih =>
      show max (PyData.depth (.str y)) (PyData.depthAll (r.map PyData.str)) ≤ 1
      exact Nat.max_le.mpr ⟨by unfold PyData.depth; exact Nat.zero_le _, ih⟩
  show PyData.depthAll (ys.map PyData.str) + 1 ≤ 64
  omega
theorem ndL_rep (n : Nat) (x : PyData) : ndL (List.replicate n x) = n * nd x := by
  induction n with
  | zero => simp [ndL]
  | succ n ih =>
    rw [List.replicate_succ]
    simp only [ndL]
    rw [ih, Nat.succ_mul]
    omega
theorem nd_item {kind price k : Int} (hk : k ≤ 4) : nd (itemD kind price k) ≤ 100 := by
  have h4 : k.toNat ≤ 4 := by omega
  have i2 : ∀ {c : Prop} [Decidable c] {x y : PyData}, nd x ≤ 100 → nd y ≤ 100 → nd (if c then x else y) ≤ 100 := fun {c _ x y} h1 h2 => by
    split
    · exact h1
    · exact h2
  have l2 : ∀ {c : Prop} [Decidable c] {x y : List PyData}, ndL x ≤ 90 → ndL y ≤ 90 → ndL (if c then x else y) ≤ 90 := fun {c _ x y} h1 h2 => by
    split
    · exact h1
    · exact h2
  have m : ndL (more kind price k) ≤ 90 := by
    unfold more
    refine l2 (by simp [ndL]) (l2 (by simp [ndL, nd]) (l2 ?_ (l2 (by simp [ndL, nd]) (l2 ?_ ?_))))
    · rw [ndL_rep]
      simp only [nd]
      omega
    · rw [ndL_rep]
      simp only [nd]
      omega
    · rw [ndL_rep]
      simp only [nd]
      omega
  unfold itemD
  refine i2 ?_ ?_
  · simp only [nd, ndL]
    omega
  · repeat (refine i2 (by simp [nd, ndL]) ?_)
    simp [nd, ndL]
theorem tab_all {Pr : PyData → Prop} {k : Int} (hp : ∀ kind price, Pr (itemD kind price k)) : ∀ (ds : List Desc) (t : List (Str × PyData)), (∀ e ∈ t, Pr e.2) → ∀ e ∈ tab k t ds, Pr e.2
  | [], t, h => h
  | d :: r, t, h => by
    refine tab_all hp r _ fun e he => ?_
    split at he
    · unfold putT at he
      split at he
      · obtain ⟨x, hx, rfl⟩ := List.mem_map.mp he
        split
        · exact hp _ _
        · exact h x hx
      · rcases List.mem_append.mp he with he | he
        · exact h e he
        · rw [List.mem_singleton.mp he]
          exact hp _ _
    · exact h e he
theorem lk_mem {t : List (Str × PyData)} {n : Str} {d : PyData} (h : lk t n = some d) : (n, d) ∈ t := by
  unfold lk at h
  obtain ⟨e, he, rfl⟩ := Option.map_eq_some_iff.mp h
  have h1 := List.mem_of_find?_eq_some he
  have h2 := List.find?_some he
  have h3 : e.1 = n := of_decide_eq_true h2
  rw [← h3]
  exact h1
abbrev N_law_asked : List Str := ["calls", "descs", "k", "given", "kept", "due", "name"]
theorem sc_law_asked : FnScope N_law_asked ["calls", "descs", "k"] (defScope s_law_asked) := ⟨rfl, rfl, rfl, by decide +kernel, rfl, by decide +kernel, by decide +kernel⟩
theorem bi_law_asked {K : PySem.W.Frag} {mg : Str → Option Value} {f : Addr} {fd : FuncData} (D : Dd K mg "_law_asked" s_law_asked f fd) : Binds K fd ["calls", "descs", "k"] [] := D.fn.bindsN fun _ _ _ _ _ _ us hl => match us, hl with | [_, _, _], _ => rfl
theorem ok_law_asked (T : Tx K mg) : OkF P w K mg base CX0 6 "_law_asked" ["calls", "descs", "k"] (spAsked K) := by
  obtain ⟨fd, D⟩ := dd_law_asked T
  refine okF0 D sc_law_asked (bi_law_asked D) (fun vs H Q E h => ?_) (fun cdv A outer s H vs Q E hr h => ?_)
  · obtain ⟨pc, pd, xs, us, names, ds, k, rfl, _⟩ := h
    rfl
  · obtain ⟨pc, pd, xs, us, names, ds, k, rfl, F, q⟩ := h
    have hu := hu_of hr
    have hrU := hr.units
    refine ⟨_, (pss_cons (ps_set (i := 3) sc_law_asked.nd rfl (Or.inr rfl) (pe_callO (ok_law_table T) (hr.mono (by decide)) pass0 (pa_cons (pv 1) (pa_cons (pv 2) pa_nil))))
      (pss_cons (ps_set (i := 4) sc_law_asked.nd rfl (Or.inr rfl) (pe_callO (ok_law_table T) (hr.mono (by decide)) pass0 (pa_cons (pv 1) (pa_cons (pv 2) pa_nil))))
      (pss_cons (ps_set (i := 5) sc_law_asked.nd rfl (Or.inl rfl) (pe_callO (ok_law_owed T) (hr.mono (by decide)) pass0 (pa_cons (pv 0) (pa_cons (pv 1) pa_nil))))
      (pss_cons (ps_if (PW.pt (pw_or (pt_not (pt_val (pe_callO (ok_law_same T) (hr.mono (by decide)) pass0 (pa_cons (pe_callO (ok_law_ask T) (hr.mono (by decide)) pass0 (pa_cons (pe_callTy call_tuple_of (by rfl) (m_tuple T) (by decide +kernel) (pa_cons (pv 0) pa_nil)) (pa_cons (pv 3) pa_nil))) (pa_cons (pv 5) pa_nil))))) (pw_or1 (pt_not (pt_val (pe_callO (ok_law_same T) (hr.mono (by decide)) pass0 (pa_cons (pe_callO (ok_law_ask T) (hr.mono (by decide)) pass0 (pa_cons (pe_callTy call_tuple_of (by rfl) (m_tuple T) (by decide +kernel) (pa_cons (pv 0) pa_nil)) (pa_cons (pv 3) pa_nil))) (pa_cons (pv 5) pa_nil))))))))
      (pss_one (ps_ret pe_bl))
      pss_nil)
      (pss_cons (ps_if (pt_cmpR (op_neD hrU) (pe_callB cr_sortedS (by rfl) (m_sorted T) (by decide +kernel) (pa_cons (pe_callTy (call_listD rfl) (by rfl) (m_list T) (by decide +kernel) (pa_cons (pv 3) pa_nil)) pa_nil)) (pe_callB cr_sortedS (by rfl) (m_sorted T) (by decide +kernel) (pa_cons (pe_callTy (call_listD rfl) (by rfl) (m_list T) (by decide +kernel) (pa_cons (pv 4) pa_nil)) pa_nil)) (nomark _))
      (pss_one (ps_ret pe_bl))
      pss_nil)
      (pss_one (ps_ret (pe_callB (cr_all rfl) (by rfl) (m_all T) (by decide +kernel) (pa_cons (pe_lock (pe_lc (own := [("name", 6)]) (g := gName 6) (tt := tYes) rfl sc_law_asked.nd (pi_keys (pv 4)) (blkOk_by (own := [("name", 6)]) (N := N_law_asked) (sc := defScope s_law_asked) (by decide +kernel)) (fun _ _ _ _ _ => pg_name (i := 6) sc_law_asked.nd rfl (Or.inl rfl)) (fun _ _ _ _ _ => pts_nil) (fun _ _ _ _ _ => (pe_callO (ok_law_same T) (hr.mono (by decide)) pass0 (pa_cons (pe_dget hu (pv 3) (pv 6) (fun _ _ => rfl)) (pa_cons (pe_dget hu (pv 4) (pv 6) (fun _ _ => rfl)) pa_nil)))))) pa_nil))))))))), ?_⟩
    have l1000 : ds.length ≤ 1000 := by have := F.len; omega
    refine ⟨_, rfl, _, rfl, pd, us, ds, k, rfl, F.dl, F.de, F.good, F.k2, F.k4, l1000, fun pg H1 kg s1 npg hg tg lg => ?_⟩
    have F1 := F.same s1
    refine ⟨_, rfl, _, rfl, pd, us, ds, k, rfl, F1.dl, F1.de, F.good, F.k2, F.k4, l1000, fun pk H2 kk s2 npk hk tk lk2 => ?_⟩
    have F2 := F1.same s2
    have s02 := s1.trans s2
    refine ⟨_, rfl, _, rfl, pc, pd, xs, us, names, ds, rfl, F2.cl, F2.ca, F.few, F2.dl, F2.de, l1000, F.nd, F.sub, fun pe H3 dd s3 io dpe npe => ?_⟩
    have F3 := F2.same s3
    have s03 := s02.trans s3
    have hg3 := s3 _ _ (s2 _ _ hg)
    have tg3 := tab_same s3 (tab_same s2 tg)
    have hk3 := s3 _ _ hk
    have tk3 := tab_same s3 tk
    -- asked once
    refine ⟨_, rfl, pc, xs, rfl, .inl ⟨F3.cl, fun l nl => ⟨_, rfl, l, pg, xs, names, kg, _, rfl, .inl (.inl upd_same), paired_map (fun _ _ h => isCall_same (same_new (Same.refl _) nl) h) F3.ca, F.few, same_new (Same.refl _) nl _ _ hg3, tab_same (same_new (Same.refl _) nl) tg3, fun p1 H4 d1 s4 io1 dp1 np1 => ?_⟩⟩⟩
    have s34 : Same H3 H4 := (same_new (Same.refl _) nl).trans s4
    refine ⟨_, rfl, _, _, d1, dd, rfl, dp1, dp_same s34 dpe, isOut_nd io, fun H5 s5 => ⟨fun _ => ⟨true, rfl, iteF ?_⟩, fun n => absurd (isOut_one (F.out io1) io) n⟩⟩
    have s35 := s34.trans s5
    have F5 := F3.same s35
    have hg5 := s35 _ _ hg3
    have tg5 := tab_same s35 tg3
    -- asked again
    refine ⟨_, rfl, pc, xs, rfl, .inl ⟨F5.cl, fun l nl => ⟨_, rfl, l, pg, xs, names, kg, _, rfl, .inl (.inl upd_same), paired_map (fun _ _ h => isCall_same (same_new (Same.refl _) nl) h) F5.ca, F.few, same_new (Same.refl _) nl _ _ hg5, tab_same (same_new (Same.refl _) nl) tg5, fun p2 H6 d2 s6 io2 dp2 np2 => ?_⟩⟩⟩
    have s56 : Same H5 H6 := (same_new (Same.refl _) nl).trans s6
    have s36 := s35.trans s56
    refine ⟨_, rfl, _, _, d2, dd, rfl, dp2, dp_same s36 dpe, isOut_nd io, fun H7 s7 => ⟨fun _ => ⟨true, rfl, iteF ?_⟩, fun n => absurd (isOut_one (F.out io2) io) n⟩⟩
    have s37 := s36.trans s7
    have hg7 := s37 _ _ hg3
    have tg7 := tab_same s37 tg3
    have hk7 := s37 _ _ hk3
    have tk7 := tab_same s37 tk3
    have s07 := s03.trans s37
    have klen : ((tab k [] ds).map (·.1)).length < 64 := by
      rw [List.length_map, ← Paired.length tg]
      have := F.len
      omega
    have kok : ∀ x ∈ (tab k [] ds).map (·.1), PyData.strOk x = true := fun x hx => by
      rcases tab_names ds [] x hx with h | h
      · cases h
      · obtain ⟨d, hd, rfl⟩ := List.mem_map.mp h
        exact F.ok d hd
    -- the keys
    refine ⟨_, rfl, pg, kg, rfl, .inl hg7, fun l1 nl1 => ⟨l1, _, rfl, SqL.of (by rw [upd_same, tab_keys tg]), klen, fun ys1 q1 pm1 srt1 nq1 => ?_⟩⟩
    have s8 : Same H7 (upd (upd H7 l1 (.lst (kg.map fun kv => kV kv.1))) q1 (.lst (ys1.map V.str))) := same_new (same_new (Same.refl _) nl1) nq1
    have hq1 : (upd (upd H7 l1 (.lst (kg.map fun kv => kV kv.1))) q1 (.lst (ys1.map V.str))) q1 = some (.lst (ys1.map V.str)) := upd_same
    generalize upd (upd H7 l1 (.lst (kg.map fun kv => kV kv.1))) q1 (.lst (ys1.map V.str)) = H8 at s8 hq1
    refine ⟨_, rfl, pk, kk, rfl, .inl (s8 _ _ hk7), fun l2 nl2 => ⟨l2, _, rfl, SqL.of (by rw [upd_same, tab_keys tk]), klen, fun ys2 q2 pm2 srt2 nq2 => ?_⟩⟩
    have s9 : Same H8 (upd (upd H8 l2 (.lst (kk.map fun kv => kV kv.1))) q2 (.lst (ys2.map V.str))) := same_new (same_new (Same.refl _) nl2) nq2
    have hq2 : (upd (upd H8 l2 (.lst (kk.map fun kv => kV kv.1))) q2 (.lst (ys2.map V.str))) q2 = some (.lst (ys2.map V.str)) := upd_same
    generalize upd (upd H8 l2 (.lst (kk.map fun kv => kV kv.1))) q2 (.lst (ys2.map V.str)) = H9 at s9 hq2
    have ey : ys2 = ys1 := sorted_eq srt2 srt1 (pm2.trans pm1.symm)
    subst ey
    have can : (PyData.list (ys2.map PyData.str)).canLay0 = true := strs_can ys2 fun y hy => kok y (pm1.mem_iff.mp hy)
    have shp : SeqAt.shaped (.list (ys2.map PyData.str)) = true := by
      unfold SeqAt.shaped
      rw [can, decide_eq_true (strs_depth ys2)]
      rfl
    refine ⟨.list (ys2.map .str), .list (ys2.map .str), .lst (SqL.of (s9 _ _ hq1)) (strs_data ys2), .lst (SqL.of hq2) (strs_data ys2), shp, shp, _, rfl, ?_⟩
    rw [PySem.SeqAt.eqv_refl _ can]
    refine iteF ?_
    have s79 := s8.trans s9
    have hg9 := s79 _ _ hg7
    have tg9 := tab_same s79 tg7
    have hk9 := s79 _ _ hk7
    have tk9 := tab_same s79 tk7
    have s09 := s07.trans s79
    have npkH := s1.free npk
    have negk : pg ≠ pk := ne_of_none hg npk
    refine ⟨pk, .dK kk, hk9, trivial, fun od => ⟨_, rfl, pk, od, rfl, .inl ⟨kk, upd_same, fun D nD => ?_⟩⟩⟩
    have sF : Same H (upd H9 pk (.frz od (.dK kk))) := same_put s09 npkH
    have hgF : (upd H9 pk (.frz od (.dK kk))) pg = some (.dK kg) := by rw [upd_ne negk]; exact hg9
    have hkF : (upd H9 pk (.frz od (.dK kk))) pk = some (.frz od (.dK kk)) := upd_same
    have tgF : IsTab K (upd H9 pk (.frz od (.dK kk))) kg (tab k [] ds) := tab_upd hk9 tg9
    have tkF : IsTab K (upd H9 pk (.frz od (.dK kk))) kk (tab k [] ds) := tab_upd hk9 tk9
    generalize upd H9 pk (.frz od (.dK kk)) = HF at sF hgF hkF tgF tkF nD
    have nkD : pk ≠ D := ne_of_none hkF nD
    refine lc_it walk_keys (fun i H' => H' D = some (.lst ((List.replicate i true).map V.bl)) ∧ Same HF H') ⟨upd_same, same_new (Same.refl HF) nD⟩ (fun i H' _ h => h.2 _ _ hkF) ?_ ?_
    · rintro i x Ha Hb hi ⟨hD, sa⟩ ⟨rfl, ky, vy, hy, rfl⟩
      obtain ⟨e, he, h1, h2⟩ := paired_get tkF i (ky, vy) hy
      have h1 : ky = .inr e.1 := h1
      subst h1
      have memk : ∀ (kvs : List (Key × V)) (v : V), ((Sum.inr e.1 : Key), v) ∈ kvs → valV kvs (Sum.inr e.1 : Key) ≠ none := fun kvs v hm z => by
        unfold valV at z
        rw [Option.map_eq_none_iff, List.find?_eq_none] at z
        exact z _ hm (by simp)
      rcases tab_get tkF e.1 with ⟨g1, _⟩ | ⟨v2, d2, g1, g2, dv2⟩
      · exact absurd g1 (memk kk vy (List.mem_of_getElem? hy))
      rcases tab_get tgF e.1 with ⟨g3, g4⟩ | ⟨v1, d1, g3, g4, dv1⟩
      · rw [g2] at g4
        cases g4
      rw [g2] at g4
      cases g4
      have ndd : nd d2 ≤ 999999 := by
        have := tab_all (Pr := fun d => nd d ≤ 100) (fun kind price => nd_item F.k4) ds [] (fun e he => by cases he) _ (lk_mem g2)
        exact Nat.le_trans this (by decide)
      refine ⟨rfl, ?_⟩
      unfold tYes
      refine iteT ⟨_, rfl, _, rfl, pg, v1, rfl, .inl ⟨kg, .inr e.1, .inl (sa _ _ hgF), rfl, g3.symm⟩, _, rfl, _, rfl, pk, v2, rfl, .inl ⟨kk, .inr e.1, .inr ⟨od, sa _ _ hkF⟩, rfl, g1.symm⟩, _, _, d2, d2, rfl, dp_same sa dv1, dp_same sa dv2, ndd, fun Hc sc => ⟨fun _ => ?_, fun n => absurd rfl n⟩⟩
      refine ⟨_, sc _ _ hD, ?_, ?_, same_put (sa.trans sc) nD⟩
      · rw [List.length_map, List.length_replicate]
        have := sizeLine_eq
        omega
      · rw [upd_same, List.replicate_succ', List.map_append]
        rfl
    · rintro Ha ⟨hD, sa⟩
      refine ⟨sa _ _ hkF, D, _, rfl, SqL.of (by rw [upd_ne nkD.symm]; exact hD), ?_⟩
      have hq := q (upd Ha pk (.dK kk)) (same_put (sF.trans sa) npkH)
      simpa using hq
end
/-! ### K42: an item mended -/
open M42
section
variable {P : Program} {w : World} {K : PySem.W.Frag} {mg : Str → Option Value} {base : Heap}
def mend (d : Desc) : Desc := (d.1, if 6 ≤ d.2.1 then 1 else 8, d.2.2 + 1)
def spMend (K : PySem.W.Frag) : Sp := fun vs H Q _ => ∃ (pc pd : Addr) (xs us : List V) (names : List Str) (ds : List Desc) (k at_ : Int), vs = [.ref pc, .ref pd, .int k, .int at_] ∧ Fit K H pc pd xs us names ds k ∧ 0 ≤ at_ ∧ at_ < ds.length ∧ ∀ H', Same H H' → Q (.bl true) H'
theorem map_fst_set {ds : List Desc} {i : Nat} {d e : Desc} (h : ds[i]? = some d) (he : e.1 = d.1) : (ds.set i e).map (·.1) = ds.map (·.1) := by
  apply List.ext_getElem?
  intro j
  rw [List.getElem?_map, List.getElem?_map, List.getElem?_set]
  by_cases c : i = j
  · subst c
    rw [if_pos rfl, h]
    have lt := (List.getElem?_eq_some_iff.mp h).1
    rw [if_pos lt]
    exact congrArg some he
  · rw [if_neg c]
theorem prO_set {ds : List Desc} (nd : (ds.map (·.1)).Nodup) {i : Nat} {d e : Desc} (h : ds[i]? = some d) (he : e.1 = d.1) (n : Str) (hn : n ∈ ds.map (·.1)) : prO (ds.set i e) n = if n = d.1 then (if e.2.1 < 6 then some e.2.2 else none) else prO ds n := by
  unfold prO
  induction ds generalizing i with
  | nil => simp at h
  | cons x r ih =>
    rw [List.map_cons] at nd hn
    obtain ⟨nd1, nd2⟩ := List.nodup_cons.mp nd
    cases i with
    | zero =>
      have hx : x = d := Option.some.inj h
      subst hx
      rw [List.set_cons_zero]
      by_cases c : n = x.1
      · rw [if_pos c, List.find?_cons_of_pos (by simp [he, c])]
      · rw [if_neg c, List.find?_cons_of_neg (by simp [he]; exact fun z => c z.symm), List.find?_cons_of_neg (by simp; exact fun z => c z.symm)]
    | succ i =>
      have h : r[i]? = some d := by simpa using h
      have dx : d.1 ≠ x.1 := fun z => nd1 (by rw [← z]; exact List.mem_map.mpr ⟨d, List.mem_of_getElem? h, rfl⟩)
      rw [List.set_cons_succ]
      by_cases c : x.1 = n
      · rw [List.find?_cons_of_pos (by simp [c]), List.find?_cons_of_pos (by simp [c]), if_neg (by rw [← c]; exact fun z => dx z.symm)]
      · rw [List.find?_cons_of_neg (by simp [c]), List.find?_cons_of_neg (by simp [c])]
        exact ih nd2 h ((List.mem_cons.mp hn).resolve_left fun z => c z.symm)
theorem paired_of_get {α β : Type} {S : α → β → Prop} : ∀ (xs : List α) (ys : List β), xs.length = ys.length → (∀ (i : Nat) (x : α) (y : β), xs[i]? = some x → ys[i]? = some y → S x y) → Paired S xs ys
  | [], [], _, _ => .nil
  | x :: xs, y :: ys, h, f => .cons (f 0 x y rfl rfl) (paired_of_get xs ys (by simpa using h) fun i a b h1 h2 => f (i + 1) a b (by simpa using h1) (by simpa using h2))
  | [], _ :: _, h, _ => by simp at h
  | _ :: _, [], h, _ => by simp at h
theorem isCall_upd {H : Hp} {p : Addr} {k0 : List (Key × V)} {o : HO} {v : V} {n : Str} (hp : H p = some (.dK k0)) (h : IsCall K H v n) : IsCall K (upd H p o) v n := by
  obtain ⟨t, j, e, g⟩ := h
  exact ⟨t, j, e, sqT_put hp (fun _ z => nomatch z) (fun _ _ z => nomatch z) g⟩
abbrev N_law_mended : List Str := ["calls", "descs", "k", "at", "given", "first", "more", "desc"]
theorem sc_law_mended : FnScope N_law_mended ["calls", "descs", "k", "at"] (defScope s_law_mended) := ⟨rfl, rfl, rfl, by decide +kernel, rfl, by decide +kernel, by decide +kernel⟩
theorem bi_law_mended {K : PySem.W.Frag} {mg : Str → Option Value} {f : Addr} {fd : FuncData} (D : Dd K mg "_law_mended" s_law_mended f fd) : Binds K fd ["calls", "descs", "k", "at"] [] := D.fn.bindsN fun _ _ _ _ _ _ us hl => match us, hl with | [_, _, _, _], _ => rfl
theorem ok_law_mended (T : Tx K mg) : OkF P w K mg base CX0 6 "_law_mended" ["calls", "descs", "k", "at"] (spMend K) := by
  obtain ⟨fd, D⟩ := dd_law_mended T
  refine okF0 D sc_law_mended (bi_law_mended D) (fun vs H Q E h => ?_) (fun cdv A outer s H vs Q E hr h => ?_)
  · obtain ⟨pc, pd, xs, us, names, ds, k, at_, rfl, _⟩ := h
    rfl
  · obtain ⟨pc, pd, xs, us, names, ds, k, at_, rfl, F, a0, a1, q⟩ := h
    have hu := hu_of hr
    refine ⟨_, (pss_cons (ps_set (i := 4) sc_law_mended.nd rfl (Or.inl rfl) (pe_callO (ok_law_table T) (hr.mono (by decide)) pass0 (pa_cons (pv 1) (pa_cons (pv 2) pa_nil))))
      (pss_cons (ps_set (i := 5) sc_law_mended.nd rfl (Or.inl rfl) (pe_callO (ok_law_ask T) (hr.mono (by decide)) pass0 (pa_cons (pe_callTy call_tuple_of (by rfl) (m_tuple T) (by decide +kernel) (pa_cons (pv 0) pa_nil)) (pa_cons (pv 4) pa_nil))))
      (pss_cons (ps_if (pt_not (pt_val (pe_callO (ok_law_same T) (hr.mono (by decide)) pass0 (pa_cons (pv 5) (pa_cons (pe_callO (ok_law_owed T) (hr.mono (by decide)) pass0 (pa_cons (pv 0) (pa_cons (pv 1) pa_nil))) pa_nil)))))
      (pss_one (ps_ret pe_bl))
      pss_nil)
      (pss_cons (ps_setLc (i := 6) (own := [("desc", 7)]) (g := gName 7) (tt := tYes) rfl sc_law_mended.nd rfl rfl (sw_true rfl rfl rfl (by decide +kernel)) (pi_list (pv 1)) (blkOk_by (own := [("desc", 7)]) (N := N_law_mended) (sc := defScope s_law_mended) (by decide +kernel)) (fun _ _ _ _ _ => pg_name (i := 7) sc_law_mended.nd rfl (Or.inl rfl)) (fun _ _ _ _ _ => pts_nil) (fun _ _ _ _ _ => (pe_callTy (show CallR _ (.type "list") (rListOf K) from call_listK) (by rfl) (m_list T) (by decide +kernel) (pa_cons (pv 7) pa_nil))))
      (pss_cons (ps_set (i := 7) sc_law_mended.nd rfl (Or.inl rfl) (pe_ix ix_list (pv 6) (pv 3) (fun _ _ => rfl)))
      (pss_cons (ps_asg (pe_ifExp (pt_cmpR op_ge (pe_ix ix_list (pv 7) pe_int (fun _ _ => rfl)) pe_int (nomark _)) pe_int pe_int) (pg_sub (pv 7) pe_int set_list))
      (pss_cons (ps_asg (pe_op op_add (pe_ix ix_list (pv 7) pe_int (fun _ _ => rfl)) pe_int) (pg_sub (pv 7) pe_int set_list))
      (pss_cons (ps_dput hu (pv 4) (pe_ix ix_list (pv 7) pe_int (fun _ _ => rfl)) (pe_callO (ok_law_item T) (hr.mono (by decide)) pass0 (pa_cons (pe_ix ix_list (pv 7) pe_int (fun _ _ => rfl)) (pa_cons (pe_ix ix_list (pv 7) pe_int (fun _ _ => rfl)) (pa_cons (pv 2) pa_nil)))) rfl)
      (pss_one (ps_ret (pe_callO (ok_law_same T) (hr.mono (by decide)) pass0 (pa_cons (pe_callO (ok_law_ask T) (hr.mono (by decide)) pass0 (pa_cons (pe_callTy call_tuple_of (by rfl) (m_tuple T) (by decide +kernel) (pa_cons (pv 0) pa_nil)) (pa_cons (pv 4) pa_nil))) (pa_cons (pe_callO (ok_law_owed T) (hr.mono (by decide)) pass0 (pa_cons (pv 0) (pa_cons (pv 6) pa_nil))) pa_nil))))))))))))), ?_⟩
    have l1000 : ds.length ≤ 1000 := by have := F.len; omega
    refine ⟨_, rfl, _, rfl, pd, us, ds, k, rfl, F.dl, F.de, F.good, F.k2, F.k4, l1000, fun pg H1 kg s1 npg hg tg lg => ?_⟩
    have F1 := F.same s1
    -- first = _law_ask(tuple(calls), given)
    refine ⟨_, rfl, pc, xs, rfl, .inl ⟨F1.cl, fun l nl => ⟨_, rfl, l, pg, xs, names, kg, _, rfl, .inl (.inl upd_same), paired_map (fun _ _ h => isCall_same (same_new (Same.refl _) nl) h) F1.ca, F.few, same_new (Same.refl _) nl _ _ hg, tab_same (same_new (Same.refl _) nl) tg, fun p1 H2 d1 s2 io1 dp1 np1 => ?_⟩⟩⟩
    have s12 : Same H1 H2 := (same_new (Same.refl _) nl).trans s2
    have F2 := F1.same s12
    -- its answer is due
    refine ⟨_, rfl, _, rfl, _, rfl, pc, pd, xs, us, names, ds, rfl, F2.cl, F2.ca, F.few, F2.dl, F2.de, l1000, F.nd, F.sub, fun pe H3 dd s3 io dpe npe => ?_⟩
    refine ⟨_, _, d1, dd, rfl, dp_same s3 dp1, dpe, isOut_nd io, fun H4 s4 => ⟨fun _ => ⟨true, rfl, iteF ?_⟩, fun n => absurd (isOut_one (F.out io1) io) n⟩⟩
    have s14 := (s12.trans s3).trans s4
    have F4 := F1.same s14
    have hg4 := s14 _ _ hg
    have tg4 := tab_same s14 tg
    have s04 := s1.trans s14
    have ulen := Paired.length F.de
    -- more = [list(desc) for desc in descs]
    refine ⟨_, rfl, pd, rfl, ⟨_, F4.dl⟩, fun D nD => lc_list (K := K) (a := pd) (xs := us) (fun i H' => ∃ ws : List V, H' D = some (.lst ws) ∧ ws.length = i ∧ Paired (IsDesc H') ws (ds.take i) ∧ ws.Nodup ∧ (∀ v ∈ ws, ∃ q, v = .ref q ∧ q ≠ D ∧ H4 q = none) ∧ Same H4 H')
      ⟨[], upd_same, rfl, .nil, .nil, (fun _ h => by cases h), same_new (Same.refl H4) nD⟩ (fun i H' _ ⟨_, _, _, _, _, _, sm⟩ => sm.seq F4.dl) ?_ ?_⟩
    · rintro i x H' hx ⟨ws, hD, hl, hp, nd, hw, sm⟩
      obtain ⟨d, hd, qd, rfl, hq⟩ := paired_get F4.de i x hx
      have lt : i < ds.length := (List.getElem?_eq_some_iff.mp hd).1
      refine ⟨rfl, ?_⟩
      unfold tYes
      refine iteT ⟨_, rfl, qd, _, rfl, .inl (SqL.of (sm _ _ hq)), fun l nl => ⟨ws, by rw [upd_ne (ne_of_none hD nl)]; exact hD, by have := sizeLine_eq; have := F.len; omega, ws ++ [.ref l], upd_same, by rw [List.length_append, hl]; rfl, ?_, ?_, ?_, ?_⟩⟩
      · have nlD : l ≠ D := (ne_of_none hD nl).symm
        rw [List.take_add_one, hd]
        refine paired_snoc (paired_map2 (fun v e hv h => ?_) hp) ⟨l, rfl, by rw [upd_ne nlD, upd_same]⟩
        obtain ⟨q0, e0, g0⟩ := h
        obtain ⟨q1, e1, n1, _⟩ := hw v hv
        rw [e0] at e1
        cases e1
        exact ⟨q0, e0, by rw [upd_ne n1, upd_ne (ne_of_none g0 nl)]; exact g0⟩
      · rw [List.nodup_append]
        refine ⟨nd, (List.nodup_cons.mpr ⟨List.not_mem_nil, .nil⟩), fun v hv u hu z => ?_⟩
        rw [List.mem_singleton.mp hu] at z
        obtain ⟨j, hj⟩ := List.mem_iff_getElem?.mp hv
        obtain ⟨e, _, q0, e0, g0⟩ := paired_get hp j v hj
        rw [z] at e0
        cases e0
        rw [nl] at g0
        cases g0
      · intro v hv
        rcases List.mem_append.mp hv with hv | hv
        · exact hw v hv
        · exact ⟨l, List.mem_singleton.mp hv, (ne_of_none hD nl).symm, sm.free nl⟩
      · exact same_put (same_new sm nl) nD
    rintro H5 ⟨ws, hD, hl, hp, nd, hw, sm⟩
    rw [List.take_of_length_le (by omega)] at hp
    obtain ⟨j, rfl⟩ : ∃ j : Nat, at_ = j := ⟨at_.toNat, by omega⟩
    have lj : j < ds.length := by omega
    obtain ⟨d, hd⟩ : ∃ d, ds[j]? = some d := ⟨_, List.getElem?_eq_getElem lj⟩
    have gd := F.good d (List.mem_of_getElem? hd)
    have lw : ws.length = ds.length := by rw [hl, ulen]
    obtain ⟨v, hv⟩ : ∃ v, ws[j]? = some v := ⟨_, List.getElem?_eq_getElem (by omega)⟩
    obtain ⟨d', hd', qd, rfl, hq⟩ := paired_get hp j v hv
    rw [hd] at hd'
    cases hd'
    obtain ⟨qd', e0, nqD, nq4⟩ := hw _ (List.mem_of_getElem? hv)
    cases e0
    have others : ∀ (i : Nat) (x : V), i ≠ j → ws[i]? = some x → ∀ q, x = .ref q → q ≠ qd := fun i x ne hx q e z => by
      subst e
      subst z
      obtain ⟨li, ei⟩ := List.getElem?_eq_some_iff.mp hx
      obtain ⟨lj2, ej⟩ := List.getElem?_eq_some_iff.mp hv
      exact ne ((List.getElem_inj nd).mp (ei.trans ej.symm))
    have hgq : pg ≠ qd := ne_of_none hg4 nq4
    refine ⟨_, rfl, _, rfl, _, _, _, _, rfl, rfl, SqL.of hD, atI_nat hv, ?_⟩
    refine ⟨_, rfl, _, _, _, _, rfl, rfl, SqL.of hq, rfl, _, _, rfl, rfl, _, rfl, ite2 (fun c => ⟨_, rfl, _, _, _, _, rfl, rfl, hq, rfl, ?g1⟩) (fun c => ⟨_, rfl, _, _, _, _, rfl, rfl, hq, rfl, ?g2⟩)⟩
    case' g1 =>
      have em : (mend d).2.1 = 1 := if_pos (of_decide_eq_true c)
    case' g2 =>
      have em : (mend d).2.1 = 8 := if_neg fun z => c (decide_eq_true z)
    all_goals
      refine ⟨_, rfl, _, _, _, _, rfl, rfl, SqL.of upd_same, rfl, _, _, rfl, rfl, _, rfl, _, _, _, _, rfl, rfl, upd_same, rfl, ?_⟩
      rw [upd_upd]
      refine ⟨_, rfl, _, _, _, _, rfl, rfl, SqL.of upd_same, rfl, _, rfl, _, _, _, _, rfl, rfl, SqL.of upd_same, rfl, _, rfl, _, _, k, rfl, by decide, by decide, F.k2, F.k4, fun v H8 s8 dv => ?_⟩
      have s7 := same_put (o := .lst [.str d.1, .int (mend d).2.1, .int (mend d).2.2]) sm nq4
      have h7 : upd H5 qd (.lst [.str d.1, .int (mend d).2.1, .int (mend d).2.2]) qd = some (.lst [.str d.1, .int (mend d).2.1, .int (mend d).2.2]) := upd_same
      rw [em] at s7 h7
      have s48 := s7.trans s8
      have hq8 := s8 _ _ h7
      have hg8 := s48 _ _ hg4
      refine ⟨_, rfl, _, rfl, _, _, _, _, rfl, rfl, SqL.of hq8, rfl, pg, _, rfl, DPut.k (k := Sum.inr d.1) hg8 (by have := sizeLine_eq; omega), ?_⟩
      have F8 := F4.same s48
      have t9 : IsTab K (upd H8 pg (.dK (putK kg (Sum.inr d.1 : Key) v))) (putK kg (Sum.inr d.1 : Key) v) (putT (tab k [] ds) d.1 (itemD (mend d).2.1 (mend d).2.2 k)) := by
        refine tab_upd hg8 (tab_put (tab_same s48 tg4) ?_)
        rw [em]
        exact dv
      have cl9 : SqL K (upd H8 pg (.dK (putK kg (Sum.inr d.1 : Key) v))) pc xs := sqL_upd hg8 (fun _ z => nomatch z) (fun _ _ z => nomatch z) F8.cl
      have ca9 : Paired (IsCall K (upd H8 pg (.dK (putK kg (Sum.inr d.1 : Key) v)))) xs names := paired_map (fun _ _ h => isCall_upd hg8 h) F8.ca
      have hg9 : (upd H8 pg (.dK (putK kg (Sum.inr d.1 : Key) v))) pg = some (.dK (putK kg (Sum.inr d.1 : Key) v)) := upd_same
      have nDpg : D ≠ pg := fun z => by
        rw [z, hg4] at nD
        cases nD
      have hD9 : (upd H8 pg (.dK (putK kg (Sum.inr d.1 : Key) v))) D = some (.lst ws) := by
        rw [upd_ne nDpg]
        exact s8 _ _ (by rw [upd_ne nqD.symm]; exact hD)
      have de9 : Paired (IsDesc (upd H8 pg (.dK (putK kg (Sum.inr d.1 : Key) v)))) ws (ds.set j (mend d)) := by
        refine paired_of_get _ _ (by rw [List.length_set]; exact lw) fun i x y hx hy => ?_
        by_cases c2 : i = j
        · subst c2
          rw [hv] at hx
          cases hx
          rw [List.getElem?_set_self lj] at hy
          cases hy
          refine ⟨qd, rfl, ?_⟩
          rw [upd_ne hgq.symm, hq8, em]
          rfl
        · rw [List.getElem?_set_ne (fun z => c2 z.symm)] at hy
          obtain ⟨y', hy', q0, rfl, g0⟩ := paired_get hp i x hx
          rw [hy] at hy'
          cases hy'
          obtain ⟨q1, e1, _, nq1⟩ := hw _ (List.mem_of_getElem? hx)
          cases e1
          refine ⟨q0, rfl, ?_⟩
          rw [upd_ne (fun z => by rw [z, hg4] at nq1; cases nq1)]
          exact s8 _ _ (by rw [upd_ne (others i _ c2 hx q0 rfl)]; exact g0)
      have s09 : Same H (upd H8 pg (.dK (putK kg (Sum.inr d.1 : Key) v))) := same_put (s04.trans s48) npg
      generalize upd H8 pg (.dK (putK kg (Sum.inr d.1 : Key) v)) = H9 at t9 cl9 ca9 hg9 hD9 de9 s09
      refine ⟨_, rfl, pc, xs, rfl, .inl ⟨cl9, fun l nl => ⟨_, rfl, l, pg, xs, names, _, _, rfl, .inl (.inl upd_same), paired_map (fun _ _ h => isCall_same (same_new (Same.refl _) nl) h) ca9, F.few, same_new (Same.refl _) nl _ _ hg9, tab_same (same_new (Same.refl _) nl) t9, fun p3 H10 d3 s10 io3 dp3 np3 => ?_⟩⟩⟩
      have s910 : Same H9 H10 := (same_new (Same.refl _) nl).trans s10
      refine ⟨_, rfl, _, rfl, pc, D, xs, ws, names, ds.set j (mend d), rfl, s910.seq cl9, paired_map (fun _ _ h => isCall_same s910 h) ca9, F.few, SqL.of (s910 _ _ hD9), paired_map (fun _ _ h => isDesc_same s910 h) de9, by rw [List.length_set]; exact l1000, by rw [map_fst_set (e := mend d) hd rfl]; exact F.nd, (fun n hn => by rw [map_fst_set (e := mend d) hd rfl]; exact F.sub n hn), fun pe2 H11 d4 s11 io4 dpe2 npe2 => ?_⟩
      have io3' : IsOut names (prO (ds.set j (mend d))) d3 := isOut_congr (fun n hn => by
        rw [prO_set (e := mend d) F.nd hd rfl n (F.sub n hn), lk_put]
        by_cases c2 : n = d.1
        · rw [if_pos c2, if_pos c2]
          exact fine_item (by rw [em]; decide) (by show 0 ≤ d.2.2 + 1; have := gd.2.2; omega)
        · rw [if_neg c2, if_neg c2]
          exact price_tab F.good F.nd (F.sub n hn)) io3
      exact ⟨_, _, d3, d4, rfl, dp_same s11 dp3, dpe2, isOut_nd io4, fun H12 s12 => ⟨fun _ => q H12 (((s09.trans s910).trans s11).trans s12), fun n => absurd (isOut_one io3' io4) n⟩⟩
end
/-! ### K42: shuffled lists, names -/
open M42
section
variable {P : Program} {w : World} {K : PySem.W.Frag} {mg : Str → Option Value} {base : Heap}
theorem Kp.new {H H' : Hp} {a p : Addr} {o : HO} (np : H' p = none) (k : Kp a H H') : Kp a H (upd H' p o) := fun b u e n => by
  rw [upd_ne (ne_of_none (k b u e n) np)]
  exact k b u e n
theorem Kp.free {H H' : Hp} {a p : Addr} (k : Kp a H H') (np : H' p = none) (n : p ≠ a) : H p = none := by
  cases h : H p with
  | none => rfl
  | some o =>
    rw [k p o h n] at np
    cases np
theorem Kp.put_ne {a p : Addr} {H H' : Hp} {o : HO} (k : Kp a H H') (np : H p = none) : Kp a H (upd H' p o) := fun b u e n => by
  rw [upd_ne (ne_of_none e np)]
  exact k b u e n
theorem St7.put_ne {a ce p : Addr} {H : Hp} {o : HO} (h : St7 H a ce) (n : p ≠ a) (nc : p ≠ ce) : St7 (upd H p o) a ce := by
  obtain ⟨cs, pos, cur, left, beat, seed, mode, h1, h2, h3, h4⟩ := h
  exact ⟨cs, pos, cur, left, beat, seed, mode, by rw [upd_ne (Ne.symm n)]; exact h1, by rw [upd_ne (Ne.symm nc)]; exact h2, h3, h4⟩
theorem St7.new {H : Hp} {a ce p : Addr} {o : HO} (np : H p = none) (h : St7 H a ce) : St7 (upd H p o) a ce := h.same (fun b u e => by rw [upd_ne (ne_of_none e np)]; exact e)
theorem St7.ne {a ce p : Addr} {H : Hp} (h : St7 H a ce) (np : H p = none) : p ≠ a ∧ p ≠ ce := by
  obtain ⟨cs, pos, cur, left, beat, seed, mode, h1, h2, h3, h4⟩ := h
  exact ⟨(ne_of_none h1 np).symm, (ne_of_none h2 np).symm⟩
theorem at_of {xs : List V} {n : Int} (h0 : 0 ≤ n) (h1 : n < xs.length) : ∃ v, atI xs n = some v ∧ v ∈ xs := by
  obtain ⟨k, rfl⟩ : ∃ k : Nat, n = k := ⟨n.toNat, by omega⟩
  have lt : k < xs.length := by omega
  exact ⟨xs[k], atI_nat (List.getElem?_eq_getElem lt), List.getElem_mem lt⟩
def spShuf : Sp := fun vs H Q _ => ∃ (a ce pt : Addr) (xs : List V), vs = [.ref a, .ref pt] ∧ St7 H a ce ∧ H pt = some (.lst xs) ∧ pt ≠ a ∧ xs.length ≤ 1000 ∧
  ∀ (p : Addr) (ys : List V) (H' : Hp), Kp a H H' → St7 H' a ce → H p = none → p ≠ a → p ≠ ce → H' p = some (.lst ys) → ys.Perm xs → Q (.ref p) H'
abbrev N_law_shuffle : List Str := ["store", "things", "kind", "mixed", "k"]
theorem sc_law_shuffle : FnScope N_law_shuffle ["store", "things"] (defScope s_law_shuffle) := ⟨rfl, rfl, rfl, by decide +kernel, rfl, by decide +kernel, by decide +kernel⟩
theorem bi_law_shuffle {K : PySem.W.Frag} {mg : Str → Option Value} {f : Addr} {fd : FuncData} (D : Dd K mg "_law_shuffle" s_law_shuffle f fd) : Binds K fd ["store", "things"] [] := D.fn.bindsN fun _ _ _ _ _ _ us hl => match us, hl with | [_, _], _ => rfl
theorem ok_law_shuffle (T : Tx K mg) : OkF P w K mg base CX0 3 "_law_shuffle" ["store", "things"] spShuf := by
  obtain ⟨fd, D⟩ := dd_law_shuffle T
  refine okF0 D sc_law_shuffle (bi_law_shuffle D) (fun vs H Q E h => ?_) (fun cdv A outer s H vs Q E hr h => ?_)
  · obtain ⟨a, ce, pt, xs, rfl, _⟩ := h
    rfl
  · obtain ⟨a, ce, pt, xs, rfl, st, hpt, npa, hlen, q⟩ := h
    refine ⟨_, (pss_cons (ps_set (i := 2) sc_law_shuffle.nd rfl (Or.inl rfl) (pe_callO (ok_law_take T) (hr.mono (by decide)) pass0 (pa_cons (pv 0) (pa_cons pe_int pa_nil))))
      (pss_cons (ps_if (pt_cmpR op_lt (pv 2) pe_int (nomark _))
      (pss_one (ps_ret (pe_callTy call_list_of (by rfl) (m_list T) (by decide +kernel) (pa_cons (pv 1) pa_nil))))
      pss_nil)
      (pss_cons (ps_if (pt_cmpR op_eq (pv 2) pe_int (nomark _))
      (pss_one (ps_ret (pe_listrev (m_list T) (m_reversed T) (pv 1))))
      pss_nil)
      (pss_cons (ps_set (i := 3) sc_law_shuffle.nd rfl (Or.inl rfl) (pe_lst pa_nil))
      (pss_cons (ps_for PassesOwn.never rfl (pi_range1 rfl (m_range T) (pa_cons (pe_callB call_len_seq (by rfl) (m_len T) (by decide +kernel) (pa_cons (pv 1) pa_nil)) pa_nil)) (pg_name (i := 4) sc_law_shuffle.nd rfl (Or.inl rfl))
      (pss_one (ps_expr (pe_bm PySem.F.plainAttrs_list PySem.F.slot_list_insert PySem.F.type_list_insert mt_insert (pv 3) (pa_cons (pe_callO (ok_law_take T) (hr.mono (by decide)) pass0 (pa_cons (pv 0) (pa_cons (pe_op op_add (pv 4) pe_int) pa_nil))) (pa_cons (pe_ix ix_list (pv 1) (pv 4) (fun _ _ => rfl)) pa_nil))))))
      (pss_one (ps_ret (pv 3)))))))), ?_⟩
    refine ⟨_, rfl, a, 6, ce, rfl, by decide, st, fun n H1 _ _ _ kp st1 => ?_⟩
    have hpt1 := kp _ _ hpt npa
    refine ⟨_, rfl, _, _, rfl, rfl, _, rfl, ite2 (fun c => ?_) (fun c => ?_)⟩
    · refine ⟨_, rfl, pt, xs, rfl, .inl (SqL.of hpt1), fun p np => ?_⟩
      obtain ⟨n1, n2⟩ := st1.ne np
      exact q p xs _ (kp.new np) (st1.new np) (kp.free np n1) n1 n2 upd_same (List.Perm.refl _)
    refine ⟨_, rfl, rfl, _, rfl, ite2 (fun c => ?_) (fun c => ?_)⟩
    · refine ⟨_, rfl, pt, xs, rfl, SqL.of hpt1, fun p np => ?_⟩
      obtain ⟨n1, n2⟩ := st1.ne np
      exact q p _ _ (kp.new np) (st1.new np) (kp.free np n1) n1 n2 upd_same (List.reverse_perm _)
    refine ⟨(by show 0 ≤ sizeLine; decide), fun p np => ?_⟩
    obtain ⟨n1, n2⟩ := st1.ne np
    have npH := kp.free np n1
    have npp : pt ≠ p := ne_of_none hpt1 np
    refine ⟨_, rfl, pt, xs, rfl, .inl (SqL.of (by rw [upd_ne npp]; exact hpt1)), (xs.length : Int), rfl, by omega, by omega, for_range (lo := 0) (n := ((xs.length : Nat) : Int).toNat) (fun i σ H' => ∃ (v4 : Option V) (ys : List V), σ = [some (.ref a), some (.ref pt), some (.int n), some (.ref p), v4] ∧ H' p = some (.lst ys) ∧ ys.Perm (xs.take i) ∧ Kp a H H' ∧ St7 H' a ce)
      ⟨_, [], rfl, upd_same, .nil, kp.new np, st1.new np⟩ ?_ ?_⟩
    · rintro i σ H' hi ⟨v4, ys, rfl, hp, pm, kp2, st2⟩
      have lt : i < xs.length := by omega
      refine ⟨_, rfl, .inl ⟨rfl, _, SqL.of hp⟩, _, rfl, _, rfl, _, _, rfl, rfl, a, _, ce, rfl, by omega, st2, fun m H2 m0 m1 m2 kp3 st3 => ?_⟩
      have hp3 := kp3 _ _ hp n1
      have ly : ys.length = i := by rw [pm.length_eq, List.length_take]; omega
      have mle : m ≤ i := by
        by_cases c : (2 : Int) ≤ 0 + (i : Int) + 1
        · have := m1 c
          omega
        · have := m2 (by omega)
          omega
      refine ⟨_, rfl, _, rfl, _, _, _, _, rfl, rfl, SqL.of (kp3 _ _ (kp2 _ _ hpt npa) npa), (by rw [Int.zero_add]; exact atI_nat (List.getElem?_eq_getElem lt)), p, ys, m, xs[i], rfl, rfl, hp3, by have := sizeLine_eq; omega, m0, by omega, ?_⟩
      refine ⟨_, _, rfl, upd_same, ?_, (kp2.trans kp3).put_ne npH, st3.put_ne n1 n2⟩
      rw [List.take_add_one, List.getElem?_eq_getElem lt]
      have e1 : (ys.take m.toNat ++ [xs[i]] ++ ys.drop m.toNat).Perm (xs[i] :: ys) := by
        rw [List.append_assoc]
        refine List.perm_middle.trans (List.Perm.cons _ ?_)
        show (ys.take m.toNat ++ ys.drop m.toNat).Perm ys
        rw [List.take_append_drop]
      exact e1.trans ((List.perm_append_singleton _ _).symm.trans (List.Perm.append_right _ pm))
    · rintro σ H' ⟨v4, ys, rfl, hp, pm, kp2, st2⟩
      rw [List.take_of_length_le (by omega)] at pm
      exact ⟨_, rfl, q p ys H' kp2 st2 npH n1 n2 hp pm⟩
/-! ### names -/
theorem str_ext {a b : Str} (h : a.cps.toList = b.cps.toList) : a = b := by
  cases a
  cases b
  exact congrArg Str.mk (Array.toList_inj.mp h)
theorem str_app (a b : Str) : (a ++ b).cps.toList = a.cps.toList ++ b.cps.toList := by
  show (a.cps ++ b.cps).toList = _
  rw [Array.toList_append]
def cand (p s : List Nat) (c : Nat) : Str := ⟨(p ++ c :: s).toArray⟩
theorem cand_list (p s : List Nat) (c : Nat) : (cand p s c).cps.toList = p ++ c :: s := rfl
theorem cand_inj {p s : List Nat} {c d : Nat} (h : cand p s c = cand p s d) : c = d := by
  have h := congrArg (fun z : Str => z.cps.toList) h
  have h : p ++ c :: s = p ++ d :: s := h
  have h := List.append_cancel_left h
  exact (List.cons.inj h).1
theorem cut_pre {p s : List Nat} {c : Nat} : cutS (cand p s c) none (some (p.length : Int)) = ⟨p.toArray⟩ := by
  apply str_ext
  unfold cutS
  have hl : (cand p s c).length = (p ++ c :: s).length := by show (p ++ c :: s).toArray.size = _; rw [List.size_toArray]
  rw [HT.sIx_nat, hl, cand_list, Nat.min_eq_left (by rw [List.length_append]; omega)]
  show ((p ++ c :: s).drop 0).take (p.length - 0) = p
  rw [List.drop_zero, Nat.sub_zero, List.take_left]
theorem cut_suf {p s : List Nat} {c : Nat} : cutS (cand p s c) (some ((p.length : Int) + 1)) none = ⟨s.toArray⟩ := by
  apply str_ext
  have e : ((p.length : Int) + 1) = ((p.length + 1 : Nat) : Int) := by omega
  rw [e]
  unfold cutS
  have hl : (cand p s c).length = (p ++ c :: s).length := by show (p ++ c :: s).toArray.size = _; rw [List.size_toArray]
  rw [HT.sIx_nat, hl, cand_list, Nat.min_eq_left (by rw [List.length_append, List.length_cons]; omega)]
  show ((p ++ c :: s).drop (p.length + 1)).take ((p ++ c :: s).length - (p.length + 1)) = s
  rw [List.drop_append, List.drop_eq_nil_of_le (by omega), List.nil_append, show p.length + 1 - p.length = 1 by omega, List.drop_succ_cons, List.drop_zero]
  exact List.take_of_length_le (by rw [List.length_append, List.length_cons]; omega)
theorem cand_cat {p s : List Nat} {c : Nat} : (⟨p.toArray⟩ ++ ⟨#[c]⟩ ++ ⟨s.toArray⟩ : Str) = cand p s c := by
  apply str_ext
  rw [str_app, str_app, cand_list]
  simp
theorem cand_of {z : Str} {k : Nat} (h : k < z.length) : ∃ p s c, z = cand p s c ∧ p.length = k := by
  have hl : z.cps.toList.length = z.length := Array.length_toList
  have lt : k < z.cps.toList.length := by rw [hl]; exact h
  refine ⟨z.cps.toList.take k, z.cps.toList.drop (k + 1), z.cps.toList[k], str_ext ?_, by rw [List.length_take]; omega⟩
  rw [cand_list, ← List.drop_eq_getElem_cons lt, List.take_append_drop]
def kws : List Str := ["as", "exits", "let", "on", "run", "swap", "times", "try"]
theorem inV_strs (z : Str) : ∀ ns : List Str, inV (.str z) (ns.map V.str) = decide (z ∈ ns)
  | [] => by simp [inV]
  | n :: r => by
    have ih := inV_strs z r
    unfold inV at ih ⊢
    rw [List.map_cons, List.any_cons, ih]
    show ((n == z) || decide (z ∈ r)) = decide (z ∈ n :: r)
    by_cases c : n = z
    · simp [c]
    · have c2 : ¬ z = n := fun y => c y.symm
      simp [c, c2]
theorem flat_strs (ns : List Str) : (ns.map V.str).all flatV = true := by
  rw [List.all_map]
  exact List.all_eq_true.mpr fun _ _ => rfl
def NmOk (z : Str) : Prop := 1 ≤ z.length ∧ z.length ≤ 12 ∧ ∀ c ∈ z.cps.toList, c < 128
theorem nm_strOk {z : Str} (h : NmOk z) : PyData.strOk z = true := by
  unfold PyData.strOk
  rw [← Array.all_toList]
  exact List.all_eq_true.mpr fun c hc => decide_eq_true (Nat.lt_trans (h.2.2 c hc) (by decide))
theorem let_at : ∀ j : Fin 26, ("abcdefghijklmnopqrstuvwxyz" : Str).cps.toList[j.val]? = some (97 + j.val) := by decide +kernel
theorem join_one : ∀ (sep : Str) (ys : List Str), sep.length = 0 → (∀ y ∈ ys, y.length = 1 ∧ ∀ c ∈ y.cps.toList, c < 128) → (Txt.join sep ys).length = ys.length ∧ ∀ c ∈ (Txt.join sep ys).cps.toList, c < 128 := fun sep ys hs h => by
  rw [TL.join_eq]
  have e0 : sep.cps.toList = [] := List.length_eq_zero_iff.mp (by rw [Array.length_toList]; exact hs)
  induction ys with
  | nil => exact ⟨rfl, fun c hc => by simp [Str.join, Str.empty] at hc⟩
  | cons y r ih =>
    have hy := h y List.mem_cons_self
    have ih := ih fun u hu => h u (List.mem_cons_of_mem _ hu)
    cases r with
    | nil => exact ⟨hy.1, hy.2⟩
    | cons z r =>
      constructor
      · show (y ++ sep ++ Str.join sep (z :: r)).length = _
        rw [PySem.Str.length_append, PySem.Str.length_append, hs, hy.1, ih.1]
        simp only [List.length_cons]
        omega
      · show ∀ c ∈ (y ++ sep ++ Str.join sep (z :: r)).cps.toList, c < 128
        rw [str_app, str_app, e0, List.append_nil]
        intro c hc
        rcases List.mem_append.mp hc with hc | hc
        · exact hy.2 c hc
        · exact ih.2 c hc
/-- of sixteen different candidates one is not among fifteen names -/
theorem some_good {p s : List Nat} {f : Int} {bads : List Str} (hb : bads.length ≤ 15) (h : ∀ j : Nat, j < 27 → cand p s (97 + ((f + (j : Int)) % 26).toNat) ∈ bads) : False := by
  have nd : ((List.range 16).map fun j : Nat => cand p s (97 + ((f + (j : Int)) % 26).toNat)).Nodup := by
    refine List.pairwise_map.mpr (List.Pairwise.imp_of_mem ?_ List.nodup_range)
    intro i j hi hj ne e
    have hi := List.mem_range.mp hi
    have hj := List.mem_range.mp hj
    have := cand_inj e
    omega
  have le := nd.length_le_of_subset (l₂ := bads) fun x hx => by
    obtain ⟨j, hj, rfl⟩ := List.mem_map.mp hx
    exact h j (by have := List.mem_range.mp hj; omega)
  rw [List.length_map, List.length_range] at le
  omega
def spCalled : Sp := fun vs H Q _ => ∃ (a ce : Addr) (m : Int), vs = [.ref a, .int m] ∧ 0 ≤ m ∧ m ≤ 8 ∧ St7 H a ce ∧
  ∀ (p : Addr) (ns : List Str) (H' : Hp), Kp a H H' → St7 H' a ce → H p = none → p ≠ a → p ≠ ce → H' p = some (.lst (ns.map V.str)) → ns.length = m.toNat → ns.Nodup → (∀ n ∈ ns, NmOk n) → Q (.ref p) H'
abbrev N_law_called : List Str := ["store", "many", "letters", "found", "n", "long", "name", "m", "at", "first"]
theorem sc_law_called : FnScope N_law_called ["store", "many"] (defScope s_law_called) := ⟨rfl, rfl, rfl, by decide +kernel, rfl, by decide +kernel, by decide +kernel⟩
theorem bi_law_called {K : PySem.W.Frag} {mg : Str → Option Value} {f : Addr} {fd : FuncData} (D : Dd K mg "_law_called" s_law_called f fd) : Binds K fd ["store", "many"] [] := D.fn.bindsN fun _ _ _ _ _ _ us hl => match us, hl with | [_, _], _ => rfl
theorem ok_law_called (T : Tx K mg) : OkF P w K mg base CX0 3 "_law_called" ["store", "many"] spCalled := by
  obtain ⟨fd, D⟩ := dd_law_called T
  refine okF0 D sc_law_called (bi_law_called D) (fun vs H Q E h => ?_) (fun cdv A outer s H vs Q E hr h => ?_)
  · obtain ⟨a, ce, m, rfl, _⟩ := h
    rfl
  · obtain ⟨a, ce, mm, rfl, m0, m8, st, q⟩ := h
    refine ⟨_, (pss_cons (ps_set (i := 2) sc_law_called.nd rfl (Or.inr rfl) pe_str)
      (pss_cons (ps_set (i := 3) sc_law_called.nd rfl (Or.inl rfl) (pe_lst pa_nil))
      (pss_cons (ps_for PassesOwn.never rfl (pi_range1 rfl (m_range T) (pa_cons (pv 1) pa_nil)) (pg_name (i := 4) sc_law_called.nd rfl (Or.inl rfl))
      (pss_cons (ps_set (i := 5) sc_law_called.nd rfl (Or.inl rfl) (pe_ix ix_list (pe_lst (pa_cons pe_int (pa_cons pe_int (pa_cons pe_int (pa_cons (pe_op op_add pe_int (pe_callO (ok_law_take T) (hr.mono (by decide)) pass0 (pa_cons (pv 0) (pa_cons pe_int pa_nil)))) pa_nil))))) (pe_callO (ok_law_take T) (hr.mono (by decide)) pass0 (pa_cons (pv 0) (pa_cons pe_int pa_nil))) (fun _ _ => rfl)))
      (pss_cons (ps_set (i := 6) sc_law_called.nd rfl (Or.inl rfl) (pe_join pe_str (pe_lc (own := [("m", 7)]) (g := gName 7) (tt := tYes) rfl sc_law_called.nd (pi_range1 rfl (m_range T) (pa_cons (pv 5) pa_nil)) (blkOk_by (own := [("m", 7)]) (N := N_law_called) (sc := defScope s_law_called) (by decide +kernel)) (fun _ _ _ _ _ => pg_name (i := 7) sc_law_called.nd rfl (Or.inl rfl)) (fun _ _ _ _ _ => pts_nil) (fun _ _ _ _ _ => (pe_ix ix_str (pv 2) (pe_callO (ok_law_take T) (hr.mono (by decide)) pass0 (pa_cons (pv 0) (pa_cons pe_int pa_nil))) (fun _ _ => rfl))))))
      (C8.pss_cut (ps_if (PW.pt (pw_and (pt_cmpR op_gt (pv 4) pe_int (nomark _)) (pw_and1 (pt_cmpR op_eq (pe_callO (ok_law_take T) (hr.mono (by decide)) pass0 (pa_cons (pv 0) (pa_cons pe_int pa_nil))) pe_int (nomark _)))))
      (pss_one (ps_set (i := 6) sc_law_called.nd rfl (Or.inl rfl) (pe_slice sl_str (pe_op op_add_str (pe_ix ix_list (pv 3) (pe_callO (ok_law_take T) (hr.mono (by decide)) pass0 (pa_cons (pv 0) (pa_cons (pv 4) pa_nil))) (fun _ _ => rfl)) (pv 6)) po_none (po_some pe_int))))
      pss_nil)
      (pss_cons (ps_set (i := 8) sc_law_called.nd rfl (Or.inl rfl) (pe_callO (ok_law_take T) (hr.mono (by decide)) pass0 (pa_cons (pv 0) (pa_cons (pe_callB call_len_str (by rfl) (m_len T) (by decide +kernel) (pa_cons (pv 6) pa_nil)) pa_nil))))
      (pss_cons (ps_set (i := 9) sc_law_called.nd rfl (Or.inl rfl) (pe_callO (ok_law_take T) (hr.mono (by decide)) pass0 (pa_cons (pv 0) (pa_cons pe_int pa_nil))))
      (pss_cons (ps_for PassesOwn.never rfl (pi_range1 rfl (m_range T) (pa_cons pe_int pa_nil)) (pg_name (i := 7) sc_law_called.nd rfl (Or.inl rfl))
      (pss_one (ps_if (PW.pt (pw_or (pt_cmpR op_in_seq (pv 6) (pv 3) (by rfl)) (pw_or1 (pt_cmpR op_in_seq (pv 6) (pe_tup (pa_cons pe_str (pa_cons pe_str (pa_cons pe_str (pa_cons pe_str (pa_cons pe_str (pa_cons pe_str (pa_cons pe_str (pa_cons pe_str pa_nil))))))))) (by rfl)))))
      (pss_one (ps_set (i := 6) sc_law_called.nd rfl (Or.inl rfl) (pe_op op_add_str (pe_op op_add_str (pe_slice sl_str (pv 6) po_none (po_some (pv 8))) (pe_ix ix_str (pv 2) (pe_op op_mod (pe_callTy call_int1 (by rfl) (m_int T) (by decide +kernel) (pa_cons (pe_op op_add (pv 9) (pv 7)) pa_nil)) pe_int) (fun _ _ => rfl))) (pe_slice sl_str (pv 6) (po_some (pe_op op_add (pv 8) pe_int)) po_none))))
      pss_nil)))
      (pss_one (ps_expr (pe_bm PySem.F.plainAttrs_list PySem.F.slot_list_append PySem.F.type_list_append mt_append (pv 3) (pa_cons (pv 6) pa_nil)))))))))))
      (pss_one (ps_ret (pv 3)))))), ?_⟩
    refine ⟨(by show 0 ≤ sizeLine; decide), fun fo nfo => ?_⟩
    obtain ⟨nfa, nfc⟩ := st.ne nfo
    refine ⟨_, rfl, mm, rfl, by omega, by omega, for_range (lo := 0) (n := mm.toNat) (fun i σ H' => ∃ (v4 v5 v6 v7 v8 v9 : Option V) (ns : List Str), σ = [some (.ref a), some (.int mm), some (.str "abcdefghijklmnopqrstuvwxyz"), some (.ref fo), v4, v5, v6, v7, v8, v9] ∧ H' fo = some (.lst (ns.map V.str)) ∧ ns.length = i ∧ ns.Nodup ∧ (∀ n ∈ ns, NmOk n) ∧ Kp a H H' ∧ St7 H' a ce)
      ⟨_, _, _, _, _, _, [], rfl, upd_same, rfl, .nil, (fun _ h => by cases h), (Kp.refl a H).new nfo, st.new nfo⟩ ?_ ?_⟩
    · rintro i σ H' hi ⟨v4, v5, v6, v7, v8, v9, ns, rfl, hfo, hl, nd, hok, kp, st⟩
      have i8 : i < 8 := by omega
      -- long
      refine ⟨_, rfl, a, 12, ce, rfl, by decide, st, fun k H1 k0 k1 _ kp1 st1 => ⟨_, _, rfl, rfl, (by show 4 ≤ sizeLine; decide), fun p1 np1 => ⟨_, rfl, a, 4, ce, rfl, by decide, st1.new np1, fun j H2 j0 j1 _ kp2 st2 => ?_⟩⟩⟩
      have k1 := k1 (by decide)
      obtain ⟨v, g, m⟩ := at_of (xs := [.int 1, .int 2, .int 12, .int (1 + k)]) j0 (j1 (by decide))
      obtain ⟨long, rfl, L1, L12⟩ : ∃ L : Int, v = .int L ∧ 1 ≤ L ∧ L ≤ 12 := by
        simp only [List.mem_cons, List.not_mem_nil, or_false] at m
        rcases m with m | m | m | m
        · exact ⟨_, m, by decide, by decide⟩
        · exact ⟨_, m, by decide, by decide⟩
        · exact ⟨_, m, by decide, by decide⟩
        · exact ⟨_, m, by omega, by omega⟩
      have np1a := (st1.ne np1).1
      refine ⟨_, _, _, _, rfl, rfl, SqL.of (kp2 _ _ upd_same np1a), g, ?_⟩
      have kp02 : Kp a H H2 := ((kp.trans kp1).new np1).trans kp2
      have nfp1 : fo ≠ p1 := ne_of_none (kp1 _ _ hfo nfa) np1
      have hfo2 : H2 fo = some (.lst (ns.map V.str)) := kp2 _ _ (by rw [upd_ne nfp1]; exact kp1 _ _ hfo nfa) nfa
      -- name
      refine ⟨⟨_, rfl⟩, _, rfl, long, rfl, by omega, by omega, fun D nD => ?_⟩
      obtain ⟨nDa, nDc⟩ := st2.ne nD
      refine lc_range (lo := 0) (n := long.toNat) (fun i H3 => ∃ ys : List Str, H3 D = some (.lst (ys.map V.str)) ∧ ys.length = i ∧ (∀ y ∈ ys, y.length = 1 ∧ ∀ c ∈ y.cps.toList, c < 128) ∧ Kp a H2 H3 ∧ St7 H3 a ce)
        ⟨[], upd_same, rfl, (fun _ h => by cases h), (Kp.refl a H2).new nD, st2.new nD⟩ ?_ ?_
      · rintro x H3 hx ⟨ys, hD, hyl, hy, kp3, st3⟩
        refine ⟨rfl, ?_⟩
        unfold tYes
        refine iteT ⟨_, rfl, _, rfl, a, 26, ce, rfl, by decide, st3, fun r H4 r0 r1 _ kp4 st4 => ?_⟩
        have r1 := r1 (by decide)
        obtain ⟨r, rfl⟩ : ∃ y : Nat, r = y := ⟨r.toNat, by omega⟩
        have gl := let_at ⟨r, by omega⟩
        refine ⟨_, _, 97 + r, rfl, rfl, by decide +kernel, atI_nat gl, _, kp4 _ _ hD nDa, by rw [List.length_map, hyl]; have := sizeLine_eq; omega, ys ++ [⟨#[97 + r]⟩], by rw [upd_same, List.map_append]; rfl, by rw [List.length_append, hyl]; rfl, ?_, (kp3.trans kp4).put_ne nD, st4.put_ne nDa nDc⟩
        intro y hy2
        rcases List.mem_append.mp hy2 with h | h
        · exact hy y h
        · rw [List.mem_singleton.mp h]
          refine ⟨rfl, fun c hc => ?_⟩
          have : c = 97 + r := by simpa using hc
          omega
      rintro H3 ⟨ys, hD, hyl, hy, kp3, st3⟩
      obtain ⟨jl, jc⟩ := join_one "" ys rfl hy
      have kp03 := kp02.trans kp3
      have hfo3 := kp3 _ _ hfo2 nfa
      refine ⟨_, _, ys, rfl, rfl, .inl (SqL.of hD), ?_, ?_⟩
      · have sm : (ys.map (·.length)).sum ≤ ys.length * 1 := by
          clear hD hyl jl jc
          induction ys with
          | nil => exact Nat.zero_le _
          | cons y r ih =>
            have := (hy y List.mem_cons_self).1
            have ih := ih fun u hu => hy u (List.mem_cons_of_mem _ hu)
            show y.length + (r.map (·.length)).sum ≤ (r.length + 1) * 1
            omega
        have : ("" : Str).length = 0 := rfl
        rw [this]
        omega
      generalize hz : Txt.join "" ys = z at jl jc
      have zok : NmOk z := ⟨by omega, by omega, jc⟩
      refine ⟨fun σ' H4 => ∃ (z : Str), σ' = [some (.ref a), some (.int mm), some (.str "abcdefghijklmnopqrstuvwxyz"), some (.ref fo), some (.int (0 + (i : Int))), some (.int long), some (.str z), v7, v8, v9] ∧ NmOk z ∧ H4 fo = some (.lst (ns.map V.str)) ∧ Kp a H H4 ∧ St7 H4 a ce, ?_, ?_⟩
      · refine ⟨_, rfl, _, _, rfl, rfl, _, rfl, ite2 (fun c => ?_) (fun c => iteF ⟨z, rfl, zok, hfo3, kp03, st3⟩)⟩
        have ipos : 0 < i := by
          have := of_decide_eq_true c
          omega
        refine ⟨_, rfl, a, 3, ce, rfl, by decide, st3, fun t H4 _ _ _ kp4 st4 => ⟨rfl, _, rfl, ite2 (fun c2 => ?_) (fun c2 => ⟨z, rfl, zok, kp4 _ _ hfo3 nfa, kp03.trans kp4, st4⟩)⟩⟩
        refine ⟨_, rfl, _, rfl, _, rfl, a, _, ce, rfl, by omega, st4, fun u H5 u0 u1 u2 kp5 st5 => ?_⟩
        have ul : u < ns.length := by
          by_cases c3 : (2 : Int) ≤ 0 + (i : Int)
          · have := u1 c3
            omega
          · have := u2 (by omega)
            omega
        obtain ⟨v, g2, m2⟩ := at_of (xs := ns.map V.str) u0 (by rw [List.length_map]; exact ul)
        obtain ⟨y, hy2, rfl⟩ := List.mem_map.mp m2
        have yok := hok y hy2
        have hfo5 := kp5 _ _ (kp4 _ _ hfo3 nfa) nfa
        have lyz : (y ++ z).length = y.length + z.length := PySem.Str.length_append y z
        have yb := yok.2.1
        have zb := zok.2.1
        refine ⟨_, _, _, _, rfl, rfl, SqL.of hfo5, g2, _, rfl, _, _, rfl, rfl, by have := sizeLine_eq; omega, _, rfl, _, rfl, by have := sizeLine_eq; omega, cutS (y ++ z) none (some 12), rfl, ?_, hfo5, (kp03.trans kp4).trans kp5, st5⟩
        have cl : (cutS (y ++ z) none (some 12)).cps.toList = (y ++ z).cps.toList.take 12 := by
          show ((((y ++ z).cps.toList.drop 0).take (HT.sIx (y ++ z).length (y ++ z).length (some ((12 : Nat) : Int)) - 0)).toArray).toList = _
          rw [HT.sIx_nat, List.drop_zero, Nat.sub_zero]
          show (y ++ z).cps.toList.take (min 12 (y ++ z).length) = _
          have e : (y ++ z).cps.toList.length = (y ++ z).length := Array.length_toList
          rw [← e, List.take_eq_take_iff]
          omega
        have cn : (cutS (y ++ z) none (some 12)).length = min 12 (y ++ z).length := by
          have e : (y ++ z).cps.toList.length = (y ++ z).length := Array.length_toList
          show (cutS (y ++ z) none (some 12)).cps.size = _
          rw [← Array.length_toList, cl, List.length_take, e]
        refine ⟨by have := zok.1; omega, by omega, fun c hc => ?_⟩
        rw [cl] at hc
        have hc := List.mem_of_mem_take hc
        rw [str_app] at hc
        rcases List.mem_append.mp hc with hc | hc
        · exact yok.2.2 c hc
        · exact zok.2.2 c hc
      rintro σ' H4 ⟨z, rfl, zok, hfo4, kp4, st4⟩
      have zl : z.length ≤ sizeLine := by have := zok.2.1; have := sizeLine_eq; omega
      -- at, first
      refine ⟨_, rfl, _, rfl, z, rfl, zl, a, _, ce, rfl, by have := zok.2.1; omega, st4, fun at_ H5 t0 t1 t2 kp5 st5 => ?_⟩
      have tl : at_ < z.length := by
        by_cases c3 : (2 : Int) ≤ (z.length : Int)
        · exact t1 c3
        · have := t2 (by omega)
          have := zok.1
          omega
      obtain ⟨at_, rfl⟩ : ∃ y : Nat, at_ = y := ⟨at_.toNat, by omega⟩
      refine ⟨_, rfl, a, 26, ce, rfl, by decide, st5, fun fi H6 f0 f1 _ kp6 st6 => ?_⟩
      obtain ⟨pr, su, ch, rfl, plen⟩ := cand_of (z := z) (k := at_) (by omega)
      subst plen
      have hfo6 := kp6 _ _ (kp5 _ _ hfo4 nfa) nfa
      have kp06 := (kp4.trans kp5).trans kp6
      have lenc : ∀ c, (cand pr su c).length = pr.length + su.length + 1 := fun c => by
        show (pr ++ c :: su).toArray.size = _
        rw [List.size_toArray, List.length_append, List.length_cons]
        omega
      have okc : ∀ c, c < 128 → NmOk (cand pr su c) := fun c hc => by
        have h1 := zok.2.1
        have h2 := zok.2.2
        rw [lenc] at h1
        refine ⟨by rw [lenc]; omega, by rw [lenc]; exact h1, fun x hx => ?_⟩
        rw [cand_list] at hx h2
        rcases List.mem_append.mp hx with hx | hx
        · exact h2 x (List.mem_append_left _ hx)
        · rcases List.mem_cons.mp hx with hx | hx
          · rw [hx]
            exact hc
          · exact h2 x (List.mem_append_right _ (List.mem_cons_of_mem _ hx))
      have chb : ch < 128 := zok.2.2 ch (by rw [cand_list]; exact List.mem_append_right _ List.mem_cons_self)
      refine ⟨27, rfl, by decide, by decide, for_range (lo := 0) (n := (27 : Int).toNat) (fun m σ H7 => ∃ (v7 : Option V) (c : Nat), σ = [some (.ref a), some (.int mm), some (.str "abcdefghijklmnopqrstuvwxyz"), some (.ref fo), some (.int (0 + (i : Int))), some (.int long), some (.str (cand pr su c)), v7, some (.int (pr.length : Int)), some (.int fi)] ∧ c < 128 ∧ (cand pr su c ∉ ns ++ kws ∨ ∀ j : Nat, j < m → cand pr su (97 + ((fi + (j : Int)) % 26).toNat) ∈ ns ++ kws) ∧ H7 fo = some (.lst (ns.map V.str)) ∧ Kp a H H7 ∧ St7 H7 a ce)
        ⟨_, ch, rfl, chb, .inr (fun j h => by omega), hfo6, kp06, st6⟩ ?_ ?_⟩
      · rintro m σ H7 hm ⟨v7, c, rfl, cb, dis, hfo7, kp7, st7⟩
        have go : ∀ (H8 : Hp), H8 fo = some (.lst (ns.map V.str)) → Kp a H H8 → St7 H8 a ce → cand pr su c ∈ ns ++ kws → ∃ (v7' : Option V) (c' : Nat), [some (V.ref a), some (.int mm), some (.str "abcdefghijklmnopqrstuvwxyz"), some (.ref fo), some (.int (0 + (i : Int))), some (.int long), some (.str (cand pr su (97 + ((fi + (m : Int)) % 26).toNat))), some (.int (0 + (m : Int))), some (.int (pr.length : Int)), some (.int fi)] = [some (.ref a), some (.int mm), some (.str "abcdefghijklmnopqrstuvwxyz"), some (.ref fo), some (.int (0 + (i : Int))), some (.int long), some (.str (cand pr su c')), v7', some (.int (pr.length : Int)), some (.int fi)] ∧ c' < 128 ∧ (cand pr su c' ∉ ns ++ kws ∨ ∀ j : Nat, j < m + 1 → cand pr su (97 + ((fi + (j : Int)) % 26).toNat) ∈ ns ++ kws) ∧ H8 fo = some (.lst (ns.map V.str)) ∧ Kp a H H8 ∧ St7 H8 a ce := fun H8 h1 h2 h3 hb => by
          refine ⟨_, _, rfl, by omega, ?_, h1, h2, h3⟩
          by_cases c9 : cand pr su (97 + ((fi + (m : Int)) % 26).toNat) ∈ ns ++ kws
          · right
            intro j hj
            by_cases e : j = m
            · rw [e]
              exact c9
            · exact (dis.resolve_left fun z => z hb) j (by omega)
          · exact .inl c9
        have zl : (cand pr su c).length ≤ sizeLine := by
          rw [lenc]
          have := zok.2.1
          rw [lenc] at this
          have := sizeLine_eq
          omega
        have ml : ((fi + (m : Int)) % 26).toNat < 26 := by omega
        have gl := let_at ⟨((fi + (m : Int)) % 26).toNat, ml⟩
        have gl2 : atI ("abcdefghijklmnopqrstuvwxyz" : Str).cps.toList ((fi + (0 + (m : Int))) % 26) = some (97 + ((fi + (m : Int)) % 26).toNat) := by
          rw [Int.zero_add]
          have e : (fi + (m : Int)) % 26 = (((fi + (m : Int)) % 26).toNat : Int) := by omega
          have g3 := atI_nat (j := ((fi + (m : Int)) % 26).toNat) gl
          rw [← e] at g3
          exact g3
        have szs : (⟨pr.toArray⟩ : Str).length + (⟨#[97 + ((fi + (m : Int)) % 26).toNat]⟩ : Str).length + (⟨su.toArray⟩ : Str).length ≤ sizeLine := by
          show pr.toArray.size + 1 + su.toArray.size ≤ sizeLine
          rw [List.size_toArray, List.size_toArray]
          rw [lenc] at zl
          omega
        refine ⟨_, rfl, _, rfl, fo, ns.map V.str, rfl, .inl (SqL.of hfo7), rfl, flat_strs ns, _, rfl, ?_⟩
        have pp : (0 : Int) < 26 := by decide
        refine ite2 (fun c1 => ?_) (fun c1 => ?_)
        · have c1 : inV (.str (cand pr su c)) (ns.map V.str) = true := c1
          rw [inV_strs] at c1
          have inb : cand pr su c ∈ ns ++ kws := List.mem_append_left _ (of_decide_eq_true c1)
          refine iteT ?_
          refine ⟨_, rfl, _, rfl, _, rfl, _, rfl, zl, _, rfl, _, rfl, _, rfl, _, _, rfl, rfl, .inl ⟨_, rfl, _, _, rfl, rfl, pp, _, _, _, rfl, rfl, by decide +kernel, gl2, _, _, rfl, rfl, ?_, _, rfl, _, rfl, _, _, rfl, rfl, _, rfl, _, rfl, zl, _, _, rfl, rfl, ?_, ?_⟩⟩
          · rw [cut_pre]
            exact Nat.le_trans (Nat.le_add_right _ _) szs
          · rw [cut_pre, cut_suf, PySem.Str.length_append]
            exact szs
          · rw [cut_pre, cut_suf, cand_cat]
            exact go H7 hfo7 kp7 st7 inb
        have c1 : ¬ inV (.str (cand pr su c)) (ns.map V.str) = true := c1
        rw [inV_strs] at c1
        have nin : cand pr su c ∉ ns := fun z => c1 (decide_eq_true z)
        refine ⟨_, rfl, (by show 8 ≤ sizeLine; decide), fun pt npt => ⟨pt, kws.map V.str, rfl, .inr (.inl (.inl upd_same)), rfl, flat_strs kws, _, rfl, ite2 (fun c2 => ?_) (fun c2 => ?_)⟩⟩
        · have c2 : inV (.str (cand pr su c)) (kws.map V.str) = true := c2
          rw [inV_strs] at c2
          have inb : cand pr su c ∈ ns ++ kws := List.mem_append_right _ (of_decide_eq_true c2)
          refine ⟨_, rfl, _, rfl, _, rfl, _, rfl, zl, _, rfl, _, rfl, _, rfl, _, _, rfl, rfl, .inl ⟨_, rfl, _, _, rfl, rfl, pp, _, _, _, rfl, rfl, by decide +kernel, gl2, _, _, rfl, rfl, ?_, _, rfl, _, rfl, _, _, rfl, rfl, _, rfl, _, rfl, zl, _, _, rfl, rfl, ?_, ?_⟩⟩
          · rw [cut_pre]
            exact Nat.le_trans (Nat.le_add_right _ _) szs
          · rw [cut_pre, cut_suf, PySem.Str.length_append]
            exact szs
          · rw [cut_pre, cut_suf, cand_cat]
            exact go _ (by rw [upd_ne (ne_of_none hfo7 npt)]; exact hfo7) (kp7.new npt) (st7.new npt) inb
        · have c2 : ¬ inV (.str (cand pr su c)) (kws.map V.str) = true := c2
          rw [inV_strs] at c2
          refine ⟨_, c, rfl, cb, .inl fun z => ?_, by rw [upd_ne (ne_of_none hfo7 npt)]; exact hfo7, kp7.new npt, st7.new npt⟩
          rcases List.mem_append.mp z with z | z
          · exact nin z
          · exact c2 (decide_eq_true z)
      · rintro σ H7 ⟨v7, c, rfl, cb, dis, hfo7, kp7, st7⟩
        have good : cand pr su c ∉ ns := by
          rcases dis with d | d
          · exact fun z => d (List.mem_append_left _ z)
          · exact (some_good (bads := ns ++ kws) (by rw [List.length_append, hl]; show i + 8 ≤ 15; omega) fun j hj => d j hj).elim
        refine ⟨_, rfl, .inl ⟨rfl, _, SqL.of hfo7⟩, _, rfl, fo, _, _, rfl, rfl, hfo7, by rw [List.length_map]; have := sizeLine_eq; omega, ?_⟩
        refine ⟨_, _, _, _, _, _, ns ++ [cand pr su c], rfl, by rw [upd_same, List.map_append]; rfl, by rw [List.length_append, hl]; rfl, ?_, fun n hn => ?_, kp7.put_ne nfo, st7.put_ne nfa nfc⟩
        · rw [List.nodup_append]
          refine ⟨nd, List.nodup_cons.mpr ⟨List.not_mem_nil, .nil⟩, fun x hx y hy z => ?_⟩
          rw [List.mem_singleton.mp hy] at z
          exact good (z ▸ hx)
        · rcases List.mem_append.mp hn with hn | hn
          · exact hok n hn
          · rw [List.mem_singleton.mp hn]
            exact okc c cb
    · rintro σ H' ⟨v4, v5, v6, v7, v8, v9, ns, rfl, hfo, hl, nd, hok, kp, st⟩
      exact ⟨_, rfl, q fo ns H' kp st nfo nfa nfc hfo hl nd hok⟩
end
/-! ### K42: the law -/
open M42
section
variable {P : Program} {w : World} {K : PySem.W.Frag} {mg : Str → Option Value} {base : Heap}
theorem isCall_kp {a ce : Addr} {H H' : Hp} {v : V} {n : Str} (k : Kp a H H') (st : St7 H a ce) (h : IsCall K H v n) : IsCall K H' v n := by
  obtain ⟨t, j, e, g⟩ := h
  obtain ⟨cs, pos, cur, left, beat, seed, mode, h1, _⟩ := st
  refine ⟨t, j, e, ?_⟩
  rcases g with (g | ⟨o, g⟩) | g
  · exact .inl (.inl (k _ _ g fun z => by rw [z, h1] at g; cases g))
  · exact .inl (.inr ⟨o, k _ _ g fun z => by rw [z, h1] at g; cases g⟩)
  · exact .inr g
theorem isDesc_kp {a ce : Addr} {H H' : Hp} {v : V} {d : Desc} (k : Kp a H H') (st : St7 H a ce) (h : IsDesc H v d) : IsDesc H' v d := by
  obtain ⟨q, e, g⟩ := h
  obtain ⟨cs, pos, cur, left, beat, seed, mode, h1, _⟩ := st
  exact ⟨q, e, k _ _ g fun z => by rw [z, h1] at g; cases g⟩
theorem isCall_put {H : Hp} {p : Addr} {us : List V} {o : HO} {v : V} {n : Str} (hp : H p = some (.lst us)) (h : IsCall K H v n) : IsCall K (upd H p o) v n := by
  obtain ⟨t, j, e, g⟩ := h
  exact ⟨t, j, e, sqT_put hp (fun _ => lst_tup) (fun _ _ => lst_frz) g⟩
theorem isDesc_put {H : Hp} {p : Addr} {us : List V} {o : HO} {v : V} {d : Desc} (hp : H p = some (.lst us)) (hr : ∀ u ∈ us, ∃ q, u = V.ref q) (h : IsDesc H v d) : IsDesc (upd H p o) v d := by
  obtain ⟨q, e, g⟩ := h
  refine ⟨q, e, ?_⟩
  rw [upd_ne fun z => ?_]
  · exact g
  · rw [z, hp] at g
    cases g
    obtain ⟨q, e⟩ := hr _ List.mem_cons_self
    cases e
theorem desc_refs {H : Hp} {us : List V} {ds : List Desc} (h : Paired (IsDesc H) us ds) : ∀ u ∈ us, ∃ q, u = V.ref q := fun u hu => by
  obtain ⟨i, hi⟩ := List.mem_iff_getElem?.mp hu
  obtain ⟨_, _, q, e, _⟩ := paired_get h i u hi
  exact ⟨q, e⟩
theorem paired_perm {α β : Type} {R : α → β → Prop} {xs ys : List α} (p : ys.Perm xs) : ∀ {bs : List β}, Paired R xs bs → ∃ cs : List β, cs.Perm bs ∧ Paired R ys cs := by
  induction p with
  | nil => exact fun h => ⟨_, List.Perm.refl _, h⟩
  | cons x _ ih =>
    intro bs h
    cases h with
    | cons a t =>
      obtain ⟨cs, p, q⟩ := ih t
      exact ⟨_, p.cons _, .cons a q⟩
  | swap x y l =>
    intro bs h
    cases h with
    | cons a t =>
      cases t with
      | cons b t => exact ⟨_, List.Perm.swap _ _ _, .cons b (.cons a t)⟩
  | trans _ _ ih1 ih2 =>
    intro bs h
    obtain ⟨cs, p, q⟩ := ih2 h
    obtain ⟨es, p2, q2⟩ := ih1 q
    exact ⟨es, p2.trans p, q2⟩
theorem paired_rev {α β : Type} {R : α → β → Prop} : ∀ {xs : List α} {bs : List β}, Paired R xs bs → Paired R xs.reverse bs.reverse
  | _, _, .nil => .nil
  | _, _, .cons a t => by
    rw [List.reverse_cons, List.reverse_cons]
    exact paired_snoc (paired_rev t) a
theorem paired_app {α β : Type} {R : α → β → Prop} : ∀ {xs ys : List α} {bs cs : List β}, Paired R xs bs → Paired R ys cs → Paired R (xs ++ ys) (bs ++ cs)
  | _, _, _, _, .nil, h => h
  | _, _, _, _, .cons a t, h => .cons a (paired_app t h)
/-- what stands of the law: the store, the names, the calls -/
structure Lw (K : PySem.W.Frag) (H : Hp) (a ce pn pc : Addr) (ns : List Str) (xs : List V) (names : List Str) : Prop where
  st : St7 H a ce
  hn : H pn = some (.lst (ns.map V.str))
  nna : pn ≠ a
  hc : H pc = some (.lst xs)
  nca : pc ≠ a
  nce : pc ≠ ce
  ca : Paired (IsCall K H) xs names
  sub : ∀ n ∈ names, n ∈ ns
  few : names.length ≤ 60
structure Dl (H : Hp) (a pd : Addr) (ns : List Str) (us : List V) (ds : List Desc) : Prop where
  hd : H pd = some (.lst us)
  nda : pd ≠ a
  de : Paired (IsDesc H) us ds
  good : ∀ d ∈ ds, Good d
  nm : (ds.map (·.1)).Perm ns
section
variable {H H' : Hp} {a ce pn pc pd : Addr} {ns names : List Str} {xs us : List V} {ds : List Desc} {k : Int}
theorem Lw.same (s : Same H H') (L : Lw K H a ce pn pc ns xs names) : Lw K H' a ce pn pc ns xs names := ⟨L.st.same s, s _ _ L.hn, L.nna, s _ _ L.hc, L.nca, L.nce, paired_map (fun _ _ h => isCall_same s h) L.ca, L.sub, L.few⟩
theorem Lw.kp (k : Kp a H H') (st : St7 H' a ce) (L : Lw K H a ce pn pc ns xs names) : Lw K H' a ce pn pc ns xs names := ⟨st, k _ _ L.hn L.nna, L.nna, k _ _ L.hc L.nca, L.nca, L.nce, paired_map (fun _ _ h => isCall_kp k L.st h) L.ca, L.sub, L.few⟩
theorem Dl.same (s : Same H H') (L : Dl H a pd ns us ds) : Dl H' a pd ns us ds := ⟨s _ _ L.hd, L.nda, paired_map (fun _ _ h => isDesc_same s h) L.de, L.good, L.nm⟩
theorem Dl.kp (k : Kp a H H') (st : St7 H a ce) (L : Dl H a pd ns us ds) : Dl H' a pd ns us ds := ⟨k _ _ L.hd L.nda, L.nda, paired_map (fun _ _ h => isDesc_kp k st h) L.de, L.good, L.nm⟩
theorem fit_of (nd : ns.Nodup) (ok : ∀ n ∈ ns, NmOk n) (l8 : ns.length = 8) (k2 : 2 ≤ k) (k4 : k ≤ 4) {pc : Addr} {xs : List V} {names : List Str} (hc : SqL K H pc xs) (ca : Paired (IsCall K H) xs names) (sub : ∀ n ∈ names, n ∈ ns) (few : names.length < 64) (D : Dl H a pd ns us ds) : Fit K H pc pd xs us names ds k :=
  ⟨hc, ca, few, SqL.of D.hd, D.de, D.good, D.nm.nodup_iff.mpr nd, fun n hn => D.nm.mem_iff.mpr (sub n hn), k2, k4, by rw [← List.length_map (f := fun d : Desc => d.1), D.nm.length_eq]; omega, fun d hd => nm_strOk (ok _ (D.nm.mem_iff.mp (List.mem_map.mpr ⟨d, hd, rfl⟩)))⟩
end
def spLaw (K : PySem.W.Frag) : Sp := fun vs H Q _ => ∃ (a : Addr) (ns : List Int), vs = [.ref a] ∧ SqL K H a (ns.map V.int) ∧ ns.length ≤ 63 ∧ ∀ H', Q (.bl true) H'
abbrev N_law : List Str := ["script", "store", "k", "called", "many", "calls", "n", "descs", "name", "price", "kind", "bad", "desc", "one", "at"]
theorem sc_law : FnScope N_law ["script"] (defScope s_law) := ⟨rfl, rfl, rfl, by decide +kernel, rfl, by decide +kernel, by decide +kernel⟩
theorem bi_law {K : PySem.W.Frag} {mg : Str → Option Value} {f : Addr} {fd : FuncData} (D : Dd K mg "law" s_law f fd) : Binds K fd ["script"] [] := D.fn.bindsN fun _ _ _ _ _ _ us hl => match us, hl with | [_], _ => rfl
theorem fn_law (T : Tx K mg) {fd : FuncData} (D : Dd K mg "law" s_law (He.ga K "law") fd) : FnOk P w K mg base CX0 7 (He.ga K "law") fd ["script"] (spLaw K) := by
  refine fnF0 D sc_law (fun vs H Q E h => ?_) (fun cdv A outer s H vs Q E hr h => ?_)
  · obtain ⟨a, ns, rfl, _⟩ := h
    rfl
  · obtain ⟨sa, ns0, rfl, hS, hlen, q⟩ := h
    refine ⟨_, (pss_cons (ps_set (i := 1) sc_law.nd rfl (Or.inl rfl) (pe_callO (ok_law_open T) (hr.mono (by decide)) pass0 (pa_cons (pv 0) pa_nil)))
      (pss_cons (ps_set (i := 2) sc_law.nd rfl (Or.inl rfl) (pe_op op_add pe_int (pe_callO (ok_law_take T) (hr.mono (by decide)) pass0 (pa_cons (pv 1) (pa_cons pe_int pa_nil)))))
      (pss_cons (ps_set (i := 3) sc_law.nd rfl (Or.inl rfl) (pe_callO (ok_law_called T) (hr.mono (by decide)) pass0 (pa_cons (pv 1) (pa_cons pe_int pa_nil))))
      (pss_cons (ps_set (i := 4) sc_law.nd rfl (Or.inl rfl) (pe_op op_add pe_int (pe_callO (ok_law_take T) (hr.mono (by decide)) pass0 (pa_cons (pv 1) (pa_cons pe_int pa_nil)))))
      (pss_cons (ps_set (i := 5) sc_law.nd rfl (Or.inl rfl) (pe_lst pa_nil))
      (pss_cons (ps_for PassesOwn.never rfl (pi_range1 rfl (m_range T) (pa_cons (pe_ix ix_list (pe_lst (pa_cons (pe_callO (ok_law_take T) (hr.mono (by decide)) pass0 (pa_cons (pv 1) (pa_cons pe_int pa_nil))) (pa_cons (pe_callO (ok_law_take T) (hr.mono (by decide)) pass0 (pa_cons (pv 1) (pa_cons pe_int pa_nil))) (pa_cons pe_int (pa_cons pe_int pa_nil))))) (pe_callO (ok_law_take T) (hr.mono (by decide)) pass0 (pa_cons (pv 1) (pa_cons pe_int pa_nil))) (fun _ _ => rfl)) pa_nil)) (pg_name (i := 6) sc_law.nd rfl (Or.inl rfl))
      (pss_one (ps_expr (pe_bm PySem.F.plainAttrs_list PySem.F.slot_list_append PySem.F.type_list_append mt_append (pv 5) (pa_cons (pe_tup (pa_cons (pe_ix ix_list (pv 3) (pe_callO (ok_law_take T) (hr.mono (by decide)) pass0 (pa_cons (pv 1) (pa_cons (pv 4) pa_nil))) (fun _ _ => rfl)) (pa_cons (pe_callO (ok_law_take T) (hr.mono (by decide)) pass0 (pa_cons (pv 1) (pa_cons (pv 2) pa_nil))) pa_nil))) pa_nil)))))
      (pss_cons (ps_set (i := 7) sc_law.nd rfl (Or.inl rfl) (pe_lst pa_nil))
      (pss_cons (ps_for PassesOwn.never rfl (pi_list (pv 3)) (pg_name (i := 8) sc_law.nd rfl (Or.inr rfl))
      (pss_cons (ps_set (i := 9) sc_law.nd rfl (Or.inl rfl) (pe_ix ix_list (pe_lst (pa_cons pe_int (pa_cons pe_int (pa_cons (pe_callO (ok_law_take T) (hr.mono (by decide)) pass0 (pa_cons (pv 1) (pa_cons pe_int pa_nil))) (pa_cons (pe_callO (ok_law_take T) (hr.mono (by decide)) pass0 (pa_cons (pv 1) (pa_cons (pe_op op_powW pe_int pe_int) pa_nil))) (pa_cons (pe_op op_powW pe_int pe_int) (pa_cons (pe_op op_sub (pe_op op_powW pe_int pe_int) pe_int) pa_nil))))))) (pe_callO (ok_law_take T) (hr.mono (by decide)) pass0 (pa_cons (pv 1) (pa_cons pe_int pa_nil))) (fun _ _ => rfl)))
      (pss_cons (ps_set (i := 10) sc_law.nd rfl (Or.inr rfl) (pe_callO (ok_law_take T) (hr.mono (by decide)) pass0 (pa_cons (pv 1) (pa_cons pe_int pa_nil))))
      (C8.pss_cut (ps_if (pt_cmpR op_notIn_seq (pv 8) (pe_slice sl_list (pv 3) po_none (po_some (pv 4))) (by rfl))
      (pss_one (ps_set (i := 10) sc_law.nd rfl (Or.inr rfl) (pe_callO (ok_law_take T) (hr.mono (by decide)) pass0 (pa_cons (pv 1) (pa_cons pe_int pa_nil)))))
      pss_nil)
      (pss_one (ps_expr (pe_bm PySem.F.plainAttrs_list PySem.F.slot_list_append PySem.F.type_list_append mt_append (pv 7) (pa_cons (pe_lst (pa_cons (pv 8) (pa_cons (pv 10) (pa_cons (pv 9) pa_nil)))) pa_nil))))))))
      (pss_cons (ps_set (i := 7) sc_law.nd rfl (Or.inl rfl) (pe_callO (ok_law_shuffle T) (hr.mono (by decide)) pass0 (pa_cons (pv 1) (pa_cons (pv 7) pa_nil))))
      (pss_cons (ps_if (pt_not (pt_val (pe_callO (ok_law_asked T) (hr.mono (by decide)) pass0 (pa_cons (pv 5) (pa_cons (pv 7) (pa_cons (pv 2) pa_nil))))))
      (pss_one (ps_ret pe_bl))
      pss_nil)
      (pss_cons (ps_setLc (i := 11) (own := [("desc", 12)]) (g := gName 12) (tt := tYes) rfl sc_law.nd rfl rfl (sw_true rfl rfl rfl (by decide +kernel)) (pi_list (pv 7)) (blkOk_by (own := [("desc", 12)]) (N := N_law) (sc := defScope s_law) (by decide +kernel)) (fun _ _ _ _ _ => pg_name (i := 12) sc_law.nd rfl (Or.inl rfl)) (fun _ _ _ _ _ => pts_nil) (fun _ _ _ _ _ => (pe_callTy (show CallR _ (.type "list") (rListOf K) from call_listK) (by rfl) (m_list T) (by decide +kernel) (pa_cons (pv 12) pa_nil))))
      (pss_cons (ps_for PassesOwn.never rfl (pi_range1 rfl (m_range T) (pa_cons (pe_op op_add pe_int (pe_callO (ok_law_take T) (hr.mono (by decide)) pass0 (pa_cons (pv 1) (pa_cons pe_int pa_nil)))) pa_nil)) (pg_name (i := 6) sc_law.nd rfl (Or.inl rfl))
      (pss_cons (ps_set (i := 8) sc_law.nd rfl (Or.inr rfl) (pe_ix ix_list (pv 3) (pe_callO (ok_law_take T) (hr.mono (by decide)) pass0 (pa_cons (pv 1) (pa_cons (pv 4) pa_nil))) (fun _ _ => rfl)))
      (pss_cons (ps_set (i := 10) sc_law.nd rfl (Or.inr rfl) (pe_op op_add pe_int (pe_callO (ok_law_take T) (hr.mono (by decide)) pass0 (pa_cons (pv 1) (pa_cons pe_int pa_nil)))))
      (pss_one (ps_setLc (i := 11) (own := [("desc", 12)]) (g := gName 12) (tt := tYes) rfl sc_law.nd rfl rfl (sw_true rfl rfl rfl (by decide +kernel)) (pi_list (pv 11)) (blkOk_by (own := [("desc", 12)]) (N := N_law) (sc := defScope s_law) (by decide +kernel)) (fun _ _ _ _ _ => pg_name (i := 12) sc_law.nd rfl (Or.inl rfl)) (fun _ _ _ _ _ => pts_nil) (fun _ _ _ _ _ => (pe_lst (pa_cons (pe_ix (show IxR _ (rIxL K) from ix_list) (pv 12) pe_int (fun _ _ => rfl)) (pa_cons (pe_ifExp (pt_cmpR op_eq (pe_ix (show IxR _ (rIxL K) from ix_list) (pv 12) pe_int (fun _ _ => rfl)) (pv 8) (nomark _)) (pv 10) (pe_ix (show IxR _ (rIxL K) from ix_list) (pv 12) pe_int (fun _ _ => rfl))) (pa_cons (pe_ix (show IxR _ (rIxL K) from ix_list) (pv 12) pe_int (fun _ _ => rfl)) pa_nil))))))))))
      (pss_cons (ps_if (PW.pt (pw_or (pt_not (pt_val (pe_callO (ok_law_asked T) (hr.mono (by decide)) pass0 (pa_cons (pv 5) (pa_cons (pv 11) (pa_cons (pv 2) pa_nil)))))) (pw_or (pt_not (pt_val (pe_callO (ok_law_asked T) (hr.mono (by decide)) pass0 (pa_cons (pe_lst pa_nil) (pa_cons (pv 11) (pa_cons (pv 2) pa_nil)))))) (pw_or1 (pt_not (pt_val (pe_callO (ok_law_asked T) (hr.mono (by decide)) pass0 (pa_cons (pv 5) (pa_cons (pv 7) (pa_cons (pv 2) pa_nil))))))))))
      (pss_one (ps_ret pe_bl))
      pss_nil)
      (pss_cons (ps_set (i := 13) sc_law.nd rfl (Or.inl rfl) (pe_tup (pa_cons (pe_ix ix_list (pv 3) pe_int (fun _ _ => rfl)) (pa_cons (pe_op op_sub (pv 2) pe_int) pa_nil))))
      (pss_cons (ps_if (PW.pt (pw_or (pt_not (pt_val (pe_callO (ok_law_asked T) (hr.mono (by decide)) pass0 (pa_cons (pe_op op_cat (pv 5) (pe_lst (pa_cons (pv 13) pa_nil))) (pa_cons (pv 11) (pa_cons (pv 2) pa_nil)))))) (pw_or1 (pt_not (pt_val (pe_callO (ok_law_asked T) (hr.mono (by decide)) pass0 (pa_cons (pe_op op_cat (pe_lst (pa_cons (pv 13) pa_nil)) (pv 5)) (pa_cons (pv 7) (pa_cons (pv 2) pa_nil)))))))))
      (pss_one (ps_ret pe_bl))
      pss_nil)
      (pss_cons (ps_set (i := 14) sc_law.nd rfl (Or.inl rfl) (pe_callO (ok_law_take T) (hr.mono (by decide)) pass0 (pa_cons (pv 1) (pa_cons (pe_callB call_len_seq (by rfl) (m_len T) (by decide +kernel) (pa_cons (pv 11) pa_nil)) pa_nil))))
      (pss_one (ps_ret (pe_and (pe_callO (ok_law_mended T) (hr.mono (by decide)) pass0 (pa_cons (pv 5) (pa_cons (pv 11) (pa_cons (pv 2) (pa_cons (pv 14) pa_nil))))) (pe_one (pe_callO (ok_law_mended T) (hr.mono (by decide)) pass0 (pa_cons (pe_listrev (m_list T) (m_reversed T) (pv 5)) (pa_cons (pv 7) (pa_cons (pv 2) (pa_cons (pv 14) pa_nil))))))))))))))))))))))))), ?_⟩
    refine ⟨_, rfl, sa, ns0, rfl, hS, hlen, fun a ce H0 na0 s0 st0 => ?_⟩
    refine ⟨_, rfl, a, 3, ce, rfl, by decide, st0, fun kk H1 k0 k1 _ kp1 st1 => ⟨_, _, rfl, rfl, ?_⟩⟩
    have k1 := k1 (by decide)
    dsimp only
    generalize hk : (2 + kk : Int) = k
    have kb2 : 2 ≤ k := by omega
    have kb4 : k ≤ 4 := by omega
    refine ⟨_, rfl, a, ce, 8, rfl, by decide, by decide, st1, fun pn ns H2 kp2 st2 npn nna nnc hn hl nd ok => ?_⟩
    have l8 : ns.length = 8 := hl
    refine ⟨_, rfl, a, 5, ce, rfl, by decide, st2, fun mn H3 m0 m1 _ kp3 st3 => ⟨_, _, rfl, rfl, ?_⟩⟩
    have m1 := m1 (by decide)
    dsimp only
    generalize hmany : (1 + mn : Int) = many
    have mb1 : 1 ≤ many := by omega
    have mb5 : many ≤ 5 := by omega
    have hn3 := kp3 _ _ hn nna
    -- calls
    refine ⟨(by show 0 ≤ sizeLine; decide), fun pc npc => ?_⟩
    obtain ⟨nca, nce⟩ := st3.ne npc
    have npc2 : pn ≠ pc := ne_of_none hn3 npc
    have L3 : Lw K (upd H3 pc (.lst [])) a ce pn pc ns [] [] := ⟨st3.new npc, by rw [upd_ne npc2]; exact hn3, nna, upd_same, nca, nce, .nil, (fun _ h => by cases h), Nat.zero_le _⟩
    generalize upd H3 pc (.lst []) = H4 at L3
    have name_at : ∀ {j : Int}, 0 ≤ j → (2 ≤ many → j < many) → (many < 2 → j = 0) → ∃ n, atI (ns.map V.str) j = some (.str n) ∧ n ∈ ns := fun {j} j0 j1 j2 => by
      have jl : j < 8 := by
        by_cases c : 2 ≤ many
        · have := j1 c
          omega
        · have := j2 (by omega)
          omega
      obtain ⟨v, g, m⟩ := at_of (xs := ns.map V.str) j0 (by rw [List.length_map, l8]; exact jl)
      obtain ⟨n, hn, rfl⟩ := List.mem_map.mp m
      exact ⟨n, g, hn⟩
    refine ⟨_, rfl, a, 13, ce, rfl, by decide, L3.st, fun x1 H5 a0 a1 _ kp5 st5 => ⟨_, rfl, a, 13, ce, rfl, by decide, st5, fun x2 H6 b0 b1 _ kp6 st6 => ⟨(by show 4 ≤ sizeLine; decide), fun p1 np1 => ⟨_, rfl, a, 4, ce, rfl, by decide, st6.new np1, fun j H7 j0 j1 _ kp7 st7 => ?_⟩⟩⟩⟩
    have a1 := a1 (by decide)
    have b1 := b1 (by decide)
    obtain ⟨v, g, m⟩ := at_of (xs := [.int x1, .int x2, .int 3, .int 60]) j0 (j1 (by decide))
    obtain ⟨cnt, rfl, c0, c60⟩ : ∃ L : Int, v = .int L ∧ 0 ≤ L ∧ L ≤ 60 := by
      simp only [List.mem_cons, List.not_mem_nil, or_false] at m
      rcases m with m | m | m | m
      · exact ⟨_, m, a0, by omega⟩
      · exact ⟨_, m, b0, by omega⟩
      · exact ⟨_, m, by decide, by decide⟩
      · exact ⟨_, m, by decide, by decide⟩
    have L6 := (L3.kp kp5 st5).kp kp6 st6
    have L7 := (L6.same (same_new (o := .lst [.int x1, .int x2, .int 3, .int 60]) (Same.refl _) np1)).kp kp7 st7
    refine ⟨_, _, _, _, rfl, rfl, SqL.of (kp7 _ _ upd_same (st6.ne np1).1), g, cnt, rfl, by omega, by omega, for_range (lo := 0) (n := cnt.toNat) (fun i σ H' => ∃ (v6 : Option V) (xs : List V) (names : List Str), σ = [some (.ref sa), some (.ref a), some (.int k), some (.ref pn), some (.int many), some (.ref pc), v6, none, none, none, none, none, none, none, none] ∧ Lw K H' a ce pn pc ns xs names ∧ names.length = i)
      ⟨_, [], [], rfl, L7, rfl⟩ ?_ ?_⟩
    · rintro i σ H' hi ⟨v6, xs, names, rfl, L, hl⟩
      refine ⟨_, rfl, .inl ⟨rfl, _, SqL.of L.hc⟩, _, rfl, _, rfl, _, rfl, a, many, ce, rfl, by omega, L.st, fun j H4 j0 j1 j2 kp4 st4 => ?_⟩
      have L4 := L.kp kp4 st4
      obtain ⟨n, g, hnn⟩ := name_at j0 j1 j2
      refine ⟨_, _, _, _, rfl, rfl, SqL.of L4.hn, g, _, rfl, _, rfl, a, k, ce, rfl, by omega, L4.st, fun t H5 t0 t1 t2 kp5 st5 => ⟨(by show 2 ≤ sizeLine; decide), fun pt npt => ?_⟩⟩
      have L5 := L4.kp kp5 st5
      have ptc : pc ≠ pt := ne_of_none L5.hc npt
      have xl := Paired.length L5.ca
      have hc6 : (upd H5 pt (.tup [.str n, .int t])) pc = some (.lst xs) := by rw [upd_ne ptc]; exact L5.hc
      refine ⟨pc, xs, _, rfl, rfl, hc6, by have := sizeLine_eq; omega, _, xs ++ [.ref pt], names ++ [n], rfl, ⟨(L5.st.new npt).put_ne L5.nca L5.nce, ?_, L5.nna, upd_same, L5.nca, L5.nce, ?_, fun y hy => ?_, by rw [List.length_append]; show names.length + 1 ≤ 60; omega⟩, by rw [List.length_append, hl]; rfl⟩
      · rw [upd_ne npc2, upd_ne (ne_of_none L5.hn npt)]
        exact L5.hn
      · refine paired_snoc (paired_map (fun _ _ h => isCall_put hc6 (isCall_same (same_new (Same.refl _) npt) h)) L5.ca) ⟨pt, .int t, rfl, .inl (.inl ?_)⟩
        rw [upd_ne ptc.symm, upd_same]
      · rcases List.mem_append.mp hy with hy | hy
        · exact L5.sub y hy
        · rw [List.mem_singleton.mp hy]
          exact hnn
    rintro σ H8 ⟨v6, xs, names, rfl, L8, _⟩
    -- descs
    refine ⟨(by show 0 ≤ sizeLine; decide), fun pd npd => ?_⟩
    obtain ⟨nda, ndc⟩ := L8.st.ne npd
    have L9 := L8.same (same_new (o := .lst []) (Same.refl _) npd)
    have D9 : Dl (upd H8 pd (.lst [])) a pd (ns.take 0) [] [] := ⟨upd_same, nda, .nil, (fun _ h => by cases h), .nil⟩
    have npd1 : pn ≠ pd := ne_of_none L8.hn npd
    have npd2 : pc ≠ pd := ne_of_none L8.hc npd
    generalize upd H8 pd (.lst []) = H9 at L9 D9
    refine ⟨_, rfl, pn, rfl, ⟨_, SqL.of L9.hn⟩, for_list (K := K) (a := pn) (xs := ns.map V.str) (fun i σ H' => ∃ (v8 v9 v10 : Option V) (us : List V) (ds : List Desc), σ = [some (.ref sa), some (.ref a), some (.int k), some (.ref pn), some (.int many), some (.ref pc), v6, some (.ref pd), v8, v9, v10, none, none, none, none] ∧ Lw K H' a ce pn pc ns xs names ∧ Dl H' a pd (ns.take i) us ds)
      ⟨_, _, _, [], [], rfl, L9, D9⟩ (fun i σ H' _ ⟨_, _, _, _, _, _, L, _⟩ => SqL.of L.hn) ?_ ?_⟩
    · rintro i x σ H' hx ⟨v8, v9, v10, us, ds, rfl, L, Dd⟩
      rw [List.getElem?_map] at hx
      obtain ⟨n, hnn, rfl⟩ := Option.map_eq_some_iff.mp hx
      have i8 : i < 8 := by
        have := (List.getElem?_eq_some_iff.mp hnn).1
        omega
      refine ⟨_, rfl, a, 100, ce, rfl, by decide, L.st, fun x1 H4 a0 a1 _ kp4 st4 => ⟨_, rfl, _, _, rfl, rfl, pow_ok (by decide +kernel), a, _, ce, rfl, by decide +kernel, st4, fun x2 H5 b0 b1 _ kp5 st5 => ⟨_, _, rfl, rfl, pow_ok (by decide +kernel), _, _, rfl, rfl, pow_ok (by decide +kernel), _, _, rfl, rfl, (by show 6 ≤ sizeLine; decide), fun p1 np1 => ⟨_, rfl, a, 6, ce, rfl, by decide, st5.new np1, fun j H6 j0 j1 _ kp6 st6 => ?_⟩⟩⟩⟩
      obtain ⟨v, g, m⟩ := at_of (xs := [.int 0, .int 1, .int x1, .int x2, .int (10 ^ Int.toNat 40), .int (10 ^ Int.toNat 60 - 2)]) j0 (j1 (by decide))
      obtain ⟨price, rfl, pr0⟩ : ∃ L : Int, v = .int L ∧ 0 ≤ L := by
        simp only [List.mem_cons, List.not_mem_nil, or_false] at m
        rcases m with m | m | m | m | m | m
        · exact ⟨_, m, by decide⟩
        · exact ⟨_, m, by decide⟩
        · exact ⟨_, m, a0⟩
        · exact ⟨_, m, b0⟩
        · exact ⟨_, m, by decide +kernel⟩
        · exact ⟨_, m, by decide +kernel⟩
      have L5 := (L.kp kp4 st4).kp kp5 st5
      have D5 := (Dd.kp kp4 L.st).kp kp5 st4
      have sm5 := same_new (o := .lst [.int 0, .int 1, .int x1, .int x2, .int (10 ^ Int.toNat 40), .int (10 ^ Int.toNat 60 - 2)]) (Same.refl _) np1
      have L6 := (L5.same sm5).kp kp6 st6
      have D6 := (D5.same sm5).kp kp6 (st5.new np1)
      refine ⟨_, _, _, _, rfl, rfl, SqL.of (kp6 _ _ upd_same (st5.ne np1).1), g, ?_⟩
      refine ⟨_, rfl, a, 6, ce, rfl, by decide, L6.st, fun kd H7 d0 d1 _ kp7 st7 => ?_⟩
      have d1 := d1 (by decide)
      have L7 := L6.kp kp7 st7
      have D7 := D6.kp kp7 L6.st
      refine ⟨fun σ' H8 => ∃ kd : Int, σ' = [some (.ref sa), some (.ref a), some (.int k), some (.ref pn), some (.int many), some (.ref pc), v6, some (.ref pd), some (.str n), some (.int price), some (.int kd), none, none, none, none] ∧ 0 ≤ kd ∧ kd ≤ 20 ∧ Lw K H8 a ce pn pc ns xs names ∧ Dl H8 a pd (ns.take i) us ds, ?_, ?_⟩
      · refine ⟨_, rfl, _, rfl, _, rfl, _, rfl, pn, _, rfl, SqL.of L7.hn, fun l nl => ⟨l, _, rfl, .inl (SqL.of upd_same), rfl, ?_, _, rfl, ite2 (fun c => ?_) (fun c => ?_)⟩⟩
        · refine List.all_eq_true.mpr fun x hx => ?_
          obtain ⟨jj, hjj⟩ := List.mem_iff_getElem?.mp hx
          have := cut_mem hjj
          exact List.all_eq_true.mp (flat_strs ns) x this
        · have L8 := L7.same (same_new (o := .lst (cutV (ns.map V.str) none (some many))) (Same.refl _) nl)
          have D8 := D7.same (same_new (o := .lst (cutV (ns.map V.str) none (some many))) (Same.refl _) nl)
          refine ⟨_, rfl, a, 21, ce, rfl, by decide, L8.st, fun kd H9 e0 e1 _ kp9 st9 => ?_⟩
          have e1 := e1 (by decide)
          exact ⟨kd, rfl, e0, by omega, L8.kp kp9 st9, D8.kp kp9 L8.st⟩
        · exact ⟨kd, rfl, d0, by omega, L7.same (same_new (Same.refl _) nl), D7.same (same_new (Same.refl _) nl)⟩
      · rintro σ' H8 ⟨kd, rfl, q0, q20, L8, D8⟩
        refine ⟨_, rfl, .inl ⟨rfl, _, SqL.of D8.hd⟩, _, rfl, _, rfl, _, rfl, (by show 3 ≤ sizeLine; decide), fun pt npt => ?_⟩
        have ptd : pd ≠ pt := ne_of_none D8.hd npt
        have ul := Paired.length D8.de
        have dl : ds.length = min i ns.length := by
          have := D8.nm.length_eq
          rw [List.length_map, List.length_take] at this
          exact this
        have L8' := L8.same (same_new (o := .lst [.str n, .int kd, .int price]) (Same.refl _) npt)
        have D8' := D8.same (same_new (o := .lst [.str n, .int kd, .int price]) (Same.refl _) npt)
        have refs := desc_refs D8'.de
        refine ⟨pd, us, _, rfl, rfl, D8'.hd, by have := sizeLine_eq; omega, _, _, _, us ++ [.ref pt], ds ++ [(n, kd, price)], rfl, ⟨L8'.st.put_ne nda ndc, ?_, L8'.nna, ?_, L8'.nca, L8'.nce, ?_, L8'.sub, L8'.few⟩, ⟨upd_same, nda, ?_, fun d hd => ?_, ?_⟩⟩
        · rw [upd_ne npd1]
          exact L8'.hn
        · rw [upd_ne npd2]
          exact L8'.hc
        · exact paired_map (fun _ _ h => isCall_put D8'.hd h) L8'.ca
        · refine paired_snoc (paired_map (fun _ _ h => isDesc_put D8'.hd refs h) D8'.de) ⟨pt, rfl, ?_⟩
          rw [upd_ne ptd.symm, upd_same]
        · rcases List.mem_append.mp hd with hd | hd
          · exact D8.good d hd
          · rw [List.mem_singleton.mp hd]
            exact ⟨q0, q20, pr0⟩
        · rw [List.map_append, List.take_add_one, hnn]
          exact List.Perm.append_right _ D8.nm
    rintro σ H10 ⟨v8, v9, v10, us, ds, rfl, L10, D10⟩
    have D10 : Dl H10 a pd ns us ds := by
      have := D10
      rw [List.length_map, List.take_of_length_le (Nat.le_refl _)] at this
      exact this
    have dlen : ∀ {us : List V} {ds : List Desc} {H : Hp} {pd : Addr}, Dl H a pd ns us ds → us.length = 8 ∧ ds.length = 8 := fun {us ds H pd} D => by
      have h1 := Paired.length D.de
      have h2 := D.nm.length_eq
      rw [List.length_map] at h2
      omega
    -- shuffled
    refine ⟨_, rfl, _, rfl, a, ce, pd, us, rfl, L10.st, D10.hd, D10.nda, by have := (dlen D10).1; omega, fun p2 ys H11 kp11 st11 np2 n2a n2c h2 pm => ?_⟩
    have L11 := L10.kp kp11 st11
    obtain ⟨ds2, pd2, de2⟩ := paired_perm pm (paired_map (fun _ _ h => isDesc_kp kp11 L10.st h) D10.de)
    have D11 : Dl H11 a p2 ns ys ds2 := ⟨h2, n2a, de2, fun d hd => D10.good d (pd2.mem_iff.mp hd), (pd2.map _).trans D10.nm⟩
    have few : names.length < 64 := by have := L11.few; omega
    have fit := fun {H : Hp} {pb : Addr} {ws : List V} {db : List Desc} (L : Lw K H a ce pn pc ns xs names) (D : Dl H a pb ns ws db) => fit_of (K := K) nd ok l8 kb2 kb4 (SqL.of L.hc) L.ca L.sub few D
    -- asked
    refine ⟨_, rfl, _, rfl, _, rfl, pc, p2, xs, ys, names, ds2, k, rfl, fit L11 D11, fun H12 s12 => ⟨true, rfl, iteF ?_⟩⟩
    have L12 := L11.same s12
    have D12 := D11.same s12
    -- bad = [list(desc) for desc in descs]
    refine ⟨_, rfl, p2, rfl, ⟨_, SqL.of D12.hd⟩, fun pb npb => lc_list (K := K) (a := p2) (xs := ys) (fun i H' => ∃ ws : List V, H' pb = some (.lst ws) ∧ Paired (IsDesc H') ws (ds2.take i) ∧ ws.length = i ∧ Same H12 H')
      ⟨[], upd_same, .nil, rfl, same_new (Same.refl H12) npb⟩ (fun i H' _ ⟨_, _, _, _, sm⟩ => SqL.of (sm _ _ D12.hd)) ?_ ?_⟩
    · rintro i x H' hx ⟨ws, hD, hp, hl, sm⟩
      obtain ⟨d, hd, qd, rfl, hq⟩ := paired_get D12.de i x hx
      have lt : i < ds2.length := (List.getElem?_eq_some_iff.mp hd).1
      have d8 := (dlen D12).2
      refine ⟨rfl, ?_⟩
      unfold tYes
      refine iteT ⟨_, rfl, qd, _, rfl, .inl (SqL.of (sm _ _ hq)), fun l nl => ⟨ws, by rw [upd_ne (ne_of_none hD nl)]; exact hD, by have := sizeLine_eq; omega, ws ++ [.ref l], upd_same, ?_, by rw [List.length_append, hl]; rfl, same_put (same_new sm nl) npb⟩⟩
      have hD' : (upd H' l (.lst [.str d.1, .int d.2.1, .int d.2.2])) pb = some (.lst ws) := by rw [upd_ne (ne_of_none hD nl)]; exact hD
      rw [List.take_add_one, hd]
      refine paired_snoc (paired_map (fun _ _ h => isDesc_put hD' (desc_refs hp) (isDesc_same (same_new (Same.refl _) nl) h)) hp) ⟨l, rfl, ?_⟩
      rw [upd_ne (ne_of_none hD nl).symm, upd_same]
    rintro H13 ⟨ws, hD13, hp13, hl13, sm13⟩
    have L13 := L12.same sm13
    have DA13 := D12.same sm13
    have DB13 : Dl H13 a pb ns ws ds2 := ⟨hD13, (L12.st.ne npb).1, by rw [List.take_of_length_le (by have := dlen D12; omega)] at hp13; exact hp13, D12.good, D12.nm⟩
    -- for n in range(1 + ..)
    refine ⟨_, rfl, a, 3, ce, rfl, by decide, L13.st, fun t H14 t0 t1 _ kp14 st14 => ?_⟩
    have t1 := t1 (by decide)
    have L14 := L13.kp kp14 st14
    have DA14 := DA13.kp kp14 L13.st
    have DB14 := DB13.kp kp14 L13.st
    refine ⟨_, _, rfl, rfl, (1 + t : Int), rfl, by omega, by omega, for_range (lo := 0) (n := (1 + t).toNat) (fun i σ H' => ∃ (v6 v8 v10 v12 : Option V) (pb : Addr) (ws : List V) (db : List Desc), σ = [some (.ref sa), some (.ref a), some (.int k), some (.ref pn), some (.int many), some (.ref pc), v6, some (.ref p2), v8, v9, v10, some (.ref pb), v12, none, none] ∧ Lw K H' a ce pn pc ns xs names ∧ Dl H' a p2 ns ys ds2 ∧ Dl H' a pb ns ws db)
      ⟨_, _, _, _, pb, ws, ds2, rfl, L14, DA14, DB14⟩ ?_ ?_⟩
    · rintro i σ H' hi ⟨v6, v8, v10, v12, pb, ws, db, rfl, L, DA, DB⟩
      refine ⟨_, rfl, _, rfl, _, rfl, a, many, ce, rfl, by omega, L.st, fun j H4 j0 j1 j2 kp4 st4 => ?_⟩
      have L4 := L.kp kp4 st4
      have DA4 := DA.kp kp4 L.st
      have DB4 := DB.kp kp4 L.st
      obtain ⟨n, g, hnn⟩ := name_at j0 j1 j2
      refine ⟨_, _, _, _, rfl, rfl, SqL.of L4.hn, g, _, rfl, a, 15, ce, rfl, by decide, L4.st, fun t H5 t0 t1 _ kp5 st5 => ⟨_, _, rfl, rfl, ?_⟩⟩
      have t1 := t1 (by decide)
      have L5 := L4.kp kp5 st5
      have DA5 := DA4.kp kp5 L4.st
      have DB5 := DB4.kp kp5 L4.st
      refine ⟨_, rfl, pb, rfl, ⟨_, SqL.of DB5.hd⟩, fun pe npe => lc_list (K := K) (a := pb) (xs := ws) (fun i H' => ∃ es : List V, H' pe = some (.lst es) ∧ Paired (IsDesc H') es ((db.take i).map fun d => (d.1, if d.1 = n then 6 + t else d.2.1, d.2.2)) ∧ es.length = i ∧ Same H5 H')
        ⟨[], upd_same, .nil, rfl, same_new (Same.refl H5) npe⟩ (fun i H' _ ⟨_, _, _, _, sm⟩ => SqL.of (sm _ _ DB5.hd)) ?_ ?_⟩
      · rintro i x H' hx ⟨es, hD, hp, hl, sm⟩
        obtain ⟨d, hd, qd, rfl, hq⟩ := paired_get DB5.de i x hx
        have hq := sm _ _ hq
        have lt : i < db.length := (List.getElem?_eq_some_iff.mp hd).1
        have d8 := (dlen DB5).2
        have fin : ∀ (kx : Int), kx = (if d.1 = n then 6 + t else d.2.1) → ∀ l, H' l = none → ∃ acc, (upd H' l (.lst [.str d.1, .int kx, .int d.2.2])) pe = some (.lst acc) ∧ acc.length < sizeLine ∧ ∃ es : List V, (upd (upd H' l (.lst [.str d.1, .int kx, .int d.2.2])) pe (.lst (acc ++ [V.ref l]))) pe = some (.lst es) ∧ Paired (IsDesc (upd (upd H' l (.lst [.str d.1, .int kx, .int d.2.2])) pe (.lst (acc ++ [V.ref l])))) es ((db.take (i + 1)).map fun d => (d.1, if d.1 = n then 6 + t else d.2.1, d.2.2)) ∧ es.length = i + 1 ∧ Same H5 (upd (upd H' l (.lst [.str d.1, .int kx, .int d.2.2])) pe (.lst (acc ++ [V.ref l]))) := fun kx ek l nl => by
          have hD' : (upd H' l (.lst [.str d.1, .int kx, .int d.2.2])) pe = some (.lst es) := by rw [upd_ne (ne_of_none hD nl)]; exact hD
          refine ⟨es, hD', by have := sizeLine_eq; omega, es ++ [.ref l], upd_same, ?_, by rw [List.length_append, hl]; rfl, same_put (same_new sm nl) npe⟩
          rw [List.take_add_one, hd, List.map_append]
          refine paired_snoc (paired_map (fun _ _ h => isDesc_put hD' (desc_refs hp) (isDesc_same (same_new (Same.refl _) nl) h)) hp) ⟨l, rfl, ?_⟩
          rw [upd_ne (ne_of_none hD nl).symm, upd_same, ek]
        refine ⟨rfl, ?_⟩
        unfold tYes
        refine iteT ⟨_, rfl, _, _, _, _, rfl, rfl, SqL.of hq, rfl, _, rfl, _, _, _, _, rfl, rfl, SqL.of hq, rfl, _, rfl, rfl, _, rfl, ite2 (fun c => ?_) (fun c => ?_)⟩
        · exact ⟨_, rfl, _, rfl, _, _, _, _, rfl, rfl, SqL.of hq, rfl, (by show 3 ≤ sizeLine; decide), fin _ (if_pos (V.str.inj (of_decide_eq_true c))).symm⟩
        · exact ⟨_, rfl, _, _, _, _, rfl, rfl, SqL.of hq, rfl, _, rfl, _, _, _, _, rfl, rfl, SqL.of hq, rfl, (by show 3 ≤ sizeLine; decide), fin _ (if_neg fun z => c (decide_eq_true (by rw [z]))).symm⟩
      · rintro H6 ⟨es, hD, hp, hl, sm⟩
        rw [List.take_of_length_le (by have := dlen DB5; omega)] at hp
        refine ⟨_, _, _, _, pe, es, _, rfl, L5.same sm, DA5.same sm, hD, (L5.st.ne npe).1, hp, fun d hd => ?_, ?_⟩
        · obtain ⟨e, he, rfl⟩ := List.mem_map.mp hd
          have ge := DB5.good e he
          refine ⟨?_, ?_, ge.2.2⟩
          · show 0 ≤ (if e.1 = n then 6 + t else e.2.1)
            split
            · omega
            · exact ge.1
          · show (if e.1 = n then 6 + t else e.2.1) ≤ 20
            split
            · omega
            · exact ge.2.1
        · rw [List.map_map]
          exact DB5.nm
    rintro σ H15 ⟨v6', v8', v10', v12, pb, ws, db, rfl, L, DA, DB⟩
    -- asked thrice
    refine ⟨_, rfl, _, rfl, _, rfl, pc, pb, xs, ws, names, db, k, rfl, fit L DB, fun H16 s16 => ⟨true, rfl, iteF ?_⟩⟩
    have L := L.same s16
    have DA := DA.same s16
    have DB := DB.same s16
    refine ⟨(by show 0 ≤ sizeLine; decide), fun pz npz => ⟨_, rfl, _, rfl, pz, pb, [], ws, [], db, k, rfl, fit_of (K := K) nd ok l8 kb2 kb4 (SqL.of upd_same) .nil (fun _ h => by cases h) (by decide) (DB.same (same_new (Same.refl _) npz)), fun H17 s17 => ⟨true, rfl, iteF ?_⟩⟩⟩
    have s17' : Same H16 H17 := (same_new (Same.refl _) npz).trans s17
    have L := L.same s17'
    have DA := DA.same s17'
    have DB := DB.same s17'
    refine ⟨_, rfl, _, rfl, _, rfl, pc, p2, xs, ys, names, ds2, k, rfl, fit L DA, fun H18 s18 => ⟨true, rfl, iteF ?_⟩⟩
    have L := L.same s18
    have DA := DA.same s18
    have DB := DB.same s18
    -- one = (called[0], k - 1)
    obtain ⟨n0, r0, rfl⟩ : ∃ n0 r0, ns = n0 :: r0 := by
      cases ns with
      | nil => cases l8
      | cons x r => exact ⟨x, r, rfl⟩
    refine ⟨_, rfl, _, _, _, _, rfl, rfl, SqL.of L.hn, atI_nat (j := 0) rfl, _, rfl, _, _, rfl, rfl, (by show 2 ≤ sizeLine; decide), fun po npo => ?_⟩
    have so := same_new (o := .tup [.str n0, .int (k - 1)]) (Same.refl _) npo
    have L := L.same so
    have DA := DA.same so
    have DB := DB.same so
    have hpo : (upd H18 po (.tup [.str n0, .int (k - 1)])) po = some (.tup [.str n0, .int (k - 1)]) := upd_same
    have xl := Paired.length L.ca
    have n0in : n0 ∈ n0 :: r0 := List.mem_cons_self
    have H19 : Hp := upd H18 po (.tup [.str n0, .int (k - 1)])
    -- asked of calls + [one]
    refine ⟨_, rfl, _, rfl, (by show 1 ≤ sizeLine; decide), fun pl npl => ⟨pc, pl, xs, [.ref po], rfl, rfl, (same_new (Same.refl _) npl) _ _ L.hc, upd_same, by have := L.few; have := sizeLine_eq; show xs.length + 1 ≤ sizeLine; omega, fun pf npf => ?_⟩⟩
    have sf := (same_new (o := .lst [.ref po]) (Same.refl _) npl).trans (same_new (o := .lst (xs ++ [.ref po])) (Same.refl _) npf)
    have Lf := L.same sf
    have DAf := DA.same sf
    have DBf := DB.same sf
    refine ⟨_, rfl, _, rfl, pf, pb, xs ++ [.ref po], ws, names ++ [n0], db, k, rfl, fit_of (K := K) nd ok l8 kb2 kb4 (SqL.of upd_same) (paired_snoc Lf.ca ⟨po, _, rfl, .inl (.inl (sf _ _ hpo))⟩) (fun y hy => ?_) (by rw [List.length_append]; have := L.few; show names.length + 1 < 64; omega) DBf, fun H20 s20 => ⟨true, rfl, iteF ?_⟩⟩
    · rcases List.mem_append.mp hy with hy | hy
      · exact L.sub y hy
      · rw [List.mem_singleton.mp hy]
        exact n0in
    have hpo20 := s20 _ _ (sf _ _ hpo)
    have L := Lf.same s20
    have DA := DAf.same s20
    have DB := DBf.same s20
    -- asked of [one] + calls
    refine ⟨_, rfl, (by show 1 ≤ sizeLine; decide), fun pl npl => ⟨_, rfl, pl, pc, [.ref po], xs, rfl, rfl, upd_same, (same_new (Same.refl _) npl) _ _ L.hc, by have := L.few; have := sizeLine_eq; show 1 + xs.length ≤ sizeLine; omega, fun pf npf => ?_⟩⟩
    have sf := (same_new (o := .lst [.ref po]) (Same.refl _) npl).trans (same_new (o := .lst ([.ref po] ++ xs)) (Same.refl _) npf)
    have Lf := L.same sf
    have DAf := DA.same sf
    have DBf := DB.same sf
    refine ⟨_, rfl, _, rfl, pf, p2, [.ref po] ++ xs, ys, [n0] ++ names, ds2, k, rfl, fit_of (K := K) nd ok l8 kb2 kb4 (SqL.of upd_same) (.cons ⟨po, _, rfl, .inl (.inl (sf _ _ hpo20))⟩ Lf.ca) (fun y hy => ?_) (by show names.length + 1 < 64; have := L.few; omega) DAf, fun H21 s21 => ⟨true, rfl, iteF ?_⟩⟩
    · rcases List.mem_cons.mp hy with hy | hy
      · rw [hy]
        exact n0in
      · exact L.sub y hy
    have L := Lf.same s21
    have DA := DAf.same s21
    have DB := DBf.same s21
    -- at, the end
    have w8 := (dlen DB).1
    refine ⟨_, rfl, _, rfl, pb, ws, rfl, .inl (SqL.of DB.hd), a, _, ce, rfl, by omega, L.st, fun at_ H22 t0 t1 _ kp22 st22 => ?_⟩
    have t1 := t1 (by omega)
    have L22 := L.kp kp22 st22
    have DA22 := DA.kp kp22 L.st
    have DB22 := DB.kp kp22 L.st
    refine ⟨_, rfl, _, rfl, _, rfl, _, rfl, pc, pb, xs, ws, names, db, k, at_, rfl, fit L22 DB22, t0, by have := (dlen DB22).2; omega, fun H23 s23 => ⟨true, rfl, iteT ?_⟩⟩
    have L := L22.same s23
    have DA := DA22.same s23
    refine ⟨_, rfl, pc, xs, rfl, SqL.of L.hc, fun pr npr => ⟨_, rfl, _, rfl, _, rfl, pr, p2, xs.reverse, ys, names.reverse, ds2, k, at_, rfl, fit_of (K := K) nd ok l8 kb2 kb4 (SqL.of upd_same) (paired_rev (paired_map (fun _ _ h => isCall_same (same_new (Same.refl _) npr) h) L.ca)) (fun y hy => L.sub y (List.mem_reverse.mp hy)) (by rw [List.length_reverse]; exact few) (DA.same (same_new (Same.refl _) npr)), t0, by have := (dlen DA).2; omega, fun H24 _ => q H24⟩⟩
end
/-! ### the end -/
theorem facts {P : Program} {w : World} {K : PySem.W.Frag} {h : Heap} {mg : Str → Option Value} {f : Addr} (X : K.In h) (G : h.Ns mainGlobals mg) (hfa : mg ("law" : Str) = some (.ref f)) (c : He.SaysD fa fn K) (e : ex K = true) :
    ∃ fd : FuncData, (∀ (s : Shared) (v : Value), BindsTo s fd ⟨[v], []⟩ [("script", v)]) ∧ ∀ base : Heap, K.In base → base.Ns mainGlobals mg → FnOk P w K mg base CX0 7 f fd ["script"] (spLaw K) := by
  have T : Tx K mg := tx_of X G c e
  obtain ⟨fd, D⟩ := dd_law T
  have e2 := hfa.symm.trans D.g
  cases e2
  have b := FunD.bindsA (ps := ["script"]) D.fn fun _ _ _ _ _ _ us hl => match us, hl with | [_], _ => rfl
  exact ⟨fd, fun s v => b s [v] rfl, fun base _ _ => fn_law T D⟩
end K42
open PySem PySem.W PySem.Calls PyProof.Rows
theorem PySem.Challenge.cw_exitspeeled_k42_price_of_calls_alone_holds : PySem.Challenge.rw_exitspeeled_k42_price_of_calls_alone.Holds := by
  w_on; o_law
  refine HandSHeadRun.head_any (r := OpenLaw.row PySem.Challenge.rw_exitspeeled_k42_price_of_calls_alone) (q := view (OpenLaw.row PySem.Challenge.rw_exitspeeled_k42_price_of_calls_alone).prog [50]) (H := K42.hk) (ob := K42.ob) (M := 20000) (loose := K42.loose) (d := HandSHeadRun.topDef (OpenLaw.row PySem.Challenge.rw_exitspeeled_k42_price_of_calls_alone).prog 50) (kwd := []) K42.ob_eq
    (by kernel_rfl) (fun s => by kernel_rfl) K42.run (by kernel_rfl) (by kernel_rfl) (by kernel_rfl) (by rfl) (by first | assumption | decide +kernel) (by decide +kernel) ⟨rfl, rfl, rfl, rfl, rfl, by decide +kernel⟩ ?hw ?hc
  case hw => w_witness2
  case hc =>
    refine L2.walk_ofE (l := PySem.Challenge.rw_exitspeeled_k42_price_of_calls_alone) (n := 63) (k := 7) (x := "script") (CX := L2.CX0) rfl (by decide) (by kernel_rfl) ⟨rfl, by decide, by decide⟩ ?F (fun _ _ _ _ z => z)
    intro w mg fa h Y G hmg0
    obtain ⟨K, KX, c, e⟩ := Y
    have hmg : mg ("law" : PySem.Str) = some (.ref fa) := by
      have e : (HandSHeadRun.topDef (OpenLaw.row PySem.Challenge.rw_exitspeeled_k42_price_of_calls_alone).prog 50).name = ("law" : PySem.Str) := by kernel_rfl
      rw [← e]
      exact hmg0
    obtain ⟨fd, hb, hF⟩ := K42.facts (P := (PySem.Challenge.rw_exitspeeled_k42_price_of_calls_alone).prog) (w := w) KX G hmg c e
    exact ⟨K, fd, K42.spLaw K, KX, hb, fun H a ns hl _ hS => ⟨a, ns, rfl, hS, hl, fun _ => rfl⟩, hF⟩
