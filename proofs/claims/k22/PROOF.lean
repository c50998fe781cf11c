import PyProof.Rows.All
import KE.KStateDown
import HandS.Head0
import HandS.Head1
import HandS.Head2
import HandS.Head3
import HandS.HeadHook1
import HandS.HeadHook2
import HandS.Words
import PySem.Challenge.RW_leverheaps_k22_rows_that_are_none
import Wide.All
import OpenK.AllK
import Wide.FinOn
import HandS.ForMost
import HandS.Exc
import HandS.WordsExc
import HandS.Lambda
import HandS.IsInst
import HandS.Flow
import HandS.Gcd
import HandS.StrMore
import HandS.Codes
import HandS.Defaults
import KE.KOpsOwn
import KE.KCallOwn
import KE.KFmtOwn
import HandS.FStr
import HandS.RaiseMore
import PyProof.ReprRoads
import KE.KExcSuper
import HandS.ExcInit
import HandS.ExcField
import KE.KLam
import HandS.EndTab
import KE.KNestM
import OpenK.KMeth
import HandS.SlotsOwn
import HandS.Deep
import KE.GoesEnum
import HandS.Style
import HandS.Zip
import PyProof.ListMulRoad
import PyProof.Rows.InDataRows
set_option Elab.async false
set_option linter.all false
set_option maxRecDepth 100000
set_option maxHeartbeats 2000000
namespace DL
open PySem PySem.Spec PyProof.Rows L2
/-- the body of a class statement -/
def clsB (z : Stmt) : List Stmt := match z with
  | .ClassDef _ _ _ bd _ _ _ _ _ _ _ => bd
  | _ => []
abbrev FB := PySem.W.Frag → Bool
abbrev At := Str × Option Str
def notTab (g : Addr → Option Obj) (a : Addr) : Bool := match g a with
  | some ⟨.none, _, .fields _, _⟩ => false
  | _ => true
def asY (g : Addr → Option Obj) : Nat → List Addr
  | 0 => [mainGlobals, cStatics]
  | n + 1 => He.growD g (asY g n)
def frY (g : Addr → Option Obj) (n : Nat) : PySem.W.Frag := He.frG g ((asY g n).filter (notTab g))
def codeOf (K : PySem.W.Frag) (p : At) : Addr := match K.lookup (He.fAd K p) with
  | some ⟨_, _, .func fd, _⟩ => (match fd.code with
    | .ref c => c
    | _ => 0)
  | _ => 0
/-- the table of a def's code object -/
def tabOf (K : PySem.W.Frag) (p : At) : Addr := match K.lookup (codeOf K p) with
  | some ⟨_, _, .fields vs, _⟩ => (match (vs[11]? : Option Value) with
    | some (.ref P) => P
    | _ => 0)
  | _ => 0
def tab0 : Obj := { cls := .none, data := .fields #[] }
structure FnS where
  at_ : At
  name : Str
  qual : Str
  st : Stmt
  clo : List Str := []
abbrev FnY : Type := Option (Str × Str × Arguments × FuncBody × Scope × Addr × List Str × Addr)
def fnY (K : PySem.W.Frag) (p : At) : FnY := match K.lookup (He.fAd K p) with
  | some ⟨_, _, .func fd, _⟩ => some (fd.name, fd.qualname, fd.params, fd.body, fd.scope, fd.globals, fd.closure.map (·.1), fd.builtins)
  | _ => none
def FnS.val (d : FnS) : FnY := some (d.name, d.qual, defArgs d.st, .stmts (defBody d.st), defScope d.st, mainGlobals, d.clo, builtinsNs)
theorem fnY_raw {K : PySem.W.Frag} {d : FnS} (e : fnY K d.at_ = d.val) : ∃ oc od osl cl dV kV doc pm an cdv ct, K.lookup (He.fAd K d.at_) = some ⟨oc, od, .func ⟨d.name, d.qual, defArgs d.st, .stmts (defBody d.st), defScope d.st, mainGlobals, cl, dV, kV, doc, pm, an, cdv, ct, builtinsNs⟩, osl⟩ ∧ cl.map (·.1) = d.clo := by
  unfold fnY at e
  cases q : K.lookup (He.fAd K d.at_) with
  | none => rw [q] at e; cases e
  | some o =>
    obtain ⟨oc, od, dt, osl⟩ := o
    rw [q] at e
    cases dt with
    | func fd =>
      obtain ⟨n1, n2, n3, n4, n5, n6, n7, n8, n9, n10, n11, n12, n13, n14, n15⟩ := fd
      have e2 : (some (n1, n2, n3, n4, n5, n6, n7.map (·.1), n15) : FnY) = some (d.name, d.qual, defArgs d.st, .stmts (defBody d.st), defScope d.st, mainGlobals, d.clo, builtinsNs) := e
      simp only [Option.some.injEq, Prod.mk.injEq] at e2
      obtain ⟨h1, h2, h3, h4, h5, h6, h7, h8⟩ := e2
      subst h1 h2 h3 h4 h5 h6 h8
      exact ⟨oc, od, osl, n7, n8, n9, n10, n11, n12, n13, n14, rfl, h7⟩
    | _ => cases e
section
variable {K : PySem.W.Frag} {d : FnS}
def fdOf (K : PySem.W.Frag) (p : At) (f : FuncData → Bool) : Bool := match K.lookup (He.fAd K p) with
  | some ⟨_, _, .func fd, _⟩ => f fd
  | _ => false
def cPlain (p : At) (q : Str) : FB := fun K => fdOf K p fun fd => match fd.defaults with
  | .none => PySem.W.codeIn K fd.code q
  | _ => false
theorem get_plain (e : fnY K d.at_ = d.val) (c : cPlain d.at_ d.qual K = true) (hc : d.clo = ([] : List Str) := by rfl) : ∃ oc od osl kV doc pm an cdv ct,
    K.lookup (He.fAd K d.at_) = some ⟨oc, od, .func (PySem.W.fnOf d.name d.qual (defArgs d.st) (defBody d.st) (defScope d.st) .none kV doc pm an cdv ct), osl⟩ ∧ PySem.W.codeIn K cdv d.qual = true := by
  obtain ⟨oc, od, osl, cl, dV, kV, doc, pm, an, cdv, ct, l, hcl⟩ := fnY_raw e
  rw [hc] at hcl
  have : cl = [] := List.map_eq_nil_iff.mp hcl
  subst this
  unfold cPlain fdOf at c
  rw [l] at c
  dsimp only at c
  cases dV with
  | none => exact ⟨oc, od, osl, kV, doc, pm, an, cdv, ct, l, c⟩
  | _ => cases c
/-- .. whose code object's table is known -/
def hdY (vs : Array Value) (c P : Addr) : Bool :=
  match (vs[11]? : Option Value), vs.getD 18 .none, vs.getD 7 .none, vs.getD 9 .none, vs.getD 10 .none with
  | some (.ref q), .str _ _, .int _ _, .bool _, .int _ _ => q == P && c != P
  | _, _, _, _, _ => false
theorem hdY_ok {c P : Addr} {od : Option Addr} {vs : Array Value} {os : Array (Option Value)} (kc : K.lookup c = some ⟨.type "code", od, .fields vs, os⟩) (kh : hdY vs c P = true) : PySem.W.codeHdIn K c P = true := by
  unfold PySem.W.codeHdIn
  rw [kc]
  unfold hdY at kh
  split at kh
  · rename_i h1 h2 h3 h4 h5
    simp only [Bool.and_eq_true] at kh
    simp only [h1, h2, h3, h4, h5, kh.1, kh.2, Bool.and_self]
  · cases kh
def cLam (p : At) (q : Str) : FB := fun K => fdOf K p fun fd => match fd.defaults, fd.code with
  | .none, .ref c => PySem.W.codeIn K (.ref c) q && (decide (codeOf K p = c) && (match K.lookup c with
    | some ⟨.type t, _, .fields vs, _⟩ => t == "code" && (hdY vs c (tabOf K p) && (match (vs[11]? : Option Value) with
      | some (.ref P) => decide (P = tabOf K p)
      | _ => false))
    | _ => false))
  | _, _ => false
theorem get_lam (e : fnY K d.at_ = d.val) (c : cLam d.at_ d.qual K = true) (hc : d.clo = ([] : List Str) := by rfl) : ∃ oc od osl kV doc pm an ct odc vs os,
    K.lookup (He.fAd K d.at_) = some ⟨oc, od, .func (PySem.W.fnOf d.name d.qual (defArgs d.st) (defBody d.st) (defScope d.st) .none kV doc pm an (.ref (codeOf K d.at_)) ct), osl⟩ ∧ PySem.W.codeIn K (.ref (codeOf K d.at_)) d.qual = true ∧
    K.lookup (codeOf K d.at_) = some ⟨.type "code", odc, .fields vs, os⟩ ∧ vs[11]? = some (.ref (tabOf K d.at_)) ∧ hdY vs (codeOf K d.at_) (tabOf K d.at_) = true := by
  obtain ⟨oc, od, osl, cl, dV, kV, doc, pm, an, cdv, ct, l, hcl⟩ := fnY_raw e
  rw [hc] at hcl
  have : cl = [] := List.map_eq_nil_iff.mp hcl
  subst this
  unfold cLam fdOf at c
  rw [l] at c
  dsimp only at c
  cases dV with
  | none =>
    cases cdv with
    | ref cd =>
      simp only [Bool.and_eq_true, decide_eq_true_eq] at c
      obtain ⟨c1, c2, c3⟩ := c
      rw [c2]
      cases q : K.lookup cd with
      | none => rw [q] at c3; cases c3
      | some o =>
        obtain ⟨o1, o2, o3, o4⟩ := o
        rw [q] at c3
        cases o1 with
        | type t =>
          cases o3 with
          | fields vs =>
            simp only [Bool.and_eq_true] at c3
            obtain ⟨k1, k2, k3⟩ := c3
            cases (beq_iff_eq.mp k1)
            refine ⟨oc, od, osl, kV, doc, pm, an, ct, o2, vs, o4, l, c1, rfl, ?_, k2⟩
            cases z : (vs[11]? : Option Value) with
            | none => rw [z] at k3; cases k3
            | some u =>
              rw [z] at k3
              cases u with
              | ref P => rw [of_decide_eq_true k3]
              | _ => cases k3
          | _ => cases c3
        | _ => cases c3
    | _ => cases c
  | _ => cases c
/-- .. with defaults -/
def cDfl (p : At) (q : Str) (dvs : List V) : FB := fun K => fdOf K p fun fd => match fd.defaults with
  | .ref t => PySem.W.codeIn K fd.code q && (match K.lookup t with
    | some ⟨_, _, .seq its _, _⟩ => He.relAll dvs its.toList
    | _ => false)
  | _ => false
theorem get_dfl {dvs : List V} (e : fnY K d.at_ = d.val) (c : cDfl d.at_ d.qual dvs K = true) (hc : d.clo = ([] : List Str) := by rfl) : ∃ oc od osl td kV doc pm an cdv ct cT odT its nT slT,
    K.lookup (He.fAd K d.at_) = some ⟨oc, od, .func (PySem.W.fnOf d.name d.qual (defArgs d.st) (defBody d.st) (defScope d.st) (.ref td) kV doc pm an cdv ct), osl⟩ ∧ PySem.W.codeIn K cdv d.qual = true ∧
    K.lookup td = some ⟨cT, odT, .seq its nT, slT⟩ ∧ Vals dvs its.toList := by
  obtain ⟨oc, od, osl, cl, dV, kV, doc, pm, an, cdv, ct, l, hcl⟩ := fnY_raw e
  rw [hc] at hcl
  have : cl = [] := List.map_eq_nil_iff.mp hcl
  subst this
  unfold cDfl fdOf at c
  rw [l] at c
  dsimp only at c
  cases dV with
  | ref t =>
    simp only [Bool.and_eq_true] at c
    obtain ⟨c1, c2⟩ := c
    cases q : K.lookup t with
    | none => rw [q] at c2; cases c2
    | some o =>
      obtain ⟨o1, o2, o3, o4⟩ := o
      rw [q] at c2
      cases o3 with
      | seq its n => exact ⟨oc, od, osl, t, kV, doc, pm, an, cdv, ct, o1, o2, its, n, o4, l, c1, q, He.relAll_ok c2⟩
      | _ => cases c2
  | _ => cases c
/-- an own exception's __init__ -/
def cExc (p : At) (q : Str) (file : Str) : FB := fun K => fdOf K p fun fd => match fd.defaults, fd.code, fd.closure with
  | .none, .ref c, [(_, cc)] => PySem.W.codeIn K (.ref c) q && ((match K.lookup cc with
      | some ⟨_, _, .cell (some (.ref C)), _⟩ => decide (C = He.ga K p.1)
      | _ => false) && (match K.lookup c with
      | some ⟨_, _, .fields vs, _⟩ => (match (vs[2]? : Option Value) with
        | some (.str fl _) => file == fl
        | _ => false)
      | _ => false))
  | _, _, _ => false
theorem get_exc {file : Str} (e : fnY K d.at_ = d.val) (c : cExc d.at_ d.qual file K = true) (hc : d.clo = (["__class__"] : List Str) := by rfl) : ∃ oc od osl kV doc pm an cda ct cc cl cld csl ccl cdd vs ccs fl tf,
    K.lookup (He.fAd K d.at_) = some ⟨oc, od, .func (PySem.W.ksFn d.name d.qual (defArgs d.st) (defBody d.st) (defScope d.st) .none kV doc pm an (.ref cda) ct cc), osl⟩ ∧ PySem.W.codeIn K (.ref cda) d.qual = true ∧
    K.lookup cc = some ⟨cl, cld, .cell (some (.ref (He.ga K d.at_.1))), csl⟩ ∧ K.lookup cda = some ⟨ccl, cdd, .fields vs, ccs⟩ ∧ vs[2]? = some (.str fl tf) ∧ (file == fl) = true := by
  obtain ⟨oc, od, osl, cl, dV, kV, doc, pm, an, cdv, ct, l, hcl⟩ := fnY_raw e
  rw [hc] at hcl
  unfold cExc fdOf at c
  rw [l] at c
  dsimp only at c
  cases dV with
  | none =>
    cases cdv with
    | ref cd =>
      cases cl with
      | nil => cases hcl
      | cons z r =>
        cases r with
        | cons _ _ => simp at hcl
        | nil =>
          obtain ⟨nm, cc⟩ := z
          obtain rfl : nm = "__class__" := by simpa using hcl
          simp only [Bool.and_eq_true] at c
          obtain ⟨c1, c2, c3⟩ := c
          cases q : K.lookup cc with
          | none => rw [q] at c2; cases c2
          | some o =>
            obtain ⟨o1, o2, o3, o4⟩ := o
            rw [q] at c2
            cases o3 with
            | cell v =>
              cases v with
              | none => cases c2
              | some u =>
                cases u with
                | ref C =>
                  cases (of_decide_eq_true c2)
                  cases q2 : K.lookup cd with
                  | none => rw [q2] at c3; cases c3
                  | some o' =>
                    obtain ⟨p1, p2, p3, p4⟩ := o'
                    rw [q2] at c3
                    cases p3 with
                    | fields vs =>
                      dsimp only at c3
                      cases q3 : (vs[2]? : Option Value) with
                      | none => rw [q3] at c3; cases c3
                      | some u =>
                        rw [q3] at c3
                        cases u with
                        | str fl tf => exact ⟨oc, od, osl, kV, doc, pm, an, cd, ct, cc, o1, o2, o4, p1, p2, vs, p4, fl, tf, l, c1, q, q2, q3, c3⟩
                        | _ => cases c3
                    | _ => cases c3
                | _ => cases c2
            | _ => cases c2
    | _ => cases c
  | _ => cases c
/-- an own exception's class, below LeverError alone -/
def cExcC (x y : Str) : FB := fun K => match K.lookup (He.ga K x) with
  | some ⟨.type t, _, .cls cd, sl⟩ => t == "type" && (decide (cd.mro = [.ref (He.ga K x), .ref (He.ga K y), .type "ValueError", .type "Exception", .type "BaseException", .type "object"]) && (cd.hasDict && (!cd.hasDel && (match sl.toList with
    | [_, _, _, _, some (.builtin n), _] => n == "ValueError.__new__"
    | _ => false))))
  | _ => false
theorem get_excC {x y : Str} (c : cExcC x y K = true) : ∃ nm qn N bs sn sub ab col dd k0 k1 k2 k3 k5, K.lookup (He.ga K x) = some (excClassObj nm qn (He.ga K x) N bs [.ref (He.ga K y), .type "ValueError", .type "Exception", .type "BaseException", .type "object"] true sn sub ab col dd k0 k1 k2 k3 k5 "ValueError.__new__") := by
  unfold cExcC at c
  cases q : K.lookup (He.ga K x) with
  | none => rw [q] at c; cases c
  | some o =>
    obtain ⟨o1, o2, o3, o4⟩ := o
    rw [q] at c
    cases o1 with
    | type t =>
      cases o3 with
      | cls cd =>
        simp only [Bool.and_eq_true] at c
        obtain ⟨k1, k2, k3, k4, k5⟩ := c
        obtain ⟨n1, n2, n3, n4, n5, n6, n7, n8, n9, n10, n11⟩ := cd
        cases (beq_iff_eq.mp k1)
        have k2 := of_decide_eq_true k2
        dsimp only at k2 k3 k4
        subst k2
        cases n6 with
        | false => cases k3
        | true =>
          cases n11 with
          | true => cases k4
          | false =>
            obtain ⟨sl⟩ := o4
            dsimp only at k5
            match sl, k5 with
            | [a, b, c, d, some (.builtin n), e], k5 =>
              cases (beq_iff_eq.mp (show (n == "ValueError.__new__") = true from k5))
              exact ⟨n1, n5, n4, n2, n7, n8, n9, n10, o2, a, b, c, d, e, rfl⟩
      | _ => cases c
    | _ => cases c
/-- the module's names of numbers and texts -/
def cInt (x : Str) (i : Int) : FB := fun K => match PySem.W.nsIn K mainGlobals x with
  | some (some (.int j _)) => decide (j = i)
  | _ => false
theorem get_int {x : Str} {i : Int} (c : cInt x i K = true) : ∃ t, PySem.W.nsIn K mainGlobals x = some (some (.int i t)) := by
  unfold cInt at c
  split at c
  · rename_i j t e
    rw [of_decide_eq_true c] at e
    exact ⟨t, e⟩
  · cases c
def cStr (x z : Str) : FB := fun K => match PySem.W.nsIn K mainGlobals x with
  | some (some (.str y _)) => decide (y = z)
  | _ => false
theorem get_str {x z : Str} (c : cStr x z K = true) : ∃ t, PySem.W.nsIn K mainGlobals x = some (some (.str z t)) := by
  unfold cStr at c
  split at c
  · rename_i j t e
    rw [of_decide_eq_true c] at e
    exact ⟨t, e⟩
  · cases c
end
abbrev AlY : Type := Bool × List FnY × List (Option Obj)
def obsY (n : Nat) (fs : List (List FB)) (fn : List FnS) (tq : List At) (g : Addr → Option Obj) : AlY := (fs.all (fun l => l.all fun f => f (frY g n)), fn.map (fun d => fnY (frY g n) d.at_), tq.map fun p => g (tabOf (frY g n) p))
def valY (fn : List FnS) (tq : List At) : AlY := (true, fn.map FnS.val, tq.map fun _ => some tab0)
/-- what the end leans on -/
structure SaysY (fs : List (List FB)) (fn : List FnS) (tq : List At) (h : Heap) (K : PySem.W.Frag) : Prop where
  kin : K.In h
  b : fs.all (fun l => l.all fun f => f K) = true
  f : fn.map (fun d => fnY K d.at_) = fn.map FnS.val
  t : ∀ p ∈ tq, h.get? (tabOf K p) = some tab0
def hookY (n : Nat) (fs : List (List FB)) (fn : List FnS) (tq : List At) : PySem.W.Hook where
  α := AlY
  obs := fun s => obsY n fs fn tq s.heap.get?
  val := fun _ => valY fn tq
  says := fun _ h => ∃ K, SaysY fs fn tq h K
  of := fun _ s e => ⟨_, He.frG_in, (Prod.mk.inj e).1, (Prod.mk.inj (Prod.mk.inj e).2).1, List.map_inj_left.mp (Prod.mk.inj (Prod.mk.inj e).2).2⟩
  keeps := fun _ _ _ ⟨K, c⟩ k => ⟨K, PySem.W.Frag.In.keeps c.kin k, c.b, c.f, fun p hp => k _ _ (c.t p hp)⟩
theorem obsY_eq {n : Nat} {fs : List (List FB)} {fn : List FnS} {tq : List At} {g : Addr → Option Obj} {s : Shared} (h : ∀ a, g a = s.heap.get? a) : obsY n fs fn tq g = (hookY n fs fn tq).obs s := by
  have e : g = s.heap.get? := funext h
  rw [e] <;> rfl
section
variable {fs : List (List FB)} {fn : List FnS} {tq : List At} {h : Heap} {K : PySem.W.Frag}
theorem SaysY.fact (c : SaysY fs fn tq h K) (i j : Nat) {l : List FB} {f : FB} (h1 : fs[i]? = some l := by rfl) (h2 : l[j]? = some f := by rfl) : f K = true :=
  List.all_eq_true.mp (List.all_eq_true.mp c.b l (List.mem_of_getElem? h1)) f (List.mem_of_getElem? h2)
theorem SaysY.dec (c : SaysY fs fn tq h K) (i j : Nat) {l : List FB} {p : PySem.W.Frag → Prop} {dp : ∀ K, Decidable (p K)} (h1 : fs[i]? = some l := by rfl) (h2 : l[j]? = some (fun K => @decide (p K) (dp K)) := by rfl) : p K := of_decide_eq_true (c.fact i j h1 h2)
theorem SaysY.fn_ (c : SaysY fs fn tq h K) (i : Nat) {d : FnS} (h1 : fn[i]? = some d := by rfl) : fnY K d.at_ = d.val := by
  have e : (fn.map fun d => fnY K d.at_)[i]? = (fn.map FnS.val)[i]? := by rw [c.f]
  rw [List.getElem?_map, List.getElem?_map, h1] at e
  exact Option.some.inj e
end
section
variable {K : PySem.W.Frag} {d : FnS}
def cTup (x : Str) (xs : List Str) : FB := fun K => match PySem.W.nsIn K mainGlobals x with
  | some (some (.ref a)) => (match K.lookup a with
    | some ⟨.type t, _, .seq its _, _⟩ => t == "tuple" && (decide (its.size ≤ sizeLine) && He.relAll (xs.map V.str) its.toList)
    | _ => false)
  | _ => false
/-- one default, an object -/
def cDflR (p : At) (q : Str) : FB := fun K => fdOf K p fun fd => match fd.defaults with
  | .ref t => PySem.W.codeIn K fd.code q && (match K.lookup t with
    | some ⟨_, _, .seq its _, _⟩ => (match its.toList with
      | [.ref _] => true
      | _ => false)
    | _ => false)
  | _ => false
theorem get_dflR (e : fnY K d.at_ = d.val) (c : cDflR d.at_ d.qual K = true) (hc : d.clo = ([] : List Str) := by rfl) : ∃ oc od osl td kV doc pm an cdv ct cT odT its nT slT a,
    K.lookup (He.fAd K d.at_) = some ⟨oc, od, .func (PySem.W.fnOf d.name d.qual (defArgs d.st) (defBody d.st) (defScope d.st) (.ref td) kV doc pm an cdv ct), osl⟩ ∧ PySem.W.codeIn K cdv d.qual = true ∧
    K.lookup td = some ⟨cT, odT, .seq its nT, slT⟩ ∧ Vals [.ref a] its.toList := by
  obtain ⟨oc, od, osl, cl, dV, kV, doc, pm, an, cdv, ct, l, hcl⟩ := fnY_raw e
  rw [hc] at hcl
  have : cl = [] := List.map_eq_nil_iff.mp hcl
  subst this
  unfold cDflR fdOf at c
  rw [l] at c
  dsimp only at c
  cases dV with
  | ref t =>
    simp only [Bool.and_eq_true] at c
    obtain ⟨c1, c2⟩ := c
    cases q : K.lookup t with
    | none => rw [q] at c2; cases c2
    | some o =>
      obtain ⟨o1, o2, o3, o4⟩ := o
      rw [q] at c2
      cases o3 with
      | seq its n =>
        dsimp only at c2
        split at c2
        · rename_i a ea
          refine ⟨oc, od, osl, t, kV, doc, pm, an, cdv, ct, o1, o2, its, n, o4, a, l, c1, q, ?_⟩
          rw [ea]
          exact .cons rfl .nil
        · cases c2
      | _ => cases c2
  | _ => cases c
end
/-- a part of the heap, written out once -/
def forceL {α : Type} : PySem.W.Frag → (PySem.W.Frag → α) → α
  | [], k => k []
  | (a, o) :: r, k => HandSHeadRun.frNat a fun a => forceL r fun r => k ((a, o) :: r)
theorem forceL_eq {α : Type} : ∀ (l : PySem.W.Frag) (k : PySem.W.Frag → α), forceL l k = k l
  | [], _ => rfl
  | (a, o) :: r, k => by
    unfold forceL
    rw [HandSHeadRun.frNat_eq, forceL_eq r]
def refsX : Option Obj → List Addr
  | some ⟨_, _, .func fd, _⟩ => He.refV fd.code ++ (He.refV fd.defaults ++ fd.closure.map (·.2))
  | _ => []
/-- the globals by their names, each with the methods that are wanted of it -/
def asX (g : Addr → Option Obj) (sp : List (Str × List Str)) : List Addr := match g mainGlobals with
  | none => []
  | some o0 => mainGlobals :: cStatics :: sp.flatMap fun p => HandSHeadRun.frNat (He.ga [(mainGlobals, o0)] p.1) fun a => a :: (match g a with
    | some ⟨_, _, .cls cd, _⟩ => cd.ns :: (match g cd.ns with
      | some on => p.2.flatMap fun m => (match PySem.W.nsIn [(cd.ns, on)] cd.ns m with
        | some (some (.ref f)) => f :: refsX (g f)
        | _ => [])
      | none => [])
    | o => refsX o)
def obsX (sp : List (Str × List Str)) (fs : List (List FB)) (fn : List FnS) (tq : List At) (g : Addr → Option Obj) : AlY := forceL (He.frG g (asX g sp)) fun K => (fs.all (fun l => l.all fun f => f K), fn.map (fun d => fnY K d.at_), tq.map fun p => g (tabOf K p))
def hookX (sp : List (Str × List Str)) (fs : List (List FB)) (fn : List FnS) (tq : List At) : PySem.W.Hook where
  α := AlY
  obs := fun s => obsX sp fs fn tq s.heap.get?
  val := fun _ => valY fn tq
  says := fun _ h => ∃ K, SaysY fs fn tq h K
  of := fun _ s e => by
    have e : obsX sp fs fn tq s.heap.get? = valY fn tq := e
    unfold obsX at e
    rw [forceL_eq] at e
    exact ⟨_, He.frG_in, (Prod.mk.inj e).1, (Prod.mk.inj (Prod.mk.inj e).2).1, List.map_inj_left.mp (Prod.mk.inj (Prod.mk.inj e).2).2⟩
  keeps := fun _ _ _ ⟨K, c⟩ k => ⟨K, PySem.W.Frag.In.keeps c.kin k, c.b, c.f, fun p hp => k _ _ (c.t p hp)⟩
theorem obsX_eq {sp : List (Str × List Str)} {fs : List (List FB)} {fn : List FnS} {tq : List At} {g : Addr → Option Obj} {s : Shared} (h : ∀ a, g a = s.heap.get? a) : obsX sp fs fn tq g = (hookX sp fs fn tq).obs s := by
  have e : g = s.heap.get? := funext h
  rw [e] <;> rfl
end DL
set_option Elab.async false
set_option linter.all false
namespace K22
open PySem PySem.Spec PyProof.Rows L2 DL
abbrev PW : Program := PySem.Challenge.pw_leverheaps_k22_rows_that_are_none
def top (i : Nat) : Stmt := PW.main.body.getD i (.Pass ⟨0, 0, 0, 0⟩)
def cst (i j : Nat) : Stmt := (clsB (top i)).getD j (.Pass ⟨0, 0, 0, 0⟩)
end K22
set_option Elab.async false
set_option linter.all false
set_option maxRecDepth 100000
set_option maxHeartbeats 0
namespace K22
open PySem PySem.Spec PyProof.Rows L2 DL
def fs0 : List DL.FB := [
  fun K => decide (PySem.W.nsIn K mainGlobals "LeverError" = some (some (.ref (He.ga K "LeverError")))),
  fun K => decide (PySem.W.nsIn K mainGlobals "BadNumber" = some (some (.ref (He.ga K "BadNumber")))),
  fun K => decide (PySem.W.nsIn K mainGlobals "BadRow" = some (some (.ref (He.ga K "BadRow")))),
  fun K => decide (PySem.W.nsIn K mainGlobals "BadItem" = some (some (.ref (He.ga K "BadItem")))),
  fun K => decide (PySem.W.nsIn K mainGlobals "TooMany" = some (some (.ref (He.ga K "TooMany")))),
  fun K => decide (PySem.W.nsIn K mainGlobals "BadLand" = some (some (.ref (He.ga K "BadLand")))),
  fun K => decide (PySem.W.nsIn K mainGlobals "Ratio" = some (some (.ref (He.ga K "Ratio")))),
  fun K => decide (PySem.W.nsIn K mainGlobals "Poly" = some (some (.ref (He.ga K "Poly")))),
  fun K => decide (PySem.W.nsIn K mainGlobals "Found" = some (some (.ref (He.ga K "Found")))),
  fun K => decide (PySem.W.nsIn K mainGlobals "Square" = some (some (.ref (He.ga K "Square")))),
  fun K => decide (PySem.W.nsIn K mainGlobals "Clash" = some (some (.ref (He.ga K "Clash")))),
  fun K => decide (PySem.W.nsIn K mainGlobals "abs" = some none),
  fun K => decide (PySem.W.nsIn K mainGlobals "all" = some none),
  fun K => decide (PySem.W.nsIn K mainGlobals "bool" = some none),
  fun K => decide (PySem.W.nsIn K mainGlobals "gcd" = some (some (.builtin "math.gcd")))]
def fs1 : List DL.FB := [
  fun K => decide (PySem.W.nsIn K mainGlobals "int" = some none),
  fun K => decide (PySem.W.nsIn K mainGlobals "isinstance" = some none),
  fun K => decide (PySem.W.nsIn K mainGlobals "len" = some none),
  fun K => decide (PySem.W.nsIn K mainGlobals "list" = some none),
  fun K => decide (PySem.W.nsIn K mainGlobals "range" = some none),
  fun K => decide (PySem.W.nsIn K mainGlobals "repr" = some none),
  fun K => decide (PySem.W.nsIn K mainGlobals "str" = some none),
  fun K => decide (PySem.W.nsIn K mainGlobals "tuple" = some none),
  fun K => decide (PySem.W.nsIn K mainGlobals "zip" = some none),
  fun K => decide (PySem.W.nsIn K cStatics "thirdparty.any" = some none),
  fun K => decide (PySem.W.nsIn K mainGlobals "super" = some none),
  fun K => decide (PySem.W.findIn K (.ref (He.ga K "BadNumber")) "__setattr__" = some (some (.builtin "object.__setattr__"))),
  fun K => decide (PySem.W.subIn K (.ref (He.ga K "BadNumber")) (.type "BaseException") = some true),
  fun K => decide (PySem.W.typeIn K (.ref (He.ga K "BadNumber")) = some (.type "type")),
  fun K => decide (PySem.W.keepIn K (.ref (He.ga K "BadNumber")) = true)]
def fs2 : List DL.FB := [
  fun K => decide (PySem.W.findIn K (.ref (He.ga K "BadNumber")) "__getattribute__" = some (some (.builtin "BaseException.__getattribute__"))),
  fun K => decide (PySem.W.findIn K (.ref (He.ga K "BadNumber")) "__getattr__" = some none),
  fun K => decide (PySem.W.hasDictIn K (He.ga K "BadNumber") = true),
  fun K => decide (PySem.W.findIn K (.ref (He.ga K "BadNumber")) "what" = some none),
  fun K => decide (PySem.W.findIn K (.ref (He.ga K "BadNumber")) "value" = some none),
  fun K => decide (PySem.W.subIn K (.ref (He.ga K "BadNumber")) (.type "ValueError") = some true),
  fun K => decide (PySem.W.mroIn K (He.ga K "BadNumber") (.ref (He.ga K "BadNumber")) = some true),
  fun K => decide (PySem.W.ks_superIn K (He.ga K "BadNumber") (He.ga K "BadNumber") "__init__" = some (some (.builtin "ValueError.__init__"))),
  fun K => decide (PySem.W.findIn K (.ref (He.ga K "BadNumber")) "__init__" = some (some (.ref (He.fAd K ("BadNumber", some "__init__"))))),
  fun K => decide (PySem.W.typeIn K (.ref (He.fAd K ("BadNumber", some "__init__"))) = some (.type "function")),
  fun K => decide (PySem.W.findIn K (.ref (He.ga K "BadRow")) "__setattr__" = some (some (.builtin "object.__setattr__"))),
  fun K => decide (PySem.W.subIn K (.ref (He.ga K "BadRow")) (.type "BaseException") = some true),
  fun K => decide (PySem.W.typeIn K (.ref (He.ga K "BadRow")) = some (.type "type")),
  fun K => decide (PySem.W.keepIn K (.ref (He.ga K "BadRow")) = true),
  fun K => decide (PySem.W.findIn K (.ref (He.ga K "BadRow")) "__getattribute__" = some (some (.builtin "BaseException.__getattribute__")))]
def fs3 : List DL.FB := [
  fun K => decide (PySem.W.findIn K (.ref (He.ga K "BadRow")) "__getattr__" = some none),
  fun K => decide (PySem.W.hasDictIn K (He.ga K "BadRow") = true),
  fun K => decide (PySem.W.findIn K (.ref (He.ga K "BadRow")) "value" = some none),
  fun K => decide (PySem.W.subIn K (.ref (He.ga K "BadRow")) (.type "ValueError") = some true),
  fun K => decide (PySem.W.mroIn K (He.ga K "BadRow") (.ref (He.ga K "BadRow")) = some true),
  fun K => decide (PySem.W.ks_superIn K (He.ga K "BadRow") (He.ga K "BadRow") "__init__" = some (some (.builtin "ValueError.__init__"))),
  fun K => decide (PySem.W.findIn K (.ref (He.ga K "BadRow")) "__init__" = some (some (.ref (He.fAd K ("BadRow", some "__init__"))))),
  fun K => decide (PySem.W.typeIn K (.ref (He.fAd K ("BadRow", some "__init__"))) = some (.type "function")),
  fun K => decide (PySem.W.findIn K (.ref (He.ga K "BadItem")) "__setattr__" = some (some (.builtin "object.__setattr__"))),
  fun K => decide (PySem.W.subIn K (.ref (He.ga K "BadItem")) (.type "BaseException") = some true),
  fun K => decide (PySem.W.typeIn K (.ref (He.ga K "BadItem")) = some (.type "type")),
  fun K => decide (PySem.W.keepIn K (.ref (He.ga K "BadItem")) = true),
  fun K => decide (PySem.W.findIn K (.ref (He.ga K "BadItem")) "__getattribute__" = some (some (.builtin "BaseException.__getattribute__"))),
  fun K => decide (PySem.W.findIn K (.ref (He.ga K "BadItem")) "__getattr__" = some none),
  fun K => decide (PySem.W.hasDictIn K (He.ga K "BadItem") = true)]
def fs4 : List DL.FB := [
  fun K => decide (PySem.W.findIn K (.ref (He.ga K "BadItem")) "value" = some none),
  fun K => decide (PySem.W.subIn K (.ref (He.ga K "BadItem")) (.type "ValueError") = some true),
  fun K => decide (PySem.W.mroIn K (He.ga K "BadItem") (.ref (He.ga K "BadItem")) = some true),
  fun K => decide (PySem.W.ks_superIn K (He.ga K "BadItem") (He.ga K "BadItem") "__init__" = some (some (.builtin "ValueError.__init__"))),
  fun K => decide (PySem.W.findIn K (.ref (He.ga K "BadItem")) "__init__" = some (some (.ref (He.fAd K ("BadItem", some "__init__"))))),
  fun K => decide (PySem.W.typeIn K (.ref (He.fAd K ("BadItem", some "__init__"))) = some (.type "function")),
  fun K => decide (PySem.W.findIn K (.ref (He.ga K "TooMany")) "__setattr__" = some (some (.builtin "object.__setattr__"))),
  fun K => decide (PySem.W.subIn K (.ref (He.ga K "TooMany")) (.type "BaseException") = some true),
  fun K => decide (PySem.W.typeIn K (.ref (He.ga K "TooMany")) = some (.type "type")),
  fun K => decide (PySem.W.keepIn K (.ref (He.ga K "TooMany")) = true),
  fun K => decide (PySem.W.findIn K (.ref (He.ga K "TooMany")) "__getattribute__" = some (some (.builtin "BaseException.__getattribute__"))),
  fun K => decide (PySem.W.findIn K (.ref (He.ga K "TooMany")) "__getattr__" = some none),
  fun K => decide (PySem.W.hasDictIn K (He.ga K "TooMany") = true),
  fun K => decide (PySem.W.findIn K (.ref (He.ga K "TooMany")) "what" = some none),
  fun K => decide (PySem.W.findIn K (.ref (He.ga K "TooMany")) "most" = some none)]
def fs5 : List DL.FB := [
  fun K => decide (PySem.W.subIn K (.ref (He.ga K "TooMany")) (.type "ValueError") = some true),
  fun K => decide (PySem.W.mroIn K (He.ga K "TooMany") (.ref (He.ga K "TooMany")) = some true),
  fun K => decide (PySem.W.ks_superIn K (He.ga K "TooMany") (He.ga K "TooMany") "__init__" = some (some (.builtin "ValueError.__init__"))),
  fun K => decide (PySem.W.findIn K (.ref (He.ga K "TooMany")) "__init__" = some (some (.ref (He.fAd K ("TooMany", some "__init__"))))),
  fun K => decide (PySem.W.typeIn K (.ref (He.fAd K ("TooMany", some "__init__"))) = some (.type "function")),
  fun K => decide (PySem.W.findIn K (.ref (He.ga K "BadLand")) "__setattr__" = some (some (.builtin "object.__setattr__"))),
  fun K => decide (PySem.W.subIn K (.ref (He.ga K "BadLand")) (.type "BaseException") = some true),
  fun K => decide (PySem.W.typeIn K (.ref (He.ga K "BadLand")) = some (.type "type")),
  fun K => decide (PySem.W.keepIn K (.ref (He.ga K "BadLand")) = true),
  fun K => decide (PySem.W.findIn K (.ref (He.ga K "BadLand")) "__getattribute__" = some (some (.builtin "BaseException.__getattribute__"))),
  fun K => decide (PySem.W.findIn K (.ref (He.ga K "BadLand")) "__getattr__" = some none),
  fun K => decide (PySem.W.hasDictIn K (He.ga K "BadLand") = true),
  fun K => decide (PySem.W.findIn K (.ref (He.ga K "BadLand")) "land" = some none),
  fun K => decide (PySem.W.subIn K (.ref (He.ga K "BadLand")) (.type "ValueError") = some true),
  fun K => decide (PySem.W.mroIn K (He.ga K "BadLand") (.ref (He.ga K "BadLand")) = some true)]
def fs6 : List DL.FB := [
  fun K => decide (PySem.W.ks_superIn K (He.ga K "BadLand") (He.ga K "BadLand") "__init__" = some (some (.builtin "ValueError.__init__"))),
  fun K => decide (PySem.W.findIn K (.ref (He.ga K "BadLand")) "__init__" = some (some (.ref (He.fAd K ("BadLand", some "__init__"))))),
  fun K => decide (PySem.W.typeIn K (.ref (He.fAd K ("BadLand", some "__init__"))) = some (.type "function")),
  fun K => decide (PySem.W.selfFirst K (He.ga K "Ratio") = true),
  fun K => decide (PySem.W.plainGet K (He.ga K "Ratio") Str.empty = true),
  fun K => decide (PySem.W.hasDictIn K (He.ga K "Ratio") = true),
  fun K => decide (PySem.W.plainOver K (He.ga K "Ratio") = true),
  fun K => decide (PySem.W.findIn K (.ref (He.ga K "Ratio")) "__setattr__" = some (some (.builtin "object.__setattr__"))),
  fun K => decide (PySem.W.findIn K (.ref (He.ga K "Ratio")) "top" = some none),
  fun K => decide (PySem.W.findIn K (.ref (He.ga K "Ratio")) "bottom" = some none),
  fun K => decide (PySem.W.findIn K (.ref (He.ga K "Ratio")) "sign" = some none),
  fun K => decide (PySem.W.findIn K (.ref (He.ga K "Ratio")) "whole" = some none),
  fun K => decide (PySem.W.findIn K (.ref (He.ga K "Ratio")) "__class__" = some (some (.builtin "object.__class__"))),
  fun K => decide (PySem.W.specialIn K (.builtin "object.__class__") "__get__" = some (some (.builtin "getset_descriptor.__get__"))),
  fun K => decide (PySem.W.takesIn K (.builtin "object.__class__") = some true)]
def fs7 : List DL.FB := [
  fun K => decide (PySem.W.mroIn K (He.ga K "Ratio") (.type "object") = some true),
  fun K => decide (PySem.W.makesIn K (He.ga K "Ratio") = true),
  fun K => decide (PySem.W.keepIn K (.ref (He.ga K "Ratio")) = true),
  fun K => decide (PySem.W.plainGet K (He.ga K "Poly") Str.empty = true),
  fun K => decide (PySem.W.hasDictIn K (He.ga K "Poly") = true),
  fun K => decide (PySem.W.plainOver K (He.ga K "Poly") = true),
  fun K => decide (PySem.W.findIn K (.ref (He.ga K "Poly")) "__setattr__" = some (some (.builtin "object.__setattr__"))),
  fun K => decide (PySem.W.findIn K (.ref (He.ga K "Poly")) "numbers" = some none),
  fun K => decide (PySem.W.findIn K (.ref (He.ga K "Poly")) "degree" = some none),
  fun K => decide (PySem.W.findIn K (.ref (He.ga K "Poly")) "lead" = some none),
  fun K => decide (PySem.W.findIn K (.ref (He.ga K "Poly")) "__class__" = some (some (.builtin "object.__class__"))),
  fun K => decide (PySem.W.specialIn K (.builtin "object.__class__") "__get__" = some (some (.builtin "getset_descriptor.__get__"))),
  fun K => decide (PySem.W.takesIn K (.builtin "object.__class__") = some true),
  fun K => decide (PySem.W.mroIn K (He.ga K "Poly") (.type "object") = some true),
  fun K => decide (PySem.W.makesIn K (He.ga K "Poly") = true)]
def fs8 : List DL.FB := [
  fun K => decide (PySem.W.keepIn K (.ref (He.ga K "Poly")) = true),
  fun K => decide (PySem.W.kitOne K (.ref (He.ga K "Ratio")) (.type "bool") = some false),
  fun K => decide (PySem.W.kitOne K (.ref (He.ga K "Poly")) (.type "bool") = some false),
  fun K => decide (PySem.W.kitOne K (.ref (He.ga K "Ratio")) (.type "int") = some false),
  fun K => decide (PySem.W.kitOne K (.ref (He.ga K "Poly")) (.type "int") = some false),
  fun K => decide (PySem.W.kitOne K (.ref (He.ga K "Ratio")) (.type "list") = some false),
  fun K => decide (PySem.W.kitOne K (.ref (He.ga K "Poly")) (.type "list") = some false),
  fun K => decide (PySem.W.kitOne K (.ref (He.ga K "Ratio")) (.type "str") = some false),
  fun K => decide (PySem.W.kitOne K (.ref (He.ga K "Poly")) (.type "str") = some false),
  fun K => decide (PySem.W.kitOne K (.ref (He.ga K "Ratio")) (.type "tuple") = some false),
  fun K => decide (PySem.W.kitOne K (.ref (He.ga K "Poly")) (.type "tuple") = some false),
  fun K => decide (PySem.W.kitOne K (.type "NoneType") (.ref (He.ga K "Clash")) = some false),
  fun K => decide (PySem.W.kitOne K (.type "bool") (.ref (He.ga K "Clash")) = some false),
  fun K => decide (PySem.W.kitOne K (.type "int") (.ref (He.ga K "Clash")) = some false),
  fun K => decide (PySem.W.kitOne K (.type "str") (.ref (He.ga K "Clash")) = some false)]
def fs9 : List DL.FB := [
  fun K => decide (PySem.W.kitOne K (.type "tuple") (.ref (He.ga K "Clash")) = some false),
  fun K => decide (PySem.W.kitOne K (.type "list") (.ref (He.ga K "Clash")) = some false),
  fun K => decide (PySem.W.kitOne K (.ref (He.ga K "Ratio")) (.ref (He.ga K "Clash")) = some false),
  fun K => decide (PySem.W.kitOne K (.ref (He.ga K "Poly")) (.ref (He.ga K "Clash")) = some false),
  fun K => decide (PySem.W.kitOne K (.type "NoneType") (.ref (He.ga K "Found")) = some false),
  fun K => decide (PySem.W.kitOne K (.type "bool") (.ref (He.ga K "Found")) = some false),
  fun K => decide (PySem.W.kitOne K (.type "int") (.ref (He.ga K "Found")) = some false),
  fun K => decide (PySem.W.kitOne K (.type "str") (.ref (He.ga K "Found")) = some false),
  fun K => decide (PySem.W.kitOne K (.type "tuple") (.ref (He.ga K "Found")) = some false),
  fun K => decide (PySem.W.kitOne K (.type "list") (.ref (He.ga K "Found")) = some false),
  fun K => decide (PySem.W.kitOne K (.ref (He.ga K "Ratio")) (.ref (He.ga K "Found")) = some false),
  fun K => decide (PySem.W.kitOne K (.ref (He.ga K "Poly")) (.ref (He.ga K "Found")) = some false),
  fun K => decide (PySem.W.kitOne K (.type "NoneType") (.ref (He.ga K "Poly")) = some false),
  fun K => decide (PySem.W.kitOne K (.type "bool") (.ref (He.ga K "Poly")) = some false),
  fun K => decide (PySem.W.kitOne K (.type "int") (.ref (He.ga K "Poly")) = some false)]
def fs10 : List DL.FB := [
  fun K => decide (PySem.W.kitOne K (.type "str") (.ref (He.ga K "Poly")) = some false),
  fun K => decide (PySem.W.kitOne K (.type "tuple") (.ref (He.ga K "Poly")) = some false),
  fun K => decide (PySem.W.kitOne K (.type "list") (.ref (He.ga K "Poly")) = some false),
  fun K => decide (PySem.W.kitOne K (.ref (He.ga K "Ratio")) (.ref (He.ga K "Poly")) = some false),
  fun K => decide (PySem.W.kitOne K (.ref (He.ga K "Poly")) (.ref (He.ga K "Poly")) = some true),
  fun K => decide (PySem.W.kitOne K (.type "NoneType") (.ref (He.ga K "Ratio")) = some false),
  fun K => decide (PySem.W.kitOne K (.type "bool") (.ref (He.ga K "Ratio")) = some false),
  fun K => decide (PySem.W.kitOne K (.type "int") (.ref (He.ga K "Ratio")) = some false),
  fun K => decide (PySem.W.kitOne K (.type "str") (.ref (He.ga K "Ratio")) = some false),
  fun K => decide (PySem.W.kitOne K (.type "tuple") (.ref (He.ga K "Ratio")) = some false),
  fun K => decide (PySem.W.kitOne K (.type "list") (.ref (He.ga K "Ratio")) = some false),
  fun K => decide (PySem.W.kitOne K (.ref (He.ga K "Ratio")) (.ref (He.ga K "Ratio")) = some true),
  fun K => decide (PySem.W.kitOne K (.ref (He.ga K "Poly")) (.ref (He.ga K "Ratio")) = some false),
  fun K => decide (PySem.W.kitOne K (.type "NoneType") (.ref (He.ga K "Square")) = some false),
  fun K => decide (PySem.W.kitOne K (.type "bool") (.ref (He.ga K "Square")) = some false)]
def fs11 : List DL.FB := [
  fun K => decide (PySem.W.kitOne K (.type "int") (.ref (He.ga K "Square")) = some false),
  fun K => decide (PySem.W.kitOne K (.type "str") (.ref (He.ga K "Square")) = some false),
  fun K => decide (PySem.W.kitOne K (.type "tuple") (.ref (He.ga K "Square")) = some false),
  fun K => decide (PySem.W.kitOne K (.type "list") (.ref (He.ga K "Square")) = some false),
  fun K => decide (PySem.W.kitOne K (.ref (He.ga K "Ratio")) (.ref (He.ga K "Square")) = some false),
  fun K => decide (PySem.W.kitOne K (.ref (He.ga K "Poly")) (.ref (He.ga K "Square")) = some false),
  fun K => decide (PySem.W.exmOne K (.ref (He.ga K "TooMany")) (.ref (He.ga K "BadItem")) = some false),
  fun K => decide (PySem.W.exmOne K (.ref (He.ga K "BadLand")) (.ref (He.ga K "BadItem")) = some false),
  fun K => decide (PySem.W.exmOne K (.ref (He.ga K "BadRow")) (.ref (He.ga K "BadItem")) = some false),
  fun K => decide (PySem.W.exmOne K (.ref (He.ga K "BadItem")) (.ref (He.ga K "BadItem")) = some true),
  fun K => decide (PySem.W.exmOne K (.ref (He.ga K "TooMany")) (.ref (He.ga K "BadRow")) = some false),
  fun K => decide (PySem.W.exmOne K (.ref (He.ga K "BadLand")) (.ref (He.ga K "BadRow")) = some false),
  fun K => decide (PySem.W.exmOne K (.ref (He.ga K "BadRow")) (.ref (He.ga K "BadRow")) = some true),
  fun K => decide (PySem.W.exmOne K (.ref (He.ga K "TooMany")) (.ref (He.ga K "BadLand")) = some false),
  fun K => decide (PySem.W.exmOne K (.ref (He.ga K "BadLand")) (.ref (He.ga K "BadLand")) = some true)]
def fs12 : List DL.FB := [
  fun K => decide (PySem.W.exmOne K (.ref (He.ga K "TooMany")) (.ref (He.ga K "TooMany")) = some true),
  fun K => decide (PySem.W.nsIn K mainGlobals "_law_draw" = some (some (.ref (He.fAd K ("_law_draw", none))))),
  fun K => decide (PySem.W.keepIn K (.ref (He.fAd K ("_law_draw", none))) = true),
  fun K => decide (PySem.W.nsIn K mainGlobals "_law_gcd" = some (some (.ref (He.fAd K ("_law_gcd", none))))),
  fun K => decide (PySem.W.keepIn K (.ref (He.fAd K ("_law_gcd", none))) = true),
  fun K => decide (PySem.W.nsIn K mainGlobals "_law_f" = some (some (.ref (He.fAd K ("_law_f", none))))),
  fun K => decide (PySem.W.keepIn K (.ref (He.fAd K ("_law_f", none))) = true),
  fun K => decide (PySem.W.nsIn K mainGlobals "_law_some_f" = some (some (.ref (He.fAd K ("_law_some_f", none))))),
  fun K => decide (PySem.W.keepIn K (.ref (He.fAd K ("_law_some_f", none))) = true),
  fun K => decide (PySem.W.nsIn K mainGlobals "_law_trim" = some (some (.ref (He.fAd K ("_law_trim", none))))),
  fun K => decide (PySem.W.keepIn K (.ref (He.fAd K ("_law_trim", none))) = true),
  fun K => decide (PySem.W.nsIn K mainGlobals "_law_listed" = some (some (.ref (He.fAd K ("_law_listed", none))))),
  fun K => decide (PySem.W.keepIn K (.ref (He.fAd K ("_law_listed", none))) = true),
  fun K => decide (PySem.W.nsIn K mainGlobals "is_integer" = some (some (.ref (He.fAd K ("is_integer", none))))),
  fun K => decide (PySem.W.keepIn K (.ref (He.fAd K ("is_integer", none))) = true)]
def fs13 : List DL.FB := [
  fun K => decide (PySem.W.findIn K (.ref (He.ga K "Ratio")) "__init__" = some (some (.ref (He.fAd K ("Ratio", some "__init__"))))),
  fun K => decide (PySem.W.isFn K (.ref (He.fAd K ("Ratio", some "__init__"))) = true),
  fun K => decide (PySem.W.keepIn K (.ref (He.fAd K ("Ratio", some "__init__"))) = true),
  fun K => decide (PySem.W.nsIn K mainGlobals "_law_ratio" = some (some (.ref (He.fAd K ("_law_ratio", none))))),
  fun K => decide (PySem.W.keepIn K (.ref (He.fAd K ("_law_ratio", none))) = true),
  fun K => decide (PySem.W.nsIn K mainGlobals "_law_complaint" = some (some (.ref (He.fAd K ("_law_complaint", none))))),
  fun K => decide (PySem.W.keepIn K (.ref (He.fAd K ("_law_complaint", none))) = true),
  fun K => decide (PySem.W.nsIn K mainGlobals "is_row" = some (some (.ref (He.fAd K ("is_row", none))))),
  fun K => decide (PySem.W.keepIn K (.ref (He.fAd K ("is_row", none))) = true),
  fun K => decide (PySem.W.nsIn K mainGlobals "is_number_heaps" = some (some (.ref (He.fAd K ("is_number_heaps", none))))),
  fun K => decide (PySem.W.keepIn K (.ref (He.fAd K ("is_number_heaps", none))) = true),
  fun K => decide (PySem.W.nsIn K mainGlobals "is_number_ratios" = some (some (.ref (He.fAd K ("is_number_ratios", none))))),
  fun K => decide (PySem.W.keepIn K (.ref (He.fAd K ("is_number_ratios", none))) = true),
  fun K => decide (PySem.W.nsIn K mainGlobals "plain_ratio" = some (some (.ref (He.fAd K ("plain_ratio", none))))),
  fun K => decide (PySem.W.keepIn K (.ref (He.fAd K ("plain_ratio", none))) = true)]
def fs14 : List DL.FB := [
  fun K => decide (PySem.W.nsIn K mainGlobals "ratio_of" = some (some (.ref (He.fAd K ("ratio_of", none))))),
  fun K => decide (PySem.W.keepIn K (.ref (He.fAd K ("ratio_of", none))) = true),
  fun K => decide (PySem.W.nsIn K mainGlobals "need_sums" = some (some (.ref (He.fAd K ("need_sums", none))))),
  fun K => decide (PySem.W.keepIn K (.ref (He.fAd K ("need_sums", none))) = true),
  fun K => decide (PySem.W.findIn K (.ref (He.ga K "Ratio")) "__mul__" = some (some (.ref (He.fAd K ("Ratio", some "__mul__"))))),
  fun K => decide (PySem.W.isFn K (.ref (He.fAd K ("Ratio", some "__mul__"))) = true),
  fun K => decide (PySem.W.keepIn K (.ref (He.fAd K ("Ratio", some "__mul__"))) = true),
  fun K => decide (PySem.W.findIn K (.ref (He.ga K "Ratio")) "__add__" = some (some (.ref (He.fAd K ("Ratio", some "__add__"))))),
  fun K => decide (PySem.W.isFn K (.ref (He.fAd K ("Ratio", some "__add__"))) = true),
  fun K => decide (PySem.W.keepIn K (.ref (He.fAd K ("Ratio", some "__add__"))) = true),
  fun K => decide (PySem.W.nsIn K mainGlobals "summed_totals" = some (some (.ref (He.fAd K ("summed_totals", none))))),
  fun K => decide (PySem.W.keepIn K (.ref (He.fAd K ("summed_totals", none))) = true),
  fun K => decide (PySem.W.nsIn K mainGlobals "row_total" = some (some (.ref (He.fAd K ("row_total", none))))),
  fun K => decide (PySem.W.keepIn K (.ref (He.fAd K ("row_total", none))) = true),
  fun K => decide (PySem.W.nsIn K mainGlobals "without_zeros" = some (some (.ref (He.fAd K ("without_zeros", none)))))]
def fs15 : List DL.FB := [
  fun K => decide (PySem.W.keepIn K (.ref (He.fAd K ("without_zeros", none))) = true),
  fun K => decide (PySem.W.nsIn K mainGlobals "need_numbers" = some (some (.ref (He.fAd K ("need_numbers", none))))),
  fun K => decide (PySem.W.keepIn K (.ref (He.fAd K ("need_numbers", none))) = true),
  fun K => decide (PySem.W.findIn K (.ref (He.ga K "Poly")) "__init__" = some (some (.ref (He.fAd K ("Poly", some "__init__"))))),
  fun K => decide (PySem.W.isFn K (.ref (He.fAd K ("Poly", some "__init__"))) = true),
  fun K => decide (PySem.W.keepIn K (.ref (He.fAd K ("Poly", some "__init__"))) = true),
  fun K => decide (PySem.W.nsIn K mainGlobals "_law_add" = some (some (.ref (He.fAd K ("_law_add", none))))),
  fun K => decide (PySem.W.keepIn K (.ref (He.fAd K ("_law_add", none))) = true),
  fun K => decide (PySem.W.nsIn K mainGlobals "_law_sum" = some (some (.ref (He.fAd K ("_law_sum", none))))),
  fun K => decide (PySem.W.keepIn K (.ref (He.fAd K ("_law_sum", none))) = true),
  fun K => decide (PySem.W.nsIn K mainGlobals "_law_mul" = some (some (.ref (He.fAd K ("_law_mul", none))))),
  fun K => decide (PySem.W.keepIn K (.ref (He.fAd K ("_law_mul", none))) = true),
  fun K => decide (PySem.W.nsIn K mainGlobals "_law_total" = some (some (.ref (He.fAd K ("_law_total", none))))),
  fun K => decide (PySem.W.keepIn K (.ref (He.fAd K ("_law_total", none))) = true),
  fun K => decide (PySem.W.nsIn K mainGlobals "_law_pick" = some (some (.ref (He.fAd K ("_law_pick", none)))))]
def fs16 : List DL.FB := [
  fun K => decide (PySem.W.keepIn K (.ref (He.fAd K ("_law_pick", none))) = true),
  fun K => decide (PySem.W.nsIn K mainGlobals "need_land" = some (some (.ref (He.fAd K ("need_land", none))))),
  fun K => decide (PySem.W.keepIn K (.ref (He.fAd K ("need_land", none))) = true),
  fun K => decide (PySem.W.nsIn K mainGlobals "settle_row" = some (some (.ref (He.fAd K ("settle_row", none))))),
  fun K => decide (PySem.W.keepIn K (.ref (He.fAd K ("settle_row", none))) = true),
  fun K => decide (PySem.W.nsIn K mainGlobals "row_fault" = some (some (.ref (He.fAd K ("row_fault", none))))),
  fun K => decide (PySem.W.keepIn K (.ref (He.fAd K ("row_fault", none))) = true),
  fun K => decide (PySem.W.nsIn K mainGlobals "need_factor" = some (some (.ref (He.fAd K ("need_factor", none))))),
  fun K => decide (PySem.W.keepIn K (.ref (He.fAd K ("need_factor", none))) = true),
  fun K => decide (PySem.W.nsIn K mainGlobals "table_of" = some (some (.ref (He.fAd K ("table_of", none))))),
  fun K => decide (PySem.W.keepIn K (.ref (He.fAd K ("table_of", none))) = true),
  fun K => decide (PySem.W.nsIn K mainGlobals "minors" = some (some (.ref (He.fAd K ("minors", none))))),
  fun K => decide (PySem.W.keepIn K (.ref (He.fAd K ("minors", none))) = true),
  fun K => decide (PySem.W.nsIn K mainGlobals "split" = some (some (.ref (He.fAd K ("split", none))))),
  fun K => decide (PySem.W.keepIn K (.ref (He.fAd K ("split", none))) = true)]
def fs17 : List DL.FB := [
  fun K => decide (PySem.W.nsIn K mainGlobals "_law_pen" = some (some (.ref (He.fAd K ("_law_pen", none))))),
  fun K => decide (PySem.W.keepIn K (.ref (He.fAd K ("_law_pen", none))) = true),
  fun K => decide (PySem.W.nsIn K mainGlobals "law" = some (some (.ref (He.fAd K ("law", none))))),
  fun K => decide (PySem.W.keepIn K (.ref (He.fAd K ("law", none))) = true),
  DL.cTup "LANDS" ["line", "ray", "stretch"],
  DL.cInt "MOST_SUMS" 12,
  DL.cExcC "BadNumber" "LeverError",
  DL.cExc ("BadNumber", some "__init__") "BadNumber.__init__" PW.main.file,
  DL.cExcC "BadRow" "LeverError",
  DL.cExc ("BadRow", some "__init__") "BadRow.__init__" PW.main.file,
  DL.cExcC "BadItem" "LeverError",
  DL.cExc ("BadItem", some "__init__") "BadItem.__init__" PW.main.file,
  DL.cExcC "TooMany" "LeverError",
  DL.cExc ("TooMany", some "__init__") "TooMany.__init__" PW.main.file,
  DL.cExcC "BadLand" "LeverError"]
def fs18 : List DL.FB := [
  DL.cExc ("BadLand", some "__init__") "BadLand.__init__" PW.main.file,
  DL.cPlain ("_law_draw", none) "_law_draw",
  DL.cPlain ("_law_gcd", none) "_law_gcd",
  DL.cPlain ("_law_f", none) "_law_f",
  DL.cPlain ("_law_some_f", none) "_law_some_f",
  DL.cPlain ("_law_trim", none) "_law_trim",
  DL.cPlain ("_law_listed", none) "_law_listed",
  DL.cPlain ("is_integer", none) "is_integer",
  DL.cDfl ("Ratio", some "__init__") "Ratio.__init__" [.int 1],
  DL.cPlain ("_law_ratio", none) "_law_ratio",
  DL.cPlain ("_law_complaint", none) "_law_complaint",
  DL.cPlain ("is_row", none) "is_row",
  DL.cPlain ("is_number_heaps", none) "is_number",
  DL.cPlain ("is_number_ratios", none) "is_number",
  DL.cPlain ("plain_ratio", none) "plain_ratio"]
def fs19 : List DL.FB := [
  DL.cPlain ("ratio_of", none) "ratio_of",
  DL.cPlain ("need_sums", none) "need_sums",
  DL.cPlain ("Ratio", some "__mul__") "Ratio.__mul__",
  DL.cPlain ("Ratio", some "__add__") "Ratio.__add__",
  DL.cPlain ("summed_totals", none) "summed",
  DL.cPlain ("row_total", none) "row_total",
  DL.cPlain ("without_zeros", none) "without_zeros",
  DL.cPlain ("need_numbers", none) "need_numbers",
  DL.cDflR ("Poly", some "__init__") "Poly.__init__",
  DL.cPlain ("_law_add", none) "_law_add",
  DL.cPlain ("_law_sum", none) "_law_sum",
  DL.cPlain ("_law_mul", none) "_law_mul",
  DL.cPlain ("_law_total", none) "_law_total",
  DL.cPlain ("_law_pick", none) "_law_pick",
  DL.cPlain ("need_land", none) "need_land"]
def fs20 : List DL.FB := [
  DL.cPlain ("settle_row", none) "settle_row",
  DL.cPlain ("row_fault", none) "row_fault",
  DL.cPlain ("need_factor", none) "need_factor",
  DL.cPlain ("table_of", none) "table_of",
  DL.cPlain ("minors", none) "minors",
  DL.cPlain ("split", none) "split",
  DL.cPlain ("_law_pen", none) "_law_pen",
  DL.cLam ("law", none) "law",
  fun K => (K.lookup (DL.tabOf K ("law", none))).isNone,
  fun K => decide (([(DL.tabOf K ("law", none))] : List Addr).Nodup)]
def fsA0 : List (List DL.FB) := [fs0, fs1, fs2, fs3, fs4, fs5, fs6, fs7, fs8, fs9, fs10, fs11, fs12, fs13, fs14]
def fsA1 : List (List DL.FB) := [fs15, fs16, fs17, fs18, fs19, fs20]
def fs : List (List DL.FB) := fsA0 ++ fsA1
def fn0 : DL.FnS := { at_ := ("BadNumber", some "__init__"), name := "__init__", qual := "BadNumber.__init__", st := (cst 4 0), clo := ["__class__"] }
def fn1 : DL.FnS := { at_ := ("BadRow", some "__init__"), name := "__init__", qual := "BadRow.__init__", st := (cst 5 0), clo := ["__class__"] }
def fn2 : DL.FnS := { at_ := ("BadItem", some "__init__"), name := "__init__", qual := "BadItem.__init__", st := (cst 6 0), clo := ["__class__"] }
def fn3 : DL.FnS := { at_ := ("TooMany", some "__init__"), name := "__init__", qual := "TooMany.__init__", st := (cst 7 0), clo := ["__class__"] }
def fn4 : DL.FnS := { at_ := ("BadLand", some "__init__"), name := "__init__", qual := "BadLand.__init__", st := (cst 9 0), clo := ["__class__"] }
def fn5 : DL.FnS := { at_ := ("_law_draw", none), name := "_law_draw", qual := "_law_draw", st := (top 121), clo := [] }
def fn6 : DL.FnS := { at_ := ("_law_gcd", none), name := "_law_gcd", qual := "_law_gcd", st := (top 123), clo := [] }
def fn7 : DL.FnS := { at_ := ("_law_f", none), name := "_law_f", qual := "_law_f", st := (top 124), clo := [] }
def fn8 : DL.FnS := { at_ := ("_law_some_f", none), name := "_law_some_f", qual := "_law_some_f", st := (top 129), clo := [] }
def fn9 : DL.FnS := { at_ := ("_law_trim", none), name := "_law_trim", qual := "_law_trim", st := (top 128), clo := [] }
def fn10 : DL.FnS := { at_ := ("_law_listed", none), name := "_law_listed", qual := "_law_listed", st := (top 131), clo := [] }
def fn11 : DL.FnS := { at_ := ("is_integer", none), name := "is_integer", qual := "is_integer", st := (top 11), clo := [] }
def fn12 : DL.FnS := { at_ := ("Ratio", some "__init__"), name := "__init__", qual := "Ratio.__init__", st := (cst 16 0), clo := [] }
def fn13 : DL.FnS := { at_ := ("_law_ratio", none), name := "_law_ratio", qual := "_law_ratio", st := (top 132), clo := [] }
def fn14 : DL.FnS := { at_ := ("_law_complaint", none), name := "_law_complaint", qual := "_law_complaint", st := (top 133), clo := [] }
def fn15 : DL.FnS := { at_ := ("is_row", none), name := "is_row", qual := "is_row", st := (top 13), clo := [] }
def fn16 : DL.FnS := { at_ := ("is_number_heaps", none), name := "is_number", qual := "is_number", st := (top 72), clo := [] }
def fn17 : DL.FnS := { at_ := ("is_number_ratios", none), name := "is_number", qual := "is_number", st := (top 18), clo := [] }
def fn18 : DL.FnS := { at_ := ("plain_ratio", none), name := "plain_ratio", qual := "plain_ratio", st := (top 20), clo := [] }
def fn19 : DL.FnS := { at_ := ("ratio_of", none), name := "ratio_of", qual := "ratio_of", st := (top 21), clo := [] }
def fn20 : DL.FnS := { at_ := ("need_sums", none), name := "need_sums", qual := "need_sums", st := (top 85), clo := [] }
def fn21 : DL.FnS := { at_ := ("Ratio", some "__mul__"), name := "__mul__", qual := "Ratio.__mul__", st := (cst 16 8), clo := [] }
def fn22 : DL.FnS := { at_ := ("Ratio", some "__add__"), name := "__add__", qual := "Ratio.__add__", st := (cst 16 4), clo := [] }
def fn23 : DL.FnS := { at_ := ("summed_totals", none), name := "summed", qual := "summed", st := (top 59), clo := [] }
def fn24 : DL.FnS := { at_ := ("row_total", none), name := "row_total", qual := "row_total", st := (top 86), clo := [] }
def fn25 : DL.FnS := { at_ := ("without_zeros", none), name := "without_zeros", qual := "without_zeros", st := (top 24), clo := [] }
def fn26 : DL.FnS := { at_ := ("need_numbers", none), name := "need_numbers", qual := "need_numbers", st := (top 22), clo := [] }
def fn27 : DL.FnS := { at_ := ("Poly", some "__init__"), name := "__init__", qual := "Poly.__init__", st := (cst 30 0), clo := [] }
def fn28 : DL.FnS := { at_ := ("_law_add", none), name := "_law_add", qual := "_law_add", st := (top 125), clo := [] }
def fn29 : DL.FnS := { at_ := ("_law_sum", none), name := "_law_sum", qual := "_law_sum", st := (top 127), clo := [] }
def fn30 : DL.FnS := { at_ := ("_law_mul", none), name := "_law_mul", qual := "_law_mul", st := (top 126), clo := [] }
def fn31 : DL.FnS := { at_ := ("_law_total", none), name := "_law_total", qual := "_law_total", st := (top 130), clo := [] }
def fn32 : DL.FnS := { at_ := ("_law_pick", none), name := "_law_pick", qual := "_law_pick", st := (top 122), clo := [] }
def fn33 : DL.FnS := { at_ := ("need_land", none), name := "need_land", qual := "need_land", st := (top 103), clo := [] }
def fn34 : DL.FnS := { at_ := ("settle_row", none), name := "settle_row", qual := "settle_row", st := (top 113), clo := [] }
def fn35 : DL.FnS := { at_ := ("row_fault", none), name := "row_fault", qual := "row_fault", st := (top 118), clo := [] }
def fn36 : DL.FnS := { at_ := ("need_factor", none), name := "need_factor", qual := "need_factor", st := (top 87), clo := [] }
def fn37 : DL.FnS := { at_ := ("table_of", none), name := "table_of", qual := "table_of", st := (top 89), clo := [] }
def fn38 : DL.FnS := { at_ := ("minors", none), name := "minors", qual := "minors", st := (top 91), clo := [] }
def fn39 : DL.FnS := { at_ := ("split", none), name := "split", qual := "split", st := (top 92), clo := [] }
def fn40 : DL.FnS := { at_ := ("_law_pen", none), name := "_law_pen", qual := "_law_pen", st := (top 120), clo := [] }
def fn41 : DL.FnS := { at_ := ("law", none), name := "law", qual := "law", st := (top 134), clo := [] }
def fnA0 : List DL.FnS := [fn0, fn1, fn2, fn3, fn4, fn5, fn6, fn7, fn8, fn9, fn10, fn11, fn12, fn13, fn14]
def fnA1 : List DL.FnS := [fn15, fn16, fn17, fn18, fn19, fn20, fn21, fn22, fn23, fn24, fn25, fn26, fn27, fn28, fn29]
def fnA2 : List DL.FnS := [fn30, fn31, fn32, fn33, fn34, fn35, fn36, fn37, fn38, fn39, fn40, fn41]
def fn : List DL.FnS := fnA0 ++ fnA1 ++ fnA2
def sp0 : List (Str × List Str) := [("LeverError", []), ("BadNumber", ["__init__"]), ("BadRow", ["__init__"]), ("BadItem", ["__init__"]), ("TooMany", ["__init__"]), ("BadLand", ["__init__"]), ("Ratio", ["__init__", "__mul__", "__add__"]), ("Poly", ["__init__"]), ("Found", []), ("Square", []), ("Clash", []), ("LANDS", []), ("_law_draw", []), ("_law_gcd", []), ("_law_f", [])]
def sp1 : List (Str × List Str) := [("_law_some_f", []), ("_law_trim", []), ("_law_listed", []), ("is_integer", []), ("_law_ratio", []), ("_law_complaint", []), ("is_row", []), ("is_number_heaps", []), ("is_number_ratios", []), ("plain_ratio", []), ("ratio_of", []), ("need_sums", []), ("summed_totals", []), ("row_total", []), ("without_zeros", [])]
def sp2 : List (Str × List Str) := [("need_numbers", []), ("_law_add", []), ("_law_sum", []), ("_law_mul", []), ("_law_total", []), ("_law_pick", []), ("need_land", []), ("settle_row", []), ("row_fault", []), ("need_factor", []), ("table_of", []), ("minors", []), ("split", []), ("_law_pen", []), ("law", [])]
def sp : List (Str × List Str) := sp0 ++ sp1 ++ sp2
def tq : List DL.At := [("law", none)]
end K22
namespace K22
open PySem PySem.W PySem.Calls PyProof.Rows
abbrev hRow : OpenRow := OpenLaw.row PySem.Challenge.rw_leverheaps_k22_rows_that_are_none
abbrev hView : Program := view hRow.prog [0, 134]
def names0 : List PySem.Str := ["_wall", "LeverError", "BadNumber", "BadRow", "BadItem", "TooMany", "BadHeap", "BadLand", "is_integer", "is_count", "is_row", "power_of", "Ratio", "ratio_power", "is_number", "is_number_ratios", "plain_ratio", "ratio_of", "need_numbers", "without_zeros"]
def names1 : List PySem.Str := ["part_at", "summed", "summed_polys", "lessened", "multiplied", "Poly", "need_poly", "need_numbered", "value_at", "made_monic", "divided", "common", "multipliers", "simple", "sign_changes", "sized", "chain", "changes_at", "changes_far", "changes_from"]
def names2 : List PySem.Str := ["counted", "sign_counts", "newton", "trace_of", "trace", "need_end", "need_end_sturm", "how_many", "power_of_x", "summed_totals", "rows_of_table", "next_square", "square_number", "all_squares", "first_squares", "wrong_poly", "wrong_weights", "Heap", "empty_heap", "need_heap"]
def names3 : List PySem.Str := ["is_number_heaps", "rest_by", "slopes_inverse", "heap_of_share", "share_by_sums", "heap_by_sums", "need_end_heaps", "is_within", "first_sums", "MOST_SUMS", "need_sums", "row_total", "need_factor", "full_table", "table_of", "determinant", "minors", "split", "ENDS", "LANDS"]
def names4 : List PySem.Str := ["one", "unknown", "left", "between", "Found", "Square", "Clash", "need_land", "factors_of", "needed_factors", "square_below", "settled_square", "null_of", "settled_clash", "support", "heap_in", "settled", "settle_row", "found_fault", "has_terms"]
def names5 : List PySem.Str := ["square_fault", "clash_fault", "row_fault", "_law_pen", "_law_draw", "_law_pick", "_law_gcd", "_law_f", "_law_add", "_law_mul", "_law_sum", "_law_trim", "_law_some_f", "_law_total", "_law_listed", "_law_ratio", "_law_complaint"]
def names : List PySem.Str := names0 ++ names1 ++ names2 ++ names3 ++ names4 ++ names5
def hook : PySem.W.Hook := DL.hookX sp fs fn tq
def ob (s : PySem.W.SharedT) : hook.α := DL.obsX sp fs fn tq (HandSHeadRun.getT s)
theorem run_false (w : World) : HandSHeadRun.RunEqI hRow hView hook ob 9000 names (w.withFollow "special-get-raises" false) := by
  unfold HandSHeadRun.RunEqI
  kernel_rfl
theorem run_true (w : World) : HandSHeadRun.RunEqI hRow hView hook ob 9000 names (w.withFollow "special-get-raises" true) := by
  unfold HandSHeadRun.RunEqI
  kernel_rfl
theorem run (w : World) : HandSHeadRun.RunEqI hRow hView hook ob 9000 names w := byRow2 "special-get-raises" (P := fun w => HandSHeadRun.RunEqI hRow hView hook ob 9000 names w) run_false run_true w
end K22
set_option Elab.async false
set_option linter.all false
set_option maxRecDepth 100000
namespace DL
open PySem PySem.Spec PyProof.Rows L2
-- obj c fs: an instance of the class number c, its attributes in their order; st: the object of the state
abbrev St := L2.St
/-- a value as a tree -/
inductive D where
  | non | bl (b : Bool) | int (i : Int) | str (x : Str)
  | tup (xs : List D) | lst (xs : List D) | obj (c : Nat) (fs : List D) | st
structure DC where
  K : PySem.W.Frag
  cls : Nat → Addr
  flds : Nat → List Str
  st : Option Addr
  T : List (Addr × Str)
mutual
def Rep (C : DC) (F : Hp) : D → V → Prop
  | .non, v => v = .non
  | .bl b, v => v = .bl b
  | .int i, v => v = .int i
  | .str x, v => v = .str x
  | .tup xs, v => ∃ a vs, v = .ref a ∧ SqT C.K F a vs ∧ Reps C F xs vs
  | .lst xs, v => ∃ a vs, v = .ref a ∧ SqL C.K F a vs ∧ Reps C F xs vs
  | .obj c fs, v => ∃ a dx vs, v = .ref a ∧ F a = some (.ins (C.cls c) dx ((C.flds c).zip vs)) ∧ vs.length = (C.flds c).length ∧ Reps C F fs vs
  | .st, v => ∃ a, C.st = some a ∧ v = .ref a
def Reps (C : DC) (F : Hp) : List D → List V → Prop
  | [], vs => vs = []
  | d :: ds, vs => ∃ v r, vs = v :: r ∧ Rep C F d v ∧ Reps C F ds r
end
theorem sqT_same {K : PySem.W.Frag} {H H' : Hp} {a : Addr} {xs : List V} (e : Same H H') (h : SqT K H a xs) : SqT K H' a xs := by
  rcases h with (h | ⟨o, h⟩) | h
  · exact .inl (.inl (e _ _ h))
  · exact .inl (.inr ⟨o, e _ _ h⟩)
  · exact .inr h
mutual
theorem Rep.mono {C : DC} {F F' : Hp} (e : Same F F') : ∀ {d : D} {v : V}, Rep C F d v → Rep C F' d v
  | .non, _, h => h
  | .bl _, _, h => h
  | .int _, _, h => h
  | .str _, _, h => h
  | .tup _, _, ⟨a, vs, h1, h2, h3⟩ => ⟨a, vs, h1, sqT_same e h2, Reps.mono e h3⟩
  | .lst _, _, ⟨a, vs, h1, h2, h3⟩ => ⟨a, vs, h1, e.seq h2, Reps.mono e h3⟩
  | .obj _ _, _, ⟨a, dx, vs, h1, h2, hl, h3⟩ => ⟨a, dx, vs, h1, e _ _ h2, hl, Reps.mono e h3⟩
  | .st, _, h => h
theorem Reps.mono {C : DC} {F F' : Hp} (e : Same F F') : ∀ {ds : List D} {vs : List V}, Reps C F ds vs → Reps C F' ds vs
  | [], _, h => h
  | _ :: _, _, ⟨v, r, h1, h2, h3⟩ => ⟨v, r, h1, Rep.mono e h2, Reps.mono e h3⟩
end
theorem Reps.length {C : DC} {F : Hp} : ∀ {ds : List D} {vs : List V}, Reps C F ds vs → vs.length = ds.length
  | [], _, h => by subst h; rfl
  | _ :: _, _, ⟨_, _, h1, _, h3⟩ => by subst h1; simp [Reps.length h3]
theorem Reps.get {C : DC} {F : Hp} : ∀ {ds : List D} {vs : List V} {i : Nat} {d : D}, Reps C F ds vs → ds[i]? = some d → ∃ v, vs[i]? = some v ∧ Rep C F d v
  | [], _, _, _, _, e => by simp at e
  | _ :: _, _, 0, _, ⟨v, r, h1, h2, h3⟩, e => by subst h1; simp at e; subst e; exact ⟨v, rfl, h2⟩
  | _ :: ds, _, i + 1, d, ⟨v, r, h1, h2, h3⟩, e => by
    subst h1
    obtain ⟨u, a, b⟩ := Reps.get (i := i) (d := d) h3 (by simpa using e)
    exact ⟨u, by simpa using a, b⟩
theorem Reps.getv {C : DC} {F : Hp} : ∀ {ds : List D} {vs : List V} {i : Nat} {v : V}, Reps C F ds vs → vs[i]? = some v → ∃ d, ds[i]? = some d ∧ Rep C F d v
  | [], _, _, _, h, e => by subst h; simp at e
  | _ :: _, _, 0, _, ⟨v, r, h1, h2, h3⟩, e => by subst h1; simp at e; subst e; exact ⟨_, rfl, h2⟩
  | _ :: ds, _, i + 1, d, ⟨v, r, h1, h2, h3⟩, e => by
    subst h1
    obtain ⟨u, a, b⟩ := Reps.getv (i := i) h3 (by simpa using e)
    exact ⟨u, by simpa using a, b⟩
theorem Reps.append {C : DC} {F : Hp} : ∀ {ds es : List D} {vs us : List V}, Reps C F ds vs → Reps C F es us → Reps C F (ds ++ es) (vs ++ us)
  | [], _, _, _, h, k => by subst h; exact k
  | _ :: _, _, _, _, ⟨v, r, h1, h2, h3⟩, k => by subst h1; exact ⟨v, r ++ _, rfl, h2, Reps.append h3 k⟩
theorem Reps.set {C : DC} {F : Hp} {d : D} {v : V} (h : Rep C F d v) : ∀ {ds : List D} {vs : List V} (i : Nat), Reps C F ds vs → Reps C F (ds.set i d) (vs.set i v)
  | [], _, _, h => by subst h; rfl
  | _ :: _, _, 0, ⟨v, r, h1, h2, h3⟩ => by subst h1; exact ⟨_, r, rfl, h, h3⟩
  | _ :: _, _, i + 1, ⟨v, r, h1, h2, h3⟩ => by subst h1; exact ⟨v, r.set i _, rfl, h2, Reps.set h i h3⟩
theorem Reps.drop {C : DC} {F : Hp} : ∀ {ds : List D} {vs : List V} (n : Nat), Reps C F ds vs → Reps C F (ds.drop n) (vs.drop n)
  | _, _, 0, h => h
  | [], _, _ + 1, h => by subst h; rfl
  | _ :: _, _, n + 1, ⟨v, r, h1, h2, h3⟩ => by subst h1; exact Reps.drop n h3
theorem Reps.take {C : DC} {F : Hp} : ∀ {ds : List D} {vs : List V} (n : Nat), Reps C F ds vs → Reps C F (ds.take n) (vs.take n)
  | _, _, 0, h => rfl
  | [], _, _ + 1, h => by subst h; rfl
  | _ :: _, _, n + 1, ⟨v, r, h1, h2, h3⟩ => by subst h1; exact ⟨v, r.take n, rfl, h2, Reps.take n h3⟩
theorem Reps.one {C : DC} {F : Hp} {d : D} {v : V} (h : Rep C F d v) : Reps C F [d] [v] := ⟨v, [], rfl, h, rfl⟩
theorem Reps.ints {C : DC} {F : Hp} : ∀ {ns : List Int} , Reps C F (ns.map D.int) (ns.map V.int)
  | [] => rfl
  | n :: r => ⟨.int n, _, rfl, rfl, Reps.ints⟩
theorem Reps.of_ints {C : DC} {F : Hp} : ∀ {ns : List Int} {vs : List V}, Reps C F (ns.map D.int) vs → vs = ns.map V.int
  | [], _, h => h
  | n :: r, _, ⟨v, w, h1, h2, h3⟩ => by subst h1; rw [show v = V.int n from h2, Reps.of_ints h3]; rfl
/-- what a def may write besides its own new objects -/
structure SI (S : Type) where
  ex : Addr → Prop
  inv : S → Hp → Hp → Prop
  mono : ∀ {s F H F' H'}, inv s F H → Same F F' → (∀ a, ex a → F' a = F a ∧ H' a = H a) → inv s F' H'
  kind : ∀ {s F H a}, inv s F H → ex a → ∃ kvs, H a = some (.dK kvs)
  free : ∀ {s F H a}, inv s F H → ex a → F a = none
theorem SI.there {S : Type} (I : SI S) {s : S} {F H : Hp} {a : Addr} (h : I.inv s F H) (e : I.ex a) : H a ≠ none := by
  obtain ⟨kvs, q⟩ := I.kind h e
  rw [q]; simp
def SI.pure : SI Unit := ⟨fun _ => False, fun _ _ _ => True, fun _ _ _ => trivial, fun _ h => h.elim, fun _ h => h.elim⟩
inductive Slot where
  | no | d (x : D) | own (xs : List D) | ins (c : Nat) (xs : List D) | exc (c : Nat) (xs : List D) | fn
/-- the object that a body is told of: the instance that is made; the exception that a suite holds, with its class and its dict; the function that a def was handed -/
abbrev Me := Option (Addr × Value × Option Addr)
abbrev Env := List Slot
def SlotOk (C : DC) (me : Me) (F H : Hp) (u : Option (Option V)) : Slot → Prop
  | .no => True
  | .d x => ∃ v, u = some (some v) ∧ Rep C F x v
  | .own xs => ∃ a vs, u = some (some (.ref a)) ∧ F a = none ∧ H a = some (.lst vs) ∧ Reps C F xs vs
  | .ins c xs => ∃ a dx vs, u = some (some (.ref a)) ∧ me = some (a, .none, none) ∧ F a = none ∧ H a = some (.ins (C.cls c) dx (((C.flds c).take xs.length).zip vs)) ∧ xs.length ≤ (C.flds c).length ∧ Reps C F xs vs
  | .exc c xs => ∃ a dd vs, u = some (some (.ref a)) ∧ me = some (a, .ref (C.cls c), some dd) ∧ F dd = some (.xd ((C.flds c).zip vs)) ∧ vs.length = (C.flds c).length ∧ Reps C F xs vs
  | .fn => ∃ a, u = some (some (.ref a)) ∧ me = some (a, .bool true, none)
def isOwn : Slot → Bool
  | .own _ => true
  | .ins _ _ => true
  | _ => false
/-- the slot i holds an object of its own at a -/
def OwnAt (env : Env) (σ : St) (i : Nat) (a : Addr) : Prop := ∃ x, env[i]? = some x ∧ isOwn x = true ∧ σ[i]? = some (some (.ref a))
/-- no table -/
def NoTbl (F : Hp) : Prop := ∀ a ps, F a ≠ some (.tbl ps)
/-- the entry of a def -/
structure En where
  F0 : Hp
  H0 : Hp
  ex : Addr → Prop
  me : Me := none
structure Stt {S : Type} (C : DC) (I : SI S) (B : En) (F H : Hp) (σ : St) (env : Env) (s : S) : Prop where
  sub : Same F H
  nt : NoTbl F
  inv : I.inv s F H
  len : env.length = σ.length
  sl : ∀ (i : Nat) x, env[i]? = some x → SlotOk C B.me F H σ[i]? x
  dj : ∀ i j a, i ≠ j → OwnAt env σ i a → OwnAt env σ j a → False
  ni : ∀ i a, OwnAt env σ i a → ¬ I.ex a
  fr : ∀ a o, B.H0 a = some o → ¬ B.ex a → (∀ ps, o ≠ .tbl ps) → H a = some o
  f0 : Same B.F0 F
  nw : ∀ a o, F a = some o → B.F0 a = none → B.H0 a = none
  tb : LamX.Tabs C.T H
  al : ∀ a, B.H0 a ≠ none → H a ≠ none
  ie : ∀ a, I.ex a → B.ex a
  oe : ∀ i a, OwnAt env σ i a → B.H0 a = none ∨ B.ex a
/-- the outcome of a mirrored piece -/
inductive R (α ε : Type) where
  | ok (a : α) | exc (c : Nat) (fs : List D) (e : ε) | bad
abbrev M (S : Type) (α : Type) := Env → S → R (α × S) S
inductive Out where
  | nx (e : Env) | rt (d : D) | bk (e : Env) | ct (e : Env)
abbrev MS (S : Type) := Env → S → R (Out × S) (Env × S)
/-- an exception of the class c with the fields fs -/
def ExR (C : DC) (F H : Hp) (c : Nat) (fs : List D) (cls : Value) (dd : Option Addr) : Prop :=
  cls = .ref (C.cls c) ∧ ((fs = [] ∧ dd = none) ∨ ∃ d vs, dd = some d ∧ F d = some (.xd ((C.flds c).zip vs)) ∧ vs.length = (C.flds c).length ∧ Reps C F fs vs)
section
variable {S : Type} {C : DC} {I : SI S} {B : En} {F H F' H' : Hp} {σ : St} {env : Env} {s : S}
theorem Stt.exfree (T : Stt C I B F H σ env s) {p : Addr} (hp : H p = none) : ¬ I.ex p := fun h => T.inv |> fun i => I.there i h hp
theorem Stt.h0 (T : Stt C I B F H σ env s) {p : Addr} (hp : H p = none) : B.H0 p = none := by
  cases q : B.H0 p with
  | none => rfl
  | some o => exact absurd hp (T.al p (by rw [q]; simp))
theorem Stt.ff (T : Stt C I B F H σ env s) {p : Addr} (hp : H p = none) : F p = none := T.sub.free hp
theorem Stt.own_there (T : Stt C I B F H σ env s) {i : Nat} {a : Addr} (h : OwnAt env σ i a) : F a = none ∧ H a ≠ none ∧ ∀ ps, H a ≠ some (.tbl ps) := by
  obtain ⟨x, e1, e2, e3⟩ := h
  have q := T.sl i x e1
  rw [e3] at q
  cases x with
  | no => cases e2
  | d _ => cases e2
  | exc _ _ => cases e2
  | fn => cases e2
  | own xs =>
    obtain ⟨b, vs, h1, h2, h3, _⟩ := q
    cases h1
    exact ⟨h2, by rw [h3]; simp, fun ps => by rw [h3]; simp⟩
  | ins c xs =>
    obtain ⟨b, dx, vs, h1, _, h2, h3, _⟩ := q
    cases h1
    exact ⟨h2, by rw [h3]; simp, fun ps => by rw [h3]; simp⟩
theorem same_upd {p : Addr} {o : HO} (h : H p = none) : Same H (upd H p o) := fun a u e => by rw [upd_ne (ne_of_none e h)]; exact e
theorem noTbl_upd {p : Addr} {o : HO} (h : NoTbl F) (ho : ∀ ps, o ≠ .tbl ps) : NoTbl (upd F p o) := fun a ps => by
  by_cases e : a = p
  · subst e; rw [upd_same]; intro z; exact ho ps (Option.some.inj z)
  · rw [upd_ne e]; exact h a ps
theorem SlotOk.keep {me : Me} {u : Option (Option V)} {x : Slot} (h : SlotOk C me F H u x) (e : Same F F') (k : ∀ a, u = some (some (.ref a)) → isOwn x = true → F' a = none ∧ H' a = H a) : SlotOk C me F' H' u x := by
  cases x with
  | no => trivial
  | d x => obtain ⟨v, h1, h2⟩ := h; exact ⟨v, h1, h2.mono e⟩
  | own xs =>
    obtain ⟨a, vs, h1, h2, h3, h4⟩ := h
    obtain ⟨k1, k2⟩ := k a h1 rfl
    exact ⟨a, vs, h1, k1, k2.trans h3, h4.mono e⟩
  | ins c xs =>
    obtain ⟨a, dx, vs, h1, hm, h2, h3, hl, h4⟩ := h
    obtain ⟨k1, k2⟩ := k a h1 rfl
    exact ⟨a, dx, vs, h1, hm, k1, k2.trans h3, hl, h4.mono e⟩
  | exc c xs =>
    obtain ⟨a, dd, vs, h1, hm, h2, hl, h4⟩ := h
    exact ⟨a, dd, vs, h1, hm, e _ _ h2, hl, h4.mono e⟩
  | fn => exact h
theorem tabs_upd {T : List (Addr × Str)} {p : Addr} {o : HO} (h : LamX.Tabs T H) (hp : H p = none) : LamX.Tabs T (upd H p o) := h.ext (same_upd hp)
/-- a new object, frozen at once -/
theorem Stt.new (T : Stt C I B F H σ env s) {p : Addr} {o : HO} (hp : H p = none) (ho : ∀ ps, o ≠ .tbl ps) : Stt C I B (upd F p o) (upd H p o) σ env s where
  sub := fun a u e => by
    by_cases z : a = p
    · subst z; rw [upd_same] at e ⊢; exact e
    · rw [upd_ne z] at e ⊢; exact T.sub a u e
  nt := noTbl_upd T.nt ho
  inv := I.mono T.inv (same_upd (T.ff hp)) fun a ha => by
    have ne : a ≠ p := fun z => by subst z; exact T.exfree hp ha
    exact ⟨upd_ne ne, upd_ne ne⟩
  len := T.len
  sl := fun i x e => (T.sl i x e).keep (same_upd (T.ff hp)) fun a h1 h2 => by
    obtain ⟨k1, k2, _⟩ := T.own_there ⟨x, e, h2, h1⟩
    have z : a ≠ p := fun z => by subst z; exact k2 hp
    rw [upd_ne z, upd_ne z]; exact ⟨k1, rfl⟩
  dj := T.dj
  ni := T.ni
  fr := fun a u e n1 n2 => by rw [upd_ne (fun z => by subst z; rw [T.h0 hp] at e; cases e)]; exact T.fr a u e n1 n2
  f0 := T.f0.trans (same_upd (T.ff hp))
  nw := fun a u e n => by
    by_cases z : a = p
    · subst z; exact T.h0 hp
    · rw [upd_ne z] at e; exact T.nw a u e n
  tb := tabs_upd T.tb hp
  al := fun a n => by
    by_cases z : a = p
    · subst z; rw [upd_same]; simp
    · rw [upd_ne z]; exact T.al a n
  ie := T.ie
  oe := T.oe
/-- a new object that may still be written -/
theorem Stt.newM (T : Stt C I B F H σ env s) {p : Addr} {o : HO} (hp : H p = none) : Stt C I B F (upd H p o) σ env s where
  sub := T.sub.trans (same_upd hp)
  nt := T.nt
  inv := I.mono T.inv (Same.refl _) fun a ha => ⟨rfl, upd_ne fun z => by subst z; exact T.exfree hp ha⟩
  len := T.len
  sl := fun i x e => (T.sl i x e).keep (Same.refl _) fun a h1 h2 => by
    obtain ⟨k1, k2, _⟩ := T.own_there ⟨x, e, h2, h1⟩
    have z : a ≠ p := fun z => by subst z; exact k2 hp
    rw [upd_ne z]; exact ⟨k1, rfl⟩
  dj := T.dj
  ni := T.ni
  fr := fun a u e n1 n2 => by rw [upd_ne (fun z => by subst z; rw [T.h0 hp] at e; cases e)]; exact T.fr a u e n1 n2
  f0 := T.f0
  nw := T.nw
  tb := tabs_upd T.tb hp
  al := fun a n => by
    by_cases z : a = p
    · subst z; rw [upd_same]; simp
    · rw [upd_ne z]; exact T.al a n
  ie := T.ie
  oe := T.oe
theorem ownAt_set {env : Env} {σ : St} {i j : Nat} {x : Slot} {v : Option V} {a : Addr} (hl : env.length = σ.length) (h : OwnAt (env.set i x) (σ.set i v) j a) : (j = i ∧ isOwn x = true ∧ v = some (.ref a)) ∨ (j ≠ i ∧ OwnAt env σ j a) := by
  obtain ⟨y, e1, e2, e3⟩ := h
  by_cases z : j = i
  · subst z
    have h1 : j < env.length := by
      have := (List.getElem?_eq_some_iff.mp e1).1
      simpa using this
    rw [List.getElem?_set_self h1] at e1
    rw [List.getElem?_set_self (by omega)] at e3
    cases e1
    exact .inl ⟨rfl, e2, Option.some.inj e3⟩
  · rw [List.getElem?_set_ne (Ne.symm z)] at e1 e3
    exact .inr ⟨z, y, e1, e2, e3⟩
/-- a name is bound to a tree -/
theorem Stt.setD (T : Stt C I B F H σ env s) {i : Nat} {d : D} {v : V} (h : Rep C F d v) : Stt C I B F H (σ.set i (some v)) (env.set i (.d d)) s where
  sub := T.sub
  nt := T.nt
  inv := T.inv
  len := by rw [List.length_set, List.length_set]; exact T.len
  sl := fun j x e => by
    by_cases z : j = i
    · subst z
      have h1 : j < env.length := by
        have := (List.getElem?_eq_some_iff.mp e).1
        simpa using this
      rw [List.getElem?_set_self h1] at e
      cases e
      have h2 : j < σ.length := by rw [← T.len]; exact h1
      rw [List.getElem?_set_self h2]
      exact ⟨v, rfl, h⟩
    · rw [List.getElem?_set_ne (Ne.symm z)] at e ⊢
      exact T.sl j x e
  dj := fun j k a n h1 h2 => by
    rcases ownAt_set T.len h1 with ⟨_, z, _⟩ | ⟨_, h1⟩
    · cases z
    rcases ownAt_set T.len h2 with ⟨_, z, _⟩ | ⟨_, h2⟩
    · cases z
    exact T.dj j k a n h1 h2
  ni := fun j a h1 => by
    rcases ownAt_set T.len h1 with ⟨_, z, _⟩ | ⟨_, h1⟩
    · cases z
    exact T.ni j a h1
  fr := T.fr
  f0 := T.f0
  nw := T.nw
  tb := T.tb
  al := T.al
  ie := T.ie
  oe := fun j a h1 => by
    rcases ownAt_set T.len h1 with ⟨_, z, _⟩ | ⟨_, h1⟩
    · cases z
    exact T.oe j a h1
/-- all slots forgotten -/
theorem Stt.drop (T : Stt C I B F H σ env s) : Stt C I B F H [] [] s where
  sub := T.sub
  nt := T.nt
  inv := T.inv
  len := rfl
  sl := fun i x e => by simp at e
  dj := fun i j a _ h => by obtain ⟨x, e, _⟩ := h; simp at e
  ni := fun i a h => by obtain ⟨x, e, _⟩ := h; simp at e
  fr := T.fr
  f0 := T.f0
  nw := T.nw
  tb := T.tb
  al := T.al
  ie := T.ie
  oe := fun i a h => by obtain ⟨x, e, _⟩ := h; simp at e
end
end DL
set_option Elab.async false
set_option linter.all false
set_option maxRecDepth 100000
namespace DL
open PySem PySem.Spec PyProof.Rows L2
structure Ct (S : Type) where
  C : DC
  I : SI S
  B : En
  W : WX
/-- what follows from an outcome -/
def Fin {S α : Type} (c : Ct S) (F : Hp) (σ : St) (env : Env) (r : R (α × S) S) (Q : α → S → Hp → Hp → Prop) : Prop :=
  match r with
  | .ok (a, s') => ∀ F' H', Same F F' → Stt c.C c.I c.B F' H' σ env s' → Q a s' F' H'
  | .exc k fs s' => ∀ cls dd F' H', Same F F' → Stt c.C c.I c.B F' H' σ env s' → ExR c.C F' H' k fs cls dd → c.W cls dd σ H'
  | .bad => False
def bindM {S α β : Type} (m : M S α) (f : α → M S β) : M S β := fun env s => match m env s with
  | .ok (a, s') => f a env s'
  | .exc k fs s' => .exc k fs s'
  | .bad => .bad
def retM {S α : Type} (a : α) : M S α := fun _ s => .ok (a, s)
def optM {S α : Type} (o : Option α) : M S α := fun _ s => match o with | some a => .ok (a, s) | none => .bad
section
variable {S α β : Type} {c : Ct S} {F F1 H : Hp} {σ : St} {env : Env} {s : S}
theorem Fin.same {r : R (α × S) S} {Q : α → S → Hp → Hp → Prop} (h : Fin c F σ env r Q) (e : Same F F1) : Fin c F1 σ env r Q := by
  cases r with
  | ok a => exact fun F' H' x => h F' H' (e.trans x)
  | exc k fs s' => exact fun cls dd F' H' x => h cls dd F' H' (e.trans x)
  | bad => exact h
theorem Fin.imp {r : R (α × S) S} {Q Q' : α → S → Hp → Hp → Prop} (h : Fin c F σ env r Q) (k : ∀ a s' F' H', Same F F' → Stt c.C c.I c.B F' H' σ env s' → Q a s' F' H' → Q' a s' F' H') : Fin c F σ env r Q' := by
  cases r with
  | ok a => exact fun F' H' x t => k _ _ _ _ x t (h F' H' x t)
  | exc k fs s' => exact h
  | bad => exact h
theorem Fin.bind {m : M S α} {f : α → M S β} {Q : β → S → Hp → Hp → Prop} (h : Fin c F σ env (bindM m f env s) Q) :
    Fin c F σ env (m env s) fun a s1 F1 _ => Fin c F1 σ env (f a env s1) Q := by
  unfold bindM at h
  cases e : m env s with
  | ok a =>
    rw [e] at h
    exact fun F' H' x _ => Fin.same h x
  | exc k fs s' =>
    rw [e] at h
    exact h
  | bad =>
    rw [e] at h
    exact h
theorem Fin.opt {o : Option α} {Q : α → S → Hp → Hp → Prop} (h : Fin c F σ env (optM o env s) Q) (T : Stt c.C c.I c.B F H σ env s) : ∃ a, o = some a ∧ ∀ F' H', Same F F' → Stt c.C c.I c.B F' H' σ env s → Q a s F' H' := by
  cases o with
  | none => exact h.elim
  | some a => exact ⟨a, rfl, h⟩
end
/-- the readings of mirrored pieces -/
def tM {S : Type} (c : Ct S) (m : M S D) : TE := fun σ H Q => ∃ F env s, Stt c.C c.I c.B F H σ env s ∧ Fin c F σ env (m env s) fun d _ F' H' => ∀ v, Rep c.C F' d v → Q v H'
def tT {S : Type} (c : Ct S) (m : M S Bool) : TT := fun σ H Q => ∃ F env s, Stt c.C c.I c.B F H σ env s ∧ Fin c F σ env (m env s) fun b _ _ H' => Q b H'
def tA {S : Type} (c : Ct S) (m : M S (List D)) : TA := fun σ H Q => ∃ F env s, Stt c.C c.I c.B F H σ env s ∧ Fin c F σ env (m env s) fun ds _ F' H' => ∀ vs, Reps c.C F' ds vs → Q vs H'
theorem PEimp {X : Cx} {e : Expr} {t t' : TE} (h : PE X e t) (k : ∀ σ H Q, t' σ H Q → t σ H Q) : PE X e t' := ⟨fun pins s σ H Q I q => h.run pins s σ H Q I (k σ H Q q)⟩
theorem PTimp {X : Cx} {e : Expr} {t t' : TT} (h : PT X e t) (k : ∀ σ H Q, t' σ H Q → t σ H Q) : PT X e t' := ⟨fun pins s σ H Q I q => h.run pins s σ H Q I (k σ H Q q)⟩
theorem PWimp {X : Cx} {e : Expr} {t t' : TT} (h : PW X e t) (k : ∀ σ H Q, t' σ H Q → t σ H Q) : PW X e t' := ⟨fun w pins s σ H Q I q => h.run w pins s σ H Q I (k σ H Q q)⟩
theorem PAimp {X : Cx} {e : List Expr} {t t' : TA} (h : PA X e t) (k : ∀ σ H Q, t' σ H Q → t σ H Q) : PA X e t' := ⟨fun pos pins s σ H Q I q => h.run pos pins s σ H Q I (k σ H Q q)⟩
section
variable {S : Type} {c : Ct S} {X : Cx} {a b e o : Expr} {es : List Expr} {pos : Pos} {ma mb : M S D} {m : M S D} {ms : M S (List D)}
/-- one part, then another -/
theorem tM_bind {σ : St} {H : Hp} {f : D → M S D} {Q : VK} {g : V → Hp → Prop} (h : tM c (bindM ma f) σ H Q)
    (k : ∀ d s1 F1 H1 v env, Stt c.C c.I c.B F1 H1 σ env s1 → Rep c.C F1 d v → Fin c F1 σ env (f d env s1) (fun d _ F' H' => ∀ v, Rep c.C F' d v → Q v H') → g v H1) : tM c ma σ H g := by
  obtain ⟨F, env, s, T, h⟩ := h
  exact ⟨F, env, s, T, h.bind.imp fun d s1 F1 H1 x T1 q v rv => k d s1 F1 H1 v env T1 rv q⟩
def mVar (i : Nat) : M S D := fun env s => match env[i]? with | some (.d x) => .ok (x, s) | _ => .bad
theorem d_var (i : Nat) {x : Str} (hN : X.N[i]? = some x := by rfl) (hv : Vis X.env.scope x := by first | exact Or.inl rfl | exact Or.inr (Or.inl rfl) | exact Or.inr (Or.inr rfl)) (hd : (x == ("__debug__" : Str)) = false := by decide)
    (hcd : (x == ("__classdict__" : Str)) = false := by decide) : PE X (.Name x pos) (tM c (mVar i)) := by
  refine PEimp (pe_var hN hv hd hcd) fun σ H Q h => ?_
  obtain ⟨F, env, s, T, h⟩ := h
  unfold mVar at h
  cases q : env[i]? with
  | none => rw [q] at h; exact h.elim
  | some y =>
    rw [q] at h
    cases y with
    | d x =>
      obtain ⟨v, h1, h2⟩ := T.sl i _ q
      exact ⟨v, h1, h F H (Same.refl _) T v h2⟩
    | no => exact h.elim
    | own _ => exact h.elim
    | exc _ _ => exact h.elim
    | fn => exact h.elim
    | ins _ _ => exact h.elim
/-- a value that needs no heap -/
theorem d_const {v : V} {d : D} (hp : PE X e (tC v)) (hr : ∀ F, Rep c.C F d v) : PE X e (tM c (retM d)) := by
  refine PEimp hp fun σ H Q h => ?_
  obtain ⟨F, env, s, T, h⟩ := h
  exact h F H (Same.refl _) T v (hr F)
theorem d_int {i : Int} {j : Nat} : PE X (.Constant (.int i) j pos) (tM c (retM (.int i))) := d_const pe_int fun _ => rfl
theorem d_bl {i : Bool} {j : Nat} : PE X (.Constant (.bool i) j pos) (tM c (retM (.bl i))) := d_const pe_bl fun _ => rfl
theorem d_non {j : Nat} : PE X (.Constant .none j pos) (tM c (retM .non)) := d_const pe_non fun _ => rfl
theorem d_str {x : Str} {j : Nat} : PE X (.Constant (.str x) j pos) (tM c (retM (.str x))) := d_const pe_str fun _ => rfl
theorem d_globS {x y : Str} {t : Tok} (hm : X.mg x = some (.str y t)) (hg : Gl X x := by rfl) (hd : (x == ("__debug__" : Str)) = false := by decide) : PE X (.Name x pos) (tM c (retM (.str y))) := d_const (pe_glob (v := .str y) hg hm ⟨t, rfl⟩ hd) fun _ => rfl
theorem d_globI {x : Str} {y : Int} {t : Tok} (hm : X.mg x = some (.int y t)) (hg : Gl X x := by rfl) (hd : (x == ("__debug__" : Str)) = false := by decide) : PE X (.Name x pos) (tM c (retM (.int y))) := d_const (pe_glob (v := .int y) hg hm ⟨t, rfl⟩ hd) fun _ => rfl
/-- a rule on two values serves a mirrored operation -/
def Op2 (c : Ct S) (r : R2) (f : D → D → Option D) : Prop := ∀ σ F H env s x y dx dy d Q, Stt c.C c.I c.B F H σ env s → Rep c.C F dx x → Rep c.C F dy y → f dx dy = some d →
  (∀ F' H' v, Same F F' → Stt c.C c.I c.B F' H' σ env s → Rep c.C F' d v → Q v H') → r x y H Q
def m2 (f : D → D → Option D) (ma mb : M S D) : M S D := bindM ma fun x => bindM mb fun y => optM (f x y)
theorem tM_op2 {r : R2} {f : D → D → Option D} (h2 : Op2 c r f) {σ : St} {H : Hp} {Q : VK} (h : tM c (m2 f ma mb) σ H Q) : tOp r (tM c ma) (tM c mb) σ H Q := by
  refine tM_bind h fun dx s1 F1 H1 x env T1 rx q => ?_
  refine ⟨F1, env, s1, T1, q.bind.imp fun dy s2 F2 H2 e2 T2 q2 y ry => ?_⟩
  obtain ⟨d, e, q3⟩ := q2.opt T2
  exact h2 σ F2 H2 env s2 x y dx dy d Q T2 (rx.mono e2) ry e fun F' H' v e' T' rv => q3 F' H' e' T' v rv
theorem d_op {op : Operator} {r : R2} {f : D → D → Option D} (ho : OpR X (binaryOp op) r) (h2 : Op2 c r f) (ha : PE X a (tM c ma)) (hb : PE X b (tM c mb)) : PE X (.BinOp a op b pos) (tM c (m2 f ma mb)) :=
  PEimp (pe_op ho ha hb) fun σ H Q h => tM_op2 h2 h
theorem d_cmp {op : CmpOp} {r : R2} {f : D → D → Option D} (ho : OpR X (compareOp op) r) (h2 : Op2 c r f) (ha : PE X a (tM c ma)) (hb : PE X b (tM c mb)) (hm : behindInMarks op b = false) : PE X (.Compare a [op] [b] pos) (tM c (m2 f ma mb)) :=
  PEimp (pe_cmpR ho ha hb hm) fun σ H Q h => tM_op2 h2 h
/-- either rule -/
theorem Op2.or {r r' : R2} {f g : D → D → Option D} (h : Op2 c r f) (h' : Op2 c r' g) : Op2 c (fun x y H Q => r x y H Q ∨ r' x y H Q) (fun x y => match f x y with | some d => some d | none => g x y) := by
  intro σ F H env s x y dx dy d Q T rx ry e k
  cases q : f dx dy with
  | some d' =>
    simp only [q] at e
    cases e
    exact .inl (h σ F H env s x y dx dy d Q T rx ry q k)
  | none =>
    simp only [q] at e
    exact .inr (h' σ F H env s x y dx dy d Q T rx ry e k)
/-- a result that needs no heap -/
theorem Op2.flat {r : R2} {f : D → D → Option D} (k : ∀ F x y dx dy d, Rep c.C F dx x → Rep c.C F dy y → f dx dy = some d → ∃ v, (∀ F', Rep c.C F' d v) ∧ ∀ H Q, Q v H → r x y H Q) : Op2 c r f := by
  intro σ F H env s x y dx dy d Q T rx ry e q
  obtain ⟨v, h1, h2⟩ := k F x y dx dy d rx ry e
  exact h2 H Q (q F H v (Same.refl _) T (h1 F))
def mulOk (i j : Int) : Prop := i.natAbs.log2 + j.natAbs.log2 < 134000000
instance (i j : Int) : Decidable (mulOk i j) := by unfold mulOk; infer_instance
theorem mulOk.ok {i j : Int} (h : mulOk i j) : IntMulOk i j := by
  have b : ∀ x : Int, Builtin.Int.intBits x ≤ x.natAbs.log2 + 1 := fun x => by
    unfold Builtin.Int.intBits
    split <;> omega
  have h1 := b i
  have h2 := b j
  have h3 : i.natAbs.log2 + j.natAbs.log2 < 134000000 := h
  have e : bitsLine = 134217728 := by decide
  unfold IntMulOk
  intro z
  have z2 := (Bool.and_eq_true_iff.mp z).2
  have z3 := z2
  unfold Builtin.Int.intTooBig at z3
  have z4 := of_decide_eq_true z3
  rw [e] at z4
  omega
def addD : D → D → Option D
  | .int i, .int j => some (.int (i + j))
  | .str x, .str y => if x.length + y.length ≤ sizeLine then some (.str (x ++ y)) else none
  | _, _ => none
def subD : D → D → Option D
  | .int i, .int j => some (.int (i - j))
  | .bl p, .bl q => some (.int (b2i p - b2i q))
  | _, _ => none
def mulD : D → D → Option D
  | .int i, .int j => if mulOk i j then some (.int (i * j)) else none
  | _, _ => none
def fdivD : D → D → Option D
  | .int i, .int j => if j ≠ 0 ∧ j.natAbs.log2 < 9000 then some (.int (i.fdiv j)) else none
  | _, _ => none
def modD : D → D → Option D
  | .int i, .int j => if j ≠ 0 then some (.int (i.fmod j)) else none
  | _, _ => none
def powD : D → D → Option D
  | .int i, .int j => if 0 ≤ j ∧ j ≤ 1000000 ∧ i.natAbs < 2 ^ 64 then some (.int (i ^ j.toNat)) else none
  | _, _ => none
theorem rep_int {C : DC} {F : Hp} {i : Int} {v : V} (h : Rep C F (.int i) v) : v = .int i := h
theorem rep_str {C : DC} {F : Hp} {i : Str} {v : V} (h : Rep C F (.str i) v) : v = .str i := h
theorem rep_bl {C : DC} {F : Hp} {i : Bool} {v : V} (h : Rep C F (.bl i) v) : v = .bl i := h
theorem rep_non {C : DC} {F : Hp} {v : V} (h : Rep C F .non v) : v = .non := h
theorem op_subB : OpR X (binaryOp .Sub) (fun x y H Q => ∃ p q, x = .bl p ∧ y = .bl q ∧ Q (.int (b2i p - b2i q)) H) := by
  intro pins s σ H x y v u Q I rx ry h
  obtain ⟨p, q, rfl, rfl, h⟩ := h
  cases rx
  cases ry
  exact sub_bool ⟨.int (b2i p - b2i q), H, I.tok _, ⟨_, rfl⟩, h⟩
theorem op_mulM : OpR X (binaryOp .Mult) (rI mulOk fun i j => .int (i * j)) := opI fun _ _ _ _ _ _ _ hc q => mul_int q hc.ok
theorem op_fdivM : OpR X (binaryOp .FloorDiv) (rI (fun _ j => j ≠ 0 ∧ j.natAbs.log2 < 9000) fun i j => .int (i.fdiv j)) := opI fun _ _ _ _ _ _ _ hc q => floordiv_int hc.1 q (.inl (PyProof.noPylong_of_log2 hc.2))
theorem d_add (ha : PE X a (tM c ma)) (hb : PE X b (tM c mb)) : PE X (.BinOp a .Add b pos) (tM c (m2 addD ma mb)) := by
  refine d_op (op_add.or op_add_str) (Op2.flat fun F x y dx dy d rx ry e => ?_) ha hb
  unfold addD at e
  split at e
  · cases e; cases rep_int rx; cases rep_int ry
    exact ⟨_, fun _ => rfl, fun H Q q => .inl ⟨_, _, rfl, rfl, q⟩⟩
  · split at e
    · rename_i hl
      cases e; cases rep_str rx; cases rep_str ry
      exact ⟨_, fun _ => rfl, fun H Q q => .inr ⟨_, _, rfl, rfl, hl, q⟩⟩
    · cases e
  · cases e
theorem d_sub (ha : PE X a (tM c ma)) (hb : PE X b (tM c mb)) : PE X (.BinOp a .Sub b pos) (tM c (m2 subD ma mb)) := by
  refine d_op (op_sub.or op_subB) (Op2.flat fun F x y dx dy d rx ry e => ?_) ha hb
  unfold subD at e
  split at e
  · cases e; cases rep_int rx; cases rep_int ry
    exact ⟨_, fun _ => rfl, fun H Q q => .inl ⟨_, _, rfl, rfl, q⟩⟩
  · cases e; cases rep_bl rx; cases rep_bl ry
    exact ⟨_, fun _ => rfl, fun H Q q => .inr ⟨_, _, rfl, rfl, q⟩⟩
  · cases e
theorem d_mul (ha : PE X a (tM c ma)) (hb : PE X b (tM c mb)) : PE X (.BinOp a .Mult b pos) (tM c (m2 mulD ma mb)) := by
  refine d_op op_mulM (Op2.flat fun F x y dx dy d rx ry e => ?_) ha hb
  unfold mulD at e
  split at e
  · split at e
    · rename_i hl
      cases e; cases rep_int rx; cases rep_int ry
      exact ⟨_, fun _ => rfl, fun H Q q => ⟨_, _, rfl, rfl, hl, q⟩⟩
    · cases e
  · cases e
theorem d_fdiv (ha : PE X a (tM c ma)) (hb : PE X b (tM c mb)) : PE X (.BinOp a .FloorDiv b pos) (tM c (m2 fdivD ma mb)) := by
  refine d_op op_fdivM (Op2.flat fun F x y dx dy d rx ry e => ?_) ha hb
  unfold fdivD at e
  split at e
  · split at e
    · rename_i hl
      cases e; cases rep_int rx; cases rep_int ry
      exact ⟨_, fun _ => rfl, fun H Q q => ⟨_, _, rfl, rfl, hl, q⟩⟩
    · cases e
  · cases e
theorem d_mod (ha : PE X a (tM c ma)) (hb : PE X b (tM c mb)) : PE X (.BinOp a .Mod b pos) (tM c (m2 modD ma mb)) := by
  refine d_op op_modN (Op2.flat fun F x y dx dy d rx ry e => ?_) ha hb
  unfold modD at e
  split at e
  · split at e
    · rename_i hl
      cases e; cases rep_int rx; cases rep_int ry
      exact ⟨_, fun _ => rfl, fun H Q q => ⟨_, _, rfl, rfl, hl, q⟩⟩
    · cases e
  · cases e
theorem d_pow (ha : PE X a (tM c ma)) (hb : PE X b (tM c mb)) : PE X (.BinOp a .Pow b pos) (tM c (m2 powD ma mb)) := by
  refine d_op op_pow (Op2.flat fun F x y dx dy d rx ry e => ?_) ha hb
  unfold powD at e
  split at e
  · split at e
    · rename_i hl
      cases e; cases rep_int rx; cases rep_int ry
      exact ⟨_, fun _ => rfl, fun H Q q => ⟨_, _, rfl, rfl, hl, q⟩⟩
    · cases e
  · cases e
/-- one part -/
def m1 (f : D → Option D) (ma : M S D) : M S D := bindM ma fun x => optM (f x)
theorem tM_un {r : V → Hp → VK → Prop} {f : D → Option D} (k : ∀ F x dx d, Rep c.C F dx x → f dx = some d → ∃ v, (∀ F', Rep c.C F' d v) ∧ ∀ H Q, Q v H → r x H Q) {σ : St} {H : Hp} {Q : VK} (h : tM c (m1 f ma) σ H Q) : tM c ma σ H fun x H1 => r x H1 Q := by
  refine tM_bind h fun dx s1 F1 H1 x env T1 rx q => ?_
  obtain ⟨d, e, q⟩ := q.opt T1
  obtain ⟨v, h1, h2⟩ := k F1 x dx d rx e
  exact h2 H1 Q (q F1 H1 (Same.refl _) T1 v (h1 F1))
def negD : D → Option D
  | .int i => some (.int (-i))
  | _ => none
theorem d_neg (ha : PE X a (tM c ma)) : PE X (.UnaryOp .USub a pos) (tM c (m1 negD ma)) := by
  refine PEimp (pe_un un_neg ha) fun σ H Q h => tM_un (r := rU fun i => .int (-i)) (fun F x dx d rx e => ?_) h
  unfold negD at e
  split at e
  · cases e; cases rep_int rx
    exact ⟨_, fun _ => rfl, fun H Q q => ⟨_, rfl, q⟩⟩
  · cases e
def ltD : D → D → Option D
  | .int i, .int j => some (.bl (decide (i < j)))
  | _, _ => none
def leD : D → D → Option D
  | .int i, .int j => some (.bl (decide (i ≤ j)))
  | _, _ => none
def gtD : D → D → Option D
  | .int i, .int j => some (.bl (decide (j < i)))
  | _, _ => none
def geD : D → D → Option D
  | .int i, .int j => some (.bl (decide (j ≤ i)))
  | _, _ => none
theorem cmp_int {op : CmpOp} {p : Int → Int → Bool} {f : D → D → Option D} (ho : ∀ {ta tb : TE}, PE X a ta → PE X b tb → PC X op a b (tCmp p ta tb)) (hf : ∀ x y d, f x y = some d → ∃ i j, x = .int i ∧ y = .int j ∧ d = .bl (p i j))
    (ha : PE X a (tM c ma)) (hb : PE X b (tM c mb)) (hm : behindInMarks op b = false) : PE X (.Compare a [op] [b] pos) (tM c (m2 f ma mb)) := by
  refine PEimp (pe_cmp (ho ha hb) hm) fun σ H Q h => ?_
  refine tM_op2 (r := fun x y H Q => ∃ i j, x = .int i ∧ y = .int j ∧ Q (.bl (p i j)) H) (Op2.flat fun F x y dx dy d rx ry e => ?_) h
  obtain ⟨i, j, e1, e2, e3⟩ := hf dx dy d e
  subst e1; subst e2; subst e3
  cases rep_int rx; cases rep_int ry
  exact ⟨_, fun _ => rfl, fun H Q q => ⟨_, _, rfl, rfl, q⟩⟩
theorem d_lt (ha : PE X a (tM c ma)) (hb : PE X b (tM c mb)) : PE X (.Compare a [.Lt] [b] pos) (tM c (m2 ltD ma mb)) :=
  cmp_int pc_lt (fun x y d e => by unfold ltD at e; split at e <;> first | (cases e; exact ⟨_, _, rfl, rfl, rfl⟩) | cases e) ha hb (nomark _)
theorem d_le (ha : PE X a (tM c ma)) (hb : PE X b (tM c mb)) : PE X (.Compare a [.LtE] [b] pos) (tM c (m2 leD ma mb)) :=
  cmp_int pc_le (fun x y d e => by unfold leD at e; split at e <;> first | (cases e; exact ⟨_, _, rfl, rfl, rfl⟩) | cases e) ha hb (nomark _)
theorem d_gt (ha : PE X a (tM c ma)) (hb : PE X b (tM c mb)) : PE X (.Compare a [.Gt] [b] pos) (tM c (m2 gtD ma mb)) :=
  cmp_int pc_gt (fun x y d e => by unfold gtD at e; split at e <;> first | (cases e; exact ⟨_, _, rfl, rfl, rfl⟩) | cases e) ha hb (nomark _)
theorem d_ge (ha : PE X a (tM c ma)) (hb : PE X b (tM c mb)) : PE X (.Compare a [.GtE] [b] pos) (tM c (m2 geD ma mb)) :=
  cmp_int pc_ge (fun x y d e => by unfold geD at e; split at e <;> first | (cases e; exact ⟨_, _, rfl, rfl, rfl⟩) | cases e) ha hb (nomark _)
/-- is None -/
def isNon : D → Bool
  | .non => true
  | _ => false
theorem rep_isNon {C : DC} {F : Hp} {d : D} {v : V} (h : Rep C F d v) : decide (v = .non) = isNon d := by
  cases d with
  | non => cases rep_non h; rfl
  | bl _ => cases rep_bl h; rfl
  | int _ => cases rep_int h; rfl
  | str _ => cases rep_str h; rfl
  | tup _ => obtain ⟨a, vs, e, _⟩ := h; subst e; rfl
  | lst _ => obtain ⟨a, vs, e, _⟩ := h; subst e; rfl
  | obj _ _ => obtain ⟨a, dx, vs, e, _⟩ := h; subst e; rfl
  | st => obtain ⟨a, _, e⟩ := h; subst e; rfl
theorem d_isN {j : Nat} {p : Pos} (ha : PE X a (tM c ma)) : PE X (.Compare a [.Is] [.Constant .none j p] pos) (tM c (m1 (fun x => some (.bl (isNon x))) ma)) := by
  refine PEimp (pe_cmp (pc_isN ha)) fun σ H Q h => tM_un (r := fun x H Q => Q (.bl (decide (x = .non))) H) (fun F x dx d rx e => ?_) h
  cases e
  exact ⟨_, fun _ => rfl, fun H Q q => by rw [rep_isNon rx]; exact q⟩
theorem d_notN {j : Nat} {p : Pos} (ha : PE X a (tM c ma)) : PE X (.Compare a [.IsNot] [.Constant .none j p] pos) (tM c (m1 (fun x => some (.bl (!isNon x))) ma)) := by
  refine PEimp (pe_cmp (pc_notN ha)) fun σ H Q h => tM_un (r := fun x H Q => Q (.bl (!decide (x = .non))) H) (fun F x dx d rx e => ?_) h
  cases e
  exact ⟨_, fun _ => rfl, fun H Q q => by rw [rep_isNon rx]; exact q⟩
mutual
def toPy : D → Option PyData
  | .non => some .none
  | .bl b => some (.bool b)
  | .int i => some (.int i)
  | .str x => if PyData.strOk x then some (.str x) else none
  | .tup xs => (toPys xs).map .tuple
  | .lst xs => (toPys xs).map .list
  | .obj _ _ => none
  | .st => none
def toPys : List D → Option (List PyData)
  | [] => some []
  | d :: ds => match toPy d, toPys ds with | some p, some ps => some (p :: ps) | _, _ => none
end
mutual
theorem dp_of {C : DC} {F H : Hp} (e : Same F H) : ∀ {d : D} {v : V} {p : PyData}, Rep C F d v → toPy d = some p → Dp C.K H v p ∧ p.canLay0 = true
  | .non, _, _, h, q => by cases q; cases rep_non h; exact ⟨.non, rfl⟩
  | .bl _, _, _, h, q => by cases q; cases rep_bl h; exact ⟨.bl _, rfl⟩
  | .int _, _, _, h, q => by cases q; cases rep_int h; exact ⟨.int _, rfl⟩
  | .str x, _, _, h, q => by
    unfold toPy at q
    split at q
    · rename_i hs
      cases q; cases rep_str h
      exact ⟨.str _, hs⟩
    · cases q
  | .tup xs, _, _, h, q => by
    obtain ⟨a, vs, h1, h2, h3⟩ := h
    unfold toPy at q
    cases z : toPys xs with
    | none => rw [z] at q; cases q
    | some ps =>
      rw [z] at q; cases q; subst h1
      obtain ⟨k1, k2⟩ := dps_of e h3 z
      exact ⟨.tup (sqT_same e h2) k1, k2⟩
  | .lst xs, _, _, h, q => by
    obtain ⟨a, vs, h1, h2, h3⟩ := h
    unfold toPy at q
    cases z : toPys xs with
    | none => rw [z] at q; cases q
    | some ps =>
      rw [z] at q; cases q; subst h1
      obtain ⟨k1, k2⟩ := dps_of e h3 z
      exact ⟨.lst (e.seq h2) k1, k2⟩
  | .obj _ _, _, _, _, q => by unfold toPy at q; cases q
  | .st, _, _, _, q => by unfold toPy at q; cases q
theorem dps_of {C : DC} {F H : Hp} (e : Same F H) : ∀ {ds : List D} {vs : List V} {ps : List PyData}, Reps C F ds vs → toPys ds = some ps → DpAll C.K H vs ps ∧ PyData.canLayAll0 ps = true
  | [], _, _, h, q => by cases q; cases (show _ = [] from h); exact ⟨.nil, rfl⟩
  | d :: ds, _, _, ⟨v, r, h1, h2, h3⟩, q => by
    unfold toPys at q
    cases z : toPy d with
    | none => rw [z] at q; cases q
    | some p =>
      cases z2 : toPys ds with
      | none => rw [z, z2] at q; cases q
      | some ps =>
        rw [z, z2] at q; cases q; subst h1
        obtain ⟨k1, k2⟩ := dp_of e h2 z
        obtain ⟨k3, k4⟩ := dps_of e h3 z2
        exact ⟨.cons k1 k3, Bool.and_eq_true_iff.mpr ⟨k2, k4⟩⟩
end
def eqvD (x y : D) : Option Bool := match toPy x, toPy y with
  | some p, some q => if p.depth ≤ 64 ∧ q.depth ≤ 64 then some (PyData.eqv p q) else none
  | _, _ => none
def eqD (x y : D) : Option D := (eqvD x y).map .bl
def neD (x y : D) : Option D := (eqvD x y).map fun b => .bl (!b)
theorem op2_eq : Op2 c (rEqD c.C.K) eqD := by
  intro σ F H env s x y dx dy d Q T rx ry e q
  unfold eqD eqvD at e
  cases z : toPy dx with
  | none => rw [z] at e; cases e
  | some p =>
    cases z2 : toPy dy with
    | none => rw [z, z2] at e; cases e
    | some p2 =>
      rw [z, z2] at e
      dsimp only at e
      split at e
      · rename_i hd
        cases e
        obtain ⟨k1, k2⟩ := dp_of T.sub rx z
        obtain ⟨k3, k4⟩ := dp_of T.sub ry z2
        exact ⟨p, p2, k1, k3, Bool.and_eq_true_iff.mpr ⟨k2, decide_eq_true hd.1⟩, Bool.and_eq_true_iff.mpr ⟨k4, decide_eq_true hd.2⟩, q F H _ (Same.refl _) T rfl⟩
      · cases e
theorem op2_ne : Op2 c (rNeD c.C.K) neD := by
  intro σ F H env s x y dx dy d Q T rx ry e q
  unfold neD eqvD at e
  cases z : toPy dx with
  | none => rw [z] at e; cases e
  | some p =>
    cases z2 : toPy dy with
    | none => rw [z, z2] at e; cases e
    | some p2 =>
      rw [z, z2] at e
      dsimp only at e
      split at e
      · rename_i hd
        cases e
        obtain ⟨k1, k2⟩ := dp_of T.sub rx z
        obtain ⟨k3, k4⟩ := dp_of T.sub ry z2
        exact ⟨p, p2, k1, k3, Bool.and_eq_true_iff.mpr ⟨k2, decide_eq_true hd.1⟩, Bool.and_eq_true_iff.mpr ⟨k4, decide_eq_true hd.2⟩, q F H _ (Same.refl _) T rfl⟩
      · cases e
theorem d_eq (hk : c.C.K = X.K) (hu : X.A.units + 64 < cLine) (ha : PE X a (tM c ma)) (hb : PE X b (tM c mb)) : PE X (.Compare a [.Eq] [b] pos) (tM c (m2 eqD ma mb)) :=
  d_cmp (op_eqD hu) (hk ▸ op2_eq) ha hb (nomark _)
theorem d_ne (hk : c.C.K = X.K) (hu : X.A.units + 64 < cLine) (ha : PE X a (tM c ma)) (hb : PE X b (tM c mb)) : PE X (.Compare a [.NotEq] [b] pos) (tM c (m2 neD ma mb)) :=
  d_cmp (op_neD hu) (hk ▸ op2_ne) ha hb (nomark _)
end
end DL
set_option Elab.async false
set_option linter.all false
set_option maxRecDepth 100000
namespace DL
open PySem PySem.Spec PyProof.Rows L2
section
variable {S : Type} {c : Ct S} {X : Cx} {a b e o : Expr} {es rest : List Expr} {pos apos : Pos} {ma mb : M S D} {m : M S D} {ms : M S (List D)} {ta tb : M S Bool}
def truD : D → Option Bool
  | .non => some false
  | .bl b => some b
  | .int i => some (i != 0)
  | .str x => if x.length ≤ sizeLine then some ((x.length : Int) != 0) else none
  | .tup xs => some (!xs.isEmpty)
  | .lst xs => some (!xs.isEmpty)
  | .obj _ _ => none
  | .st => none
theorem isEmpty_reps {C : DC} {F : Hp} {ds : List D} {vs : List V} (h : Reps C F ds vs) : (!vs.isEmpty) = !ds.isEmpty := by
  have := h.length
  cases vs <;> cases ds <;> simp_all
theorem tru_of {C : DC} {F H : Hp} (e : Same F H) {d : D} {v : V} {k : Bool} (h : Rep C F d v) (q : truD d = some k) : TruV C.K v H k := by
  cases d with
  | non => cases rep_non h; cases q; rfl
  | bl _ => cases rep_bl h; cases q; rfl
  | int _ => cases rep_int h; cases q; rfl
  | str x =>
    cases rep_str h
    simp only [truD] at q
    split at q
    · rename_i hl; cases q; exact ⟨hl, rfl⟩
    · cases q
  | tup xs =>
    obtain ⟨a, vs, h1, h2, h3⟩ := h
    subst h1; cases q
    exact .inr (.inl ⟨vs, sqT_same e h2, (isEmpty_reps h3).symm⟩)
  | lst xs =>
    obtain ⟨a, vs, h1, h2, h3⟩ := h
    subst h1; cases q
    exact .inl ⟨vs, e.seq h2, (isEmpty_reps h3).symm⟩
  | obj _ _ => cases q
  | st => cases q
def truM (ma : M S D) : M S Bool := bindM ma fun x => optM (truD x)
theorem tT_of {σ : St} {H : Hp} {K : PySem.W.Frag} (hk : c.C.K = K) {Q : Bool → Hp → Prop} (h : tT c (truM ma) σ H Q) : tM c ma σ H fun x H' => ∃ k, TruV K x H' k ∧ Q k H' := by
  obtain ⟨F, env, s, T, h⟩ := h
  refine ⟨F, env, s, T, h.bind.imp fun dx s1 F1 H1 e1 T1 q v rv => ?_⟩
  obtain ⟨k, e, q⟩ := q.opt T1
  exact ⟨k, by rw [← hk]; exact tru_of T1.sub rv e, q F1 H1 (Same.refl _) T1⟩
/-- a value as a test -/
theorem d_test (hk : c.C.K = X.K) (ha : PE X a (tM c ma)) (he : ∀ whole, isTrue a X.env whole = (do let v ← whole; standAt a.pos; holding [v] (truthy v)) := by intro _; rfl) : PT X a (tT c (truM ma)) :=
  PTimp (pt_truth ha he) fun σ H Q h => tT_of hk h
def andT (ta tb : M S Bool) : M S Bool := bindM ta fun k => if k = true then tb else retM false
def orT (ta tb : M S Bool) : M S Bool := bindM ta fun k => if k = true then retM true else tb
def notT (ta : M S Bool) : M S Bool := bindM ta fun k => retM (!k)
theorem t_and1 (ha : PT X a (tT c ta)) : PW X (.BoolOp .And [a] pos) (tT c ta) := pw_and1 ha
theorem t_or1 (ha : PT X a (tT c ta)) : PW X (.BoolOp .Or [a] pos) (tT c ta) := pw_or1 ha
theorem t_and (ha : PT X a (tT c ta)) (hb : PW X (.BoolOp .And (b :: rest) pos) (tT c tb)) : PW X (.BoolOp .And (a :: b :: rest) pos) (tT c (andT ta tb)) := by
  refine PWimp (pw_and ha hb) fun σ H Q h => ?_
  obtain ⟨F, env, s, T, h⟩ := h
  refine ⟨F, env, s, T, h.bind.imp fun k s1 F1 H1 e1 T1 q => ?_⟩
  cases k with
  | true => exact (if_pos rfl).mpr ⟨F1, env, s1, T1, q⟩
  | false => exact (if_neg Bool.false_ne_true).mpr (q F1 H1 (Same.refl _) T1)
theorem t_or (ha : PT X a (tT c ta)) (hb : PW X (.BoolOp .Or (b :: rest) pos) (tT c tb)) : PW X (.BoolOp .Or (a :: b :: rest) pos) (tT c (orT ta tb)) := by
  refine PWimp (pw_or ha hb) fun σ H Q h => ?_
  obtain ⟨F, env, s, T, h⟩ := h
  refine ⟨F, env, s, T, h.bind.imp fun k s1 F1 H1 e1 T1 q => ?_⟩
  cases k with
  | true => exact (if_pos rfl).mpr (q F1 H1 (Same.refl _) T1)
  | false => exact (if_neg Bool.false_ne_true).mpr ⟨F1, env, s1, T1, q⟩
theorem t_not (ha : PT X a (tT c ta)) : PT X (.UnaryOp .Not a pos) (tT c (notT ta)) := by
  refine PTimp (pt_not ha) fun σ H Q h => ?_
  obtain ⟨F, env, s, T, h⟩ := h
  exact ⟨F, env, s, T, h.bind.imp fun k s1 F1 H1 e1 T1 q => q F1 H1 (Same.refl _) T1⟩
def andV (ma mb : M S D) : M S D := bindM ma fun x => bindM (optM (truD x)) fun k => if k = true then mb else retM x
def orV (ma mb : M S D) : M S D := bindM ma fun x => bindM (optM (truD x)) fun k => if k = true then retM x else mb
def notV (ma : M S D) : M S D := m1 (fun x => (truD x).map fun k => .bl (!k)) ma
theorem d_one {op : BoolOp} (ha : PE X a (tM c ma)) : PE X (.BoolOp op [a] pos) (tM c ma) := pe_one ha
theorem d_and (hk : c.C.K = X.K) (ha : PE X a (tM c ma)) (hb : PE X (.BoolOp .And (b :: rest) pos) (tM c mb)) : PE X (.BoolOp .And (a :: b :: rest) pos) (tM c (andV ma mb)) := by
  refine PEimp (pe_andT ha hb) fun σ H Q h => tM_bind h fun dx s1 F1 H1 x env T1 rx q => ?_
  obtain ⟨k, e, _⟩ := q.bind.opt T1
  refine ⟨k, by rw [← hk]; exact tru_of T1.sub rx e, ?_⟩
  rw [e] at q
  have q : Fin c F1 σ env ((if k = true then mb else retM dx) env s1) _ := q
  cases k with
  | true => exact (if_pos rfl).mpr ⟨F1, env, s1, T1, q⟩
  | false => exact (if_neg Bool.false_ne_true).mpr (q F1 H1 (Same.refl _) T1 x rx)
theorem d_or (hk : c.C.K = X.K) (ha : PE X a (tM c ma)) (hb : PE X (.BoolOp .Or (b :: rest) pos) (tM c mb)) : PE X (.BoolOp .Or (a :: b :: rest) pos) (tM c (orV ma mb)) := by
  refine PEimp (pe_orT ha hb) fun σ H Q h => tM_bind h fun dx s1 F1 H1 x env T1 rx q => ?_
  obtain ⟨k, e, _⟩ := q.bind.opt T1
  refine ⟨k, by rw [← hk]; exact tru_of T1.sub rx e, ?_⟩
  rw [e] at q
  have q : Fin c F1 σ env ((if k = true then retM dx else mb) env s1) _ := q
  cases k with
  | true => exact (if_pos rfl).mpr (q F1 H1 (Same.refl _) T1 x rx)
  | false => exact (if_neg Bool.false_ne_true).mpr ⟨F1, env, s1, T1, q⟩
theorem d_not (hk : c.C.K = X.K) (ha : PE X a (tM c ma)) : PE X (.UnaryOp .Not a pos) (tM c (notV ma)) := by
  refine PEimp (pe_notT ha) fun σ H Q h => tM_bind h fun dx s1 F1 H1 x env T1 rx q => ?_
  obtain ⟨d, e, q⟩ := q.opt T1
  have e : (truD dx).map (fun k => D.bl (!k)) = some d := e
  cases z : truD dx with
  | none => rw [z] at e; cases e
  | some k =>
    rw [z] at e; cases e
    exact ⟨k, by rw [← hk]; exact tru_of T1.sub rx z, q F1 H1 (Same.refl _) T1 _ rfl⟩
def ifM (t : M S Bool) (ma mb : M S D) : M S D := bindM t fun k => if k = true then ma else mb
theorem d_ifE {t : Expr} {mt : M S Bool} (ht : PT X t (tT c mt)) (ha : PE X a (tM c ma)) (hb : PE X b (tM c mb)) : PE X (.IfExp t a b pos) (tM c (ifM mt ma mb)) := by
  refine PEimp (pe_ifExp ht ha hb) fun σ H Q h => ?_
  obtain ⟨F, env, s, T, h⟩ := h
  refine ⟨F, env, s, T, h.bind.imp fun k s1 F1 H1 e1 T1 q => ?_⟩
  cases k with
  | true => exact (if_pos rfl).mpr ⟨F1, env, s1, T1, q⟩
  | false => exact (if_neg Bool.false_ne_true).mpr ⟨F1, env, s1, T1, q⟩
def consM (ma : M S D) (ms : M S (List D)) : M S (List D) := bindM ma fun x => bindM ms fun xs => retM (x :: xs)
theorem a_nil : PA X [] (tA c (retM [])) := PAimp pa_nil fun σ H Q h => by
  obtain ⟨F, env, s, T, h⟩ := h
  exact h F H (Same.refl _) T [] rfl
theorem a_cons (ha : PE X e (tM c ma)) (hr : PA X es (tA c ms)) (hs : starEach (e :: es) X.env = (false, eval e X.env) :: starEach es X.env := by rfl) : PA X (e :: es) (tA c (consM ma ms)) := by
  refine PAimp (pa_cons ha hr hs) fun σ H Q h => ?_
  obtain ⟨F, env, s, T, h⟩ := h
  refine ⟨F, env, s, T, h.bind.imp fun dx s1 F1 H1 e1 T1 q x rx => ?_⟩
  refine ⟨F1, env, s1, T1, q.bind.imp fun ds s2 F2 H2 e2 T2 q2 vs rvs => ?_⟩
  exact q2 F2 H2 (Same.refl _) T2 (x :: vs) ⟨x, vs, rfl, rx.mono e2, rvs⟩
theorem le_line {n : Nat} (h : n ≤ 1000) : n ≤ sizeLine := by rw [sizeLine_eq]; omega
def tupD (ds : List D) : Option D := if ds.length ≤ 1000 then some (.tup ds) else none
def lstD (ds : List D) : Option D := if ds.length ≤ 1000 then some (.lst ds) else none
theorem d_tup {x1} (h : PA X es (tA c ms)) : PE X (.Tuple es x1 pos) (tM c (bindM ms fun ds => optM (tupD ds))) := by
  refine PEimp (pe_tup h) fun σ H Q h => ?_
  obtain ⟨F, env, s, T, h⟩ := h
  refine ⟨F, env, s, T, h.bind.imp fun ds s1 F1 H1 e1 T1 q vs rvs => ?_⟩
  obtain ⟨d, e, q⟩ := q.opt T1
  unfold tupD at e
  split at e
  · rename_i hl
    cases e
    refine ⟨by rw [rvs.length]; exact le_line hl, fun p np => ?_⟩
    exact q (upd F1 p (.tup vs)) _ (same_upd (T1.ff np)) (T1.new np (fun ps z => by cases z)) _ ⟨p, vs, rfl, SqT.of upd_same, rvs.mono (same_upd (T1.ff np))⟩
  · cases e
theorem d_lst (h : PA X es (tA c ms)) : PE X (.List es pos) (tM c (bindM ms fun ds => optM (lstD ds))) := by
  refine PEimp (pe_lst h) fun σ H Q h => ?_
  obtain ⟨F, env, s, T, h⟩ := h
  refine ⟨F, env, s, T, h.bind.imp fun ds s1 F1 H1 e1 T1 q vs rvs => ?_⟩
  obtain ⟨d, e, q⟩ := q.opt T1
  unfold lstD at e
  split at e
  · rename_i hl
    cases e
    refine ⟨by rw [rvs.length]; exact le_line hl, fun p np => ?_⟩
    exact q (upd F1 p (.lst vs)) _ (same_upd (T1.ff np)) (T1.new np (fun ps z => by cases z)) _ ⟨p, vs, rfl, SqL.of upd_same, rvs.mono (same_upd (T1.ff np))⟩
  · cases e
theorem Reps.at {C : DC} {F : Hp} {ds : List D} {vs : List V} {i : Int} {d : D} (h : Reps C F ds vs) (e : atI ds i = some d) : ∃ v, atI vs i = some v ∧ Rep C F d v := by
  unfold atI at e ⊢
  rw [h.length]
  cases q : ixN ds.length i with
  | none => rw [q] at e; cases e
  | some j =>
    rw [q] at e
    exact h.get e
def ixD : D → D → Option D
  | .lst xs, .int i => atI xs i
  | .tup xs, .int i => atI xs i
  | .str x, .int i => if x.length ≤ sizeLine then (atI x.cps.toList i).map fun k => .str ⟨#[k]⟩ else none
  | _, _ => none
theorem op2_ix : Op2 c (rIx c.C.K) ixD := by
  intro σ F H env s x y dx dy d Q T rx ry e q
  unfold ixD at e
  split at e
  · cases rep_int ry
    obtain ⟨p, vs, h1, h2, h3⟩ := rx
    obtain ⟨v, h4, h5⟩ := h3.at e
    exact .inl ⟨p, vs, _, v, h1, rfl, T.sub.seq h2, h4, q F H v (Same.refl _) T h5⟩
  · cases rep_int ry
    obtain ⟨p, vs, h1, h2, h3⟩ := rx
    obtain ⟨v, h4, h5⟩ := h3.at e
    exact .inr (.inl ⟨p, vs, _, v, h1, rfl, sqT_same T.sub h2, h4, q F H v (Same.refl _) T h5⟩)
  · cases rep_int ry
    cases rep_str rx
    split at e
    · rename_i hl
      rename_i x i
      cases z : atI x.cps.toList i with
      | none => rw [z] at e; cases e
      | some k =>
        rw [z] at e; cases e
        exact .inr (.inr ⟨_, _, _, rfl, rfl, hl, z, q F H _ (Same.refl _) T rfl⟩)
    · cases e
  · cases e
theorem d_ix (hk : c.C.K = X.K) (ha : PE X a (tM c ma)) (hb : PE X b (tM c mb)) (hs : PlainIx b := by intro _ _; rfl) : PE X (.Subscript a b pos) (tM c (m2 ixD ma mb)) :=
  PEimp (pe_ix (ix_seq) ha hb hs) fun σ H Q h => tM_op2 (hk ▸ op2_ix) h
def cutL {α : Type} (xs : List α) (lo hi : Option Int) : List α := (xs.drop (HT.sIx xs.length 0 lo)).take (HT.sIx xs.length xs.length hi - HT.sIx xs.length 0 lo)
def partD : D → Option (Option Int)
  | .int i => some (some i)
  | _ => none
/-- a part of a slice -/
def tO (c : Ct S) (m : M S (Option Int)) : TO := fun σ H Q => ∃ F env s, Stt c.C c.I c.B F H σ env s ∧ Fin c F σ env (m env s) fun o _ _ H' => Q o H'
theorem o_none : PO X none (tO c (retM none)) := by
  refine ⟨fun pins s σ H Q I h => ?_⟩
  obtain ⟨F, env, s', T, h⟩ := h
  exact (po_none (X := X)).run pins s σ H Q I (h F H (Same.refl _) T)
theorem o_some (h : PE X e (tM c m)) : PO X (some e) (tO c (bindM m fun x => optM (partD x))) := by
  refine ⟨fun pins s σ H Q I h' => (po_some h).run pins s σ H Q I ?_⟩
  obtain ⟨F, env, s', T, h'⟩ := h'
  refine ⟨F, env, s', T, h'.bind.imp fun dx s1 F1 H1 e1 T1 q v rv => ?_⟩
  obtain ⟨oi, e, q⟩ := q.opt T1
  unfold partD at e
  split at e
  · cases e; cases rep_int rv
    exact ⟨_, rfl, q F1 H1 (Same.refl _) T1⟩
  · cases e
def sliceD (lo hi : Option Int) : D → Option D
  | .str x => if x.length ≤ sizeLine then some (.str (cutS x lo hi)) else none
  | .lst xs => some (.lst (cutL xs lo hi))
  | .tup xs => if (cutL xs lo hi).length < xs.length then some (.tup (cutL xs lo hi)) else none
  | _ => none
def sliceM (m : M S D) (ml mh : M S (Option Int)) : M S D := bindM m fun x => bindM ml fun lo => bindM mh fun hi => optM (sliceD lo hi x)
theorem Reps.cut {C : DC} {F : Hp} {ds : List D} {vs : List V} (h : Reps C F ds vs) (lo hi : Option Int) : Reps C F (cutL ds lo hi) (cutV vs lo hi) := by
  unfold cutL cutV
  rw [h.length]
  exact (h.drop _).take _
theorem tM_slice {r : V → Option Int → Option Int → Hp → VK → Prop} {ml mh : M S (Option Int)} (hr : ∀ σ F H env s lo hi x dx d Q, Stt c.C c.I c.B F H σ env s → Rep c.C F dx x → sliceD lo hi dx = some d →
    (∀ F' H' v, Same F F' → Stt c.C c.I c.B F' H' σ env s → Rep c.C F' d v → Q v H') → r x lo hi H Q) {σ : St} {H : Hp} {Q : VK} (h : tM c (sliceM m ml mh) σ H Q) : tSl r (tM c m) (tO c ml) (tO c mh) σ H Q := by
  refine tM_bind h fun dx s1 F1 H1 x env T1 rx q => ?_
  refine ⟨F1, env, s1, T1, q.bind.imp fun lo s2 F2 H2 e2 T2 q2 => ?_⟩
  refine ⟨F2, env, s2, T2, q2.bind.imp fun hi s3 F3 H3 e3 T3 q3 => ?_⟩
  obtain ⟨d, e, q3⟩ := q3.opt T3
  exact hr σ F3 H3 env s3 lo hi x dx d Q T3 ((rx.mono e2).mono e3) e fun F' H' v e' T' rv => q3 F' H' e' T' v rv
theorem sl_all : SlR X (fun x lo hi H Q => rSlS x lo hi H Q ∨ rSlL X.K x lo hi H Q ∨ rSlT X.K x lo hi H Q) := sl_str.or (sl_list.or sl_tup)
theorem d_slice {lo hi : Option Expr} {p2 : Pos} {ml mh : M S (Option Int)} (hk : c.C.K = X.K) (he : PE X e (tM c m)) (hl : PO X lo (tO c ml)) (hu : PO X hi (tO c mh)) : PE X (.Subscript e (.Slice lo hi none p2) pos) (tM c (sliceM m ml mh)) := by
  refine PEimp (pe_slice sl_all he hl hu) fun σ H Q h => tM_slice (fun σ F H env s lo hi x dx d Q T rx e q => ?_) h
  unfold sliceD at e
  split at e
  · split at e
    · rename_i hl
      cases e; cases rep_str rx
      exact .inl ⟨_, rfl, hl, q F H _ (Same.refl _) T rfl⟩
    · cases e
  · cases e
    obtain ⟨p, vs, h1, h2, h3⟩ := rx
    refine .inr (.inl ⟨p, vs, h1, by rw [← hk]; exact T.sub.seq h2, fun p' np => ?_⟩)
    exact q _ _ _ (same_upd (T.ff np)) (T.new np (fun ps z => by cases z)) ⟨p', _, rfl, SqL.of upd_same, (h3.cut lo hi).mono (same_upd (T.ff np))⟩
  · split at e
    · rename_i hl
      cases e
      obtain ⟨p, vs, h1, h2, h3⟩ := rx
      have hc := (h3.cut lo hi).length
      have hv := h3.length
      refine .inr (.inr ⟨p, vs, h1, by rw [← hk]; exact sqT_same T.sub h2, ?_, fun p' np => ?_⟩)
      · rintro ⟨z1, z2⟩
        unfold cutV at hc
        rw [z1, z2, List.drop_zero, Nat.sub_zero, List.take_length] at hc
        omega
      · exact q _ _ _ (same_upd (T.ff np)) (T.new np (fun ps z => by cases z)) ⟨p', _, rfl, SqT.of upd_same, (h3.cut lo hi).mono (same_upd (T.ff np))⟩
    · cases e
  · cases e
end
end DL
set_option Elab.async false
set_option linter.all false
set_option maxRecDepth 100000
namespace DL
open PySem PySem.Spec PyProof.Rows L2
section
variable {S : Type} {c : Ct S} {X : Cx} {a b e o : Expr} {es rest : List Expr} {pos apos : Pos} {ma mb : M S D} {m : M S D} {ms : M S (List D)}
/-- a rule on argument lists serves a mirrored function -/
def CallD (c : Ct S) (r : List V → Hp → VK → Prop) (f : List D → Option D) : Prop := ∀ σ F H env s vs ds d Q, Stt c.C c.I c.B F H σ env s → Reps c.C F ds vs → f ds = some d →
  (∀ F' H' v, Same F F' → Stt c.C c.I c.B F' H' σ env s → Rep c.C F' d v → Q v H') → r vs H Q
def callM (f : List D → Option D) (ms : M S (List D)) : M S D := bindM ms fun ds => optM (f ds)
theorem tM_call {r : List V → Hp → VK → Prop} {f : List D → Option D} (h : CallD c r f) {σ : St} {H : Hp} {Q : VK} (q : tM c (callM f ms) σ H Q) : tCB r (tA c ms) σ H Q := by
  obtain ⟨F, env, s, T, q⟩ := q
  refine ⟨F, env, s, T, q.bind.imp fun ds s1 F1 H1 e1 T1 q vs rvs => ?_⟩
  obtain ⟨d, e, q⟩ := q.opt T1
  exact h σ F1 H1 env s1 vs ds d Q T1 rvs e fun F' H' v e' T' rv => q F' H' e' T' v rv
theorem d_callB {id : String} {x : Str} {p : Pos} {r : List V → Hp → VK → Prop} {f : List D → Option D} (hc : CallR X (.builtin id) r) (h : CallD c r f) (hm : X.mg x = none) (ha : PA X (e :: es) (tA c ms)) (hg : Gl X x := by rfl) (hv : bootBuiltins x = some (.builtin id) := by decide +kernel) (hn : x ≠ "__name__" := by decide) (hdb : (x == ("__debug__" : Str)) = false := by decide)
    (he : starEach (e :: es) X.env = (false, eval e X.env) :: starEach es X.env := by rfl) (hpl : (backTo pos (starEach es X.env)).any (·.1) = false := by rfl) : PE X (.Call (.Name x p) (e :: es) [] pos) (tM c (callM f ms)) :=
  PEimp (pe_callB hc hg hm hv ha hn hdb he hpl) fun σ H Q q => tM_call h q
theorem d_callTy {T : String} {x : Str} {p : Pos} {r : List V → Hp → VK → Prop} {f : List D → Option D} (hc : CallR X (.type T) r) (h : CallD c r f) (hm : X.mg x = none) (ha : PA X (e :: es) (tA c ms)) (hg : Gl X x := by rfl) (hv : bootBuiltins x = some (.type T) := by decide +kernel) (hn : x ≠ "__name__" := by decide) (hdb : (x == ("__debug__" : Str)) = false := by decide)
    (he : starEach (e :: es) X.env = (false, eval e X.env) :: starEach es X.env := by rfl) (hpl : (backTo pos (starEach es X.env)).any (·.1) = false := by rfl) : PE X (.Call (.Name x p) (e :: es) [] pos) (tM c (callM f ms)) :=
  PEimp (pe_callTy hc hg hm hv ha hn hdb he hpl) fun σ H Q q => tM_call h q
theorem d_callG {id : String} {x : Str} {p : Pos} {r : List V → Hp → VK → Prop} {f : List D → Option D} (hc : CallR X (.builtin id) r) (h : CallD c r f) (hm : X.mg x = some (.builtin id)) (ha : PA X (e :: es) (tA c ms)) (hg : Gl X x := by rfl) (hdb : (x == ("__debug__" : Str)) = false := by decide)
    (he : starEach (e :: es) X.env = (false, eval e X.env) :: starEach es X.env := by rfl) (hpl : (backTo pos (starEach es X.env)).any (·.1) = false := by rfl) : PE X (.Call (.Name x p) (e :: es) [] pos) (tM c (callM f ms)) :=
  PEimp (pe_callBfun hc hg hm ha hdb he hpl) fun σ H Q q => tM_call h q
/-- a result that needs no heap -/
theorem CallD.flat {r : List V → Hp → VK → Prop} {f : List D → Option D} (k : ∀ F H vs ds d, Same F H → Reps c.C F ds vs → f ds = some d → ∃ v, (∀ F', Rep c.C F' d v) ∧ ∀ Q : VK, Q v H → r vs H Q) : CallD c r f := by
  intro σ F H env s vs ds d Q T rv e q
  obtain ⟨v, h1, h2⟩ := k F H vs ds d T.sub rv e
  exact h2 Q (q F H v (Same.refl _) T (h1 F))
theorem reps1 {C : DC} {F : Hp} {d : D} {vs : List V} (h : Reps C F [d] vs) : ∃ v, vs = [v] ∧ Rep C F d v := by
  obtain ⟨v, r, h1, h2, h3⟩ := h
  cases (show r = [] from h3)
  exact ⟨v, h1, h2⟩
theorem reps2 {C : DC} {F : Hp} {d d' : D} {vs : List V} (h : Reps C F [d, d'] vs) : ∃ v v', vs = [v, v'] ∧ Rep C F d v ∧ Rep C F d' v' := by
  obtain ⟨v, r, h1, h2, h3⟩ := h
  obtain ⟨v', h4, h5⟩ := reps1 h3
  subst h4
  exact ⟨v, v', h1, h2, h5⟩
theorem reps0 {C : DC} {F : Hp} {vs : List V} (h : Reps C F [] vs) : vs = [] := h
def lenD : List D → Option D
  | [.str x] => if x.length ≤ sizeLine then some (.int x.length) else none
  | [.lst xs] => some (.int xs.length)
  | [.tup xs] => some (.int xs.length)
  | _ => none
theorem callD_len : CallD c (fun xs H Q => ∃ x n, xs = [x] ∧ LenV c.C.K x H n ∧ Q (.int n) H) lenD := CallD.flat fun F H vs ds d sm rv e => by
  unfold lenD at e
  split at e
  · obtain ⟨v, rfl, r⟩ := reps1 rv
    cases rep_str r
    split at e
    · rename_i hl
      cases e
      exact ⟨_, fun _ => rfl, fun Q q => ⟨_, _, rfl, ⟨hl, rfl⟩, q⟩⟩
    · cases e
  · obtain ⟨v, rfl, a, vs, h1, h2, h3⟩ := reps1 rv
    cases e; subst h1
    exact ⟨_, fun _ => rfl, fun Q q => ⟨_, _, rfl, .inl ⟨vs, sm.seq h2, rfl⟩, by rw [h3.length]; exact q⟩⟩
  · obtain ⟨v, rfl, a, vs, h1, h2, h3⟩ := reps1 rv
    cases e; subst h1
    exact ⟨_, fun _ => rfl, fun Q q => ⟨_, _, rfl, .inr ⟨vs, sqT_same sm h2, rfl⟩, by rw [h3.length]; exact q⟩⟩
  · cases e
theorem d_len {p : Pos} (hk : c.C.K = X.K) (hm : X.mg "len" = none) (ha : PE X a (tM c ma)) (hs : starEach [a] X.env = (false, eval a X.env) :: starEach [] X.env := by rfl) (hg : Gl X "len" := by rfl) : PE X (.Call (.Name "len" p) [a] [] pos) (tM c (callM lenD (consM ma (retM [])))) :=
  d_callB call_len (hk ▸ callD_len) hm (a_cons ha a_nil hs) hg PySem.boot_len (he := hs)
def absD : List D → Option D
  | [.int i] => some (.int (if i < 0 then -i else i))
  | _ => none
theorem d_abs {p : Pos} (hm : X.mg "abs" = none) (ha : PE X a (tM c ma)) (hs : starEach [a] X.env = (false, eval a X.env) :: starEach [] X.env := by rfl) (hg : Gl X "abs" := by rfl) : PE X (.Call (.Name "abs" p) [a] [] pos) (tM c (callM absD (consM ma (retM [])))) := by
  refine d_callB call_abs (CallD.flat fun F H vs ds d sm rv e => ?_) hm (a_cons ha a_nil hs) hg (he := hs)
  unfold absD at e
  split at e
  · obtain ⟨v, rfl, r⟩ := reps1 rv
    cases rep_int r; cases e
    exact ⟨_, fun _ => rfl, fun Q q => ⟨_, rfl, q⟩⟩
  · cases e
def intD : List D → Option D
  | [.int i] => some (.int i)
  | [.bl b] => some (.int (if b then 1 else 0))
  | [.str x] => if x.length ≤ 640 then (PySem.intText? x).map .int else none
  | _ => none
theorem d_intC {p : Pos} (hm : X.mg "int" = none) (ha : PE X a (tM c ma)) (hs : starEach [a] X.env = (false, eval a X.env) :: starEach [] X.env := by rfl) (hg : Gl X "int" := by rfl) : PE X (.Call (.Name "int" p) [a] [] pos) (tM c (callM intD (consM ma (retM [])))) := by
  refine d_callTy (call_int1.or call_int_str) (CallD.flat fun F H vs ds d sm rv e => ?_) hm (a_cons ha a_nil hs) hg (he := hs)
  unfold intD at e
  split at e
  · obtain ⟨v, rfl, r⟩ := reps1 rv
    cases rep_int r; cases e
    exact ⟨_, fun _ => rfl, fun Q q => .inl (.inl ⟨_, rfl, q⟩)⟩
  · obtain ⟨v, rfl, r⟩ := reps1 rv
    cases rep_bl r; cases e
    exact ⟨_, fun _ => rfl, fun Q q => .inl (.inr ⟨_, rfl, q⟩)⟩
  · split at e
    · rename_i x hl
      obtain ⟨v, rfl, r⟩ := reps1 rv
      cases rep_str r
      cases z : PySem.intText? x with
      | none => rw [z] at e; cases e
      | some n =>
        rw [z] at e; cases e
        exact ⟨_, fun _ => rfl, fun Q q => .inr ⟨_, _, rfl, z, hl, q⟩⟩
    · cases e
  · cases e
def strCD : List D → Option D
  | [.int i] => if i.natAbs.log2 < 1920 then some (.str (toString i)) else none
  | _ => none
theorem d_strC {p : Pos} (hm : X.mg "str" = none) (ha : PE X a (tM c ma)) (hs : starEach [a] X.env = (false, eval a X.env) :: starEach [] X.env := by rfl) (hg : Gl X "str" := by rfl) : PE X (.Call (.Name "str" p) [a] [] pos) (tM c (callM strCD (consM ma (retM [])))) := by
  refine d_callTy call_str_int (CallD.flat fun F H vs ds d sm rv e => ?_) hm (a_cons ha a_nil hs) hg (he := hs)
  unfold strCD at e
  split at e
  · split at e
    · rename_i hl
      obtain ⟨v, rfl, r⟩ := reps1 rv
      cases rep_int r; cases e
      exact ⟨_, fun _ => rfl, fun Q q => ⟨_, rfl, hl, q⟩⟩
    · cases e
  · cases e
def gcdD : List D → Option D
  | [.int a, .int b] => some (.int ((Nat.gcd a.natAbs b.natAbs : Nat) : Int))
  | _ => none
theorem d_gcd {p : Pos} (hm : X.mg "gcd" = some (.builtin "math.gcd")) (ha : PA X (e :: es) (tA c ms)) (hg : Gl X "gcd" := by rfl)
    (he : starEach (e :: es) X.env = (false, eval e X.env) :: starEach es X.env := by rfl) (hpl : (backTo pos (starEach es X.env)).any (·.1) = false := by rfl) : PE X (.Call (.Name "gcd" p) (e :: es) [] pos) (tM c (callM gcdD ms)) := by
  refine d_callG cr_gcd (CallD.flat fun F H vs ds d sm rv e => ?_) hm ha hg (he := he) (hpl := hpl)
  unfold gcdD at e
  split at e
  · obtain ⟨v, v', rfl, r, r'⟩ := reps2 rv
    cases rep_int r; cases rep_int r'; cases e
    exact ⟨_, fun _ => rfl, fun Q q => ⟨_, _, rfl, q⟩⟩
  · cases e
def listD : List D → Option D
  | [.lst xs] => some (.lst xs)
  | [.tup xs] => some (.lst xs)
  | _ => none
theorem d_listC {p : Pos} (hk : c.C.K = X.K) (hm : X.mg "list" = none) (ha : PE X a (tM c ma)) (hs : starEach [a] X.env = (false, eval a X.env) :: starEach [] X.env := by rfl) (hg : Gl X "list" := by rfl) : PE X (.Call (.Name "list" p) [a] [] pos) (tM c (callM listD (consM ma (retM [])))) := by
  refine d_callTy call_list_of (fun σ F H env s vs ds d Q T rv e q => ?_) hm (a_cons ha a_nil hs) hg (he := hs)
  have fin : ∀ ys xs (p : Addr), Reps c.C F xs ys → d = .lst xs → ∀ l, H l = none → Q (.ref l) (upd H l (.lst ys)) := fun ys xs p r e l hl => by
    subst e
    exact q _ _ _ (same_upd (T.ff hl)) (T.new hl (fun ps z => by cases z)) ⟨l, ys, rfl, SqL.of upd_same, r.mono (same_upd (T.ff hl))⟩
  unfold listD at e
  split at e
  · obtain ⟨v, rfl, p', ys, h1, h2, h3⟩ := reps1 rv
    subst h1
    exact ⟨p', ys, rfl, .inl (by rw [← hk]; exact T.sub.seq h2), fin ys _ p' h3 (by cases e; rfl)⟩
  · obtain ⟨v, rfl, p', ys, h1, h2, h3⟩ := reps1 rv
    subst h1
    exact ⟨p', ys, rfl, .inr (by rw [← hk]; exact sqT_same T.sub h2), fin ys _ p' h3 (by cases e; rfl)⟩
  · cases e
def tupleD : List D → Option D
  | [.lst xs] => some (.tup xs)
  | [.tup xs] => some (.tup xs)
  | _ => none
theorem d_tupleC {p : Pos} (hk : c.C.K = X.K) (hm : X.mg "tuple" = none) (ha : PE X a (tM c ma)) (hs : starEach [a] X.env = (false, eval a X.env) :: starEach [] X.env := by rfl) (hg : Gl X "tuple" := by rfl) : PE X (.Call (.Name "tuple" p) [a] [] pos) (tM c (callM tupleD (consM ma (retM [])))) := by
  refine d_callTy call_tuple_of (fun σ F H env s vs ds d Q T rv e q => ?_) hm (a_cons ha a_nil hs) hg (he := hs)
  unfold tupleD at e
  split at e
  · obtain ⟨v, rfl, p', ys, h1, h2, h3⟩ := reps1 rv
    subst h1; cases e
    refine ⟨p', ys, rfl, .inl ⟨by rw [← hk]; exact T.sub.seq h2, fun l hl => ?_⟩⟩
    exact q _ _ _ (same_upd (T.ff hl)) (T.new hl (fun ps z => by cases z)) ⟨l, ys, rfl, SqT.of upd_same, h3.mono (same_upd (T.ff hl))⟩
  · obtain ⟨v, rfl, p', ys, h1, h2, h3⟩ := reps1 rv
    subst h1; cases e
    refine ⟨p', ys, rfl, .inr ⟨by rw [← hk]; exact sqT_same T.sub h2, ?_⟩⟩
    exact q F H _ (Same.refl _) T ⟨p', ys, rfl, h2, h3⟩
  · cases e
def blsD : List D → Option (List Bool)
  | [] => some []
  | .bl b :: r => (blsD r).map (b :: ·)
  | _ :: _ => none
theorem bls_of {C : DC} {F : Hp} : ∀ {ds : List D} {vs : List V} {bs : List Bool}, Reps C F ds vs → blsD ds = some bs → vs = bs.map V.bl
  | [], _, _, h, e => by cases e; exact h
  | d :: ds, _, _, ⟨v, r, h1, h2, h3⟩, e => by
    cases d with
    | bl b =>
      cases z : blsD ds with
      | none => simp [blsD, z] at e
      | some bs' =>
        simp [blsD, z] at e
        subst e
        rw [h1, rep_bl h2, bls_of h3 z]
        all_goals rfl
    | _ => cases e
def anyD : List D → Option D
  | [.lst xs] => (blsD xs).map fun bs => .bl (bs.any id)
  | _ => none
def allD : List D → Option D
  | [.lst xs] => (blsD xs).map fun bs => .bl (bs.all id)
  | _ => none
theorem d_any {p : Pos} (hk : c.C.K = X.K) (hc : X.calm = true) (hm : X.mg "any" = none) (ha : PE X a (tM c ma)) (hs : starEach [a] X.env = (false, eval a X.env) :: starEach [] X.env := by rfl) (hg : Gl X "any" := by rfl) : PE X (.Call (.Name "any" p) [a] [] pos) (tM c (callM anyD (consM ma (retM [])))) := by
  refine d_callB (cr_any hc) (CallD.flat fun F H vs ds d sm rv e => ?_) hm (a_cons ha a_nil hs) hg (he := hs)
  unfold anyD at e
  split at e
  · rename_i xs
    obtain ⟨v, rfl, p', ys, h1, h2, h3⟩ := reps1 rv
    subst h1
    cases z : blsD xs with
    | none => rw [z] at e; cases e
    | some bs =>
      rw [z] at e; cases e
      exact ⟨_, fun _ => rfl, fun Q q => ⟨p', bs, rfl, by rw [← hk, ← bls_of h3 z]; exact sm.seq h2, q⟩⟩
  · cases e
theorem d_all {p : Pos} (hk : c.C.K = X.K) (hc : X.calm = true) (hm : X.mg "all" = none) (ha : PE X a (tM c ma)) (hs : starEach [a] X.env = (false, eval a X.env) :: starEach [] X.env := by rfl) (hg : Gl X "all" := by rfl) : PE X (.Call (.Name "all" p) [a] [] pos) (tM c (callM allD (consM ma (retM [])))) := by
  refine d_callB (cr_all hc) (CallD.flat fun F H vs ds d sm rv e => ?_) hm (a_cons ha a_nil hs) hg (he := hs)
  unfold allD at e
  split at e
  · rename_i xs
    obtain ⟨v, rfl, p', ys, h1, h2, h3⟩ := reps1 rv
    subst h1
    cases z : blsD xs with
    | none => rw [z] at e; cases e
    | some bs =>
      rw [z] at e; cases e
      exact ⟨_, fun _ => rfl, fun Q q => ⟨p', bs, rfl, by rw [← hk, ← bls_of h3 z]; exact sm.seq h2, q⟩⟩
  · cases e
def isStr : D → Bool
  | .str _ => true
  | _ => false
def mStr1 (f : D → D → Option D) (ma mb : M S D) : M S D := bindM ma fun x => if isStr x = true then bindM mb fun y => optM (f x y) else fun _ _ => .bad
theorem d_str1 {id : String} {name : Str} {r : V → List V → Hp → VK → Prop} {f : D → D → Option D} (slot : PySem.Slot "str" name id) (ty : typeOf (.builtin id) = pure (.type "method_descriptor")) (rule : MtR X id r)
    (h2 : ∀ σ F H env s x y dx dy d Q, Stt c.C c.I c.B F H σ env s → Rep c.C F dx x → Rep c.C F dy y → f dx dy = some d → (∀ F' H' v, Same F F' → Stt c.C c.I c.B F' H' σ env s → Rep c.C F' d v → Q v H') → r x [y] H Q)
    (ho : PE X o (tM c ma)) (he : PE X e (tM c mb)) (hs : starEach [e] X.env = [(false, eval e X.env)] := by rfl) (hbase : attributeBase o name X.env (eval o X.env) = eval o X.env := by rfl) (hline : (apos.endLine == pos.line) = true := by rfl) :
    PE X (.Call (.Attribute o name apos) [e] [] pos) (tM c (mStr1 f ma mb)) := by
  refine PEimp (pe_m1 slot ty rule ho he hs hbase hline) fun σ H Q h => ?_
  refine tM_bind h fun dx s1 F1 H1 x env T1 rx q => ?_
  cases dx with
  | str z =>
    have q : Fin c F1 σ env (bindM mb (fun y => optM (f (.str z) y)) env s1) _ := q
    cases rep_str rx
    refine ⟨⟨z, rfl⟩, F1, env, s1, T1, q.bind.imp fun dy s2 F2 H2 e2 T2 q2 y ry => ?_⟩
    obtain ⟨d, e, q3⟩ := q2.opt T2
    exact h2 σ F2 H2 env s2 _ y _ dy d Q T2 (rx.mono e2) ry e fun F' H' v e' T' rv => q3 F' H' e' T' v rv
  | _ => exact q.elim
def startsD : D → D → Option D
  | .str a, .str b => some (.bl (Txt.startswith a b))
  | _, _ => none
theorem d_startswith (ho : PE X o (tM c ma)) (he : PE X e (tM c mb)) (hs : starEach [e] X.env = [(false, eval e X.env)] := by rfl) (hbase : attributeBase o "startswith" X.env (eval o X.env) = eval o X.env := by rfl) (hline : (apos.endLine == pos.line) = true := by rfl) :
    PE X (.Call (.Attribute o "startswith" apos) [e] [] pos) (tM c (mStr1 startsD ma mb)) := by
  refine d_str1 F.slot_str_startswith F.type_str_startswith mt_startswith (fun σ F H env s x y dx dy d Q T rx ry e q => ?_) ho he hs hbase hline
  unfold startsD at e
  split at e
  · cases e; cases rep_str rx; cases rep_str ry
    exact ⟨_, _, rfl, rfl, q F H _ (Same.refl _) T rfl⟩
  · cases e
def partitionD : D → D → Option D
  | .str a, .str b => if b.length ≠ 0 ∧ a.length ≤ sizeLine then some (.tup [.str (Txt.partition a b).1, .str (Txt.partition a b).2.1, .str (Txt.partition a b).2.2]) else none
  | _, _ => none
theorem d_partition (ho : PE X o (tM c ma)) (he : PE X e (tM c mb)) (hs : starEach [e] X.env = [(false, eval e X.env)] := by rfl) (hbase : attributeBase o "partition" X.env (eval o X.env) = eval o X.env := by rfl) (hline : (apos.endLine == pos.line) = true := by rfl) :
    PE X (.Call (.Attribute o "partition" apos) [e] [] pos) (tM c (mStr1 partitionD ma mb)) := by
  refine d_str1 F.slot_str_partition F.type_str_partition mt_partition (fun σ F H env s x y dx dy d Q T rx ry e q => ?_) ho he hs hbase hline
  unfold partitionD at e
  split at e
  · split at e
    · rename_i hl
      cases e; cases rep_str rx; cases rep_str ry
      refine ⟨_, _, rfl, rfl, beq_eq_false_iff_ne.mpr hl.1, hl.2, fun p np => ?_⟩
      refine q _ _ _ (same_upd (T.ff np)) (T.new np (fun ps z => by cases z)) ⟨p, _, rfl, SqT.of upd_same, _, _, rfl, rfl, _, _, rfl, rfl, _, _, rfl, rfl, rfl⟩
    · cases e
  · cases e
/-- s.index(t), t stands there -/
def indexD : D → D → Option D
  | .str a, .str b => (Txt.index0 a b).map fun (k : Nat) => .int (k : Int)
  | _, _ => none
theorem d_index (hk : c.C.K = X.K) (hc : X.calm = true) (tk : Takes X c.W) (ho : PE X o (tM c ma)) (he : PE X e (tM c mb)) (hs : starEach [e] X.env = (false, eval e X.env) :: starEach [] X.env := by rfl) (hbase : attributeBase o "index" X.env (eval o X.env) = eval o X.env := by rfl) (hline : (apos.endLine == pos.line) = true := by rfl)
    (hfew : ((backTo pos (starEach [e] X.env)).all (fun x => !x.1) && (backToKw pos (keywordEach [] X.env)).all (fun x => x.1.isSome) && decide ([e].length + ([] : List Keyword).length + (if ([] : List Keyword).isEmpty then 0 else 1) < 30)) = true := by rfl) (hplain : (backTo pos (starEach [] X.env)).any (·.1) = false := by rfl) :
    PE X (.Call (.Attribute o "index" apos) [e] [] pos) (tM c (mStr1 indexD ma mb)) := by
  refine PEimp (pe_bmS PySem.F.plainAttrs_str PySem.F.slot_str_index PySem.F.type_str_index (mt_indexX hc tk) ho (a_cons he a_nil hs) hbase hfew hline hs hplain) fun σ H Q h => ?_
  refine tM_bind h fun dx s1 F1 H1 x env T1 rx q => ?_
  cases dx with
  | str z =>
    have q : Fin c F1 σ env (bindM mb (fun y => optM (indexD (.str z) y)) env s1) _ := q
    cases rep_str rx
    have q' : Fin c F1 σ env (consM mb (retM []) env s1) (fun ds s2 F2 H2 => ∀ vs, Reps c.C F2 ds vs → rIndexX c.W σ (.str z) vs H2 Q) := by
      unfold consM bindM retM
      unfold bindM at q
      cases r : mb env s1 with
      | exc k fs s' => rw [r] at q; exact q
      | bad => rw [r] at q; exact q
      | ok p =>
        rw [r] at q
        intro F2 H2 e2 T2 vs rvs
        obtain ⟨y, rfl, ry⟩ := reps1 rvs
        have q2 := Fin.same q e2
        obtain ⟨d, e, q3⟩ := q2.opt T2
        unfold indexD at e
        split at e
        · rename_i a b e1 e2
          cases e1
          rw [e2] at ry
          cases rep_str ry
          cases w : Txt.index0 z b with
          | none => rw [w] at e; cases e
          | some k =>
            rw [w] at e; cases e
            refine ⟨z, b, rfl, rfl, fun k' e' => ?_, fun e' => ?_⟩
            · cases w.symm.trans e'
              exact q3 F2 H2 (Same.refl _) T2 _ rfl
            · rw [w] at e'; cases e'
        · cases e
    exact ⟨by first | trivial | rfl | exact ⟨_, rfl⟩, F1, env, s1, T1, q'⟩
  | _ => exact q.elim
end
end DL
set_option Elab.async false
set_option linter.all false
set_option maxRecDepth 100000
namespace DL
open PySem PySem.Spec PyProof.Rows L2
section
variable {S : Type} {C : DC} {I : SI S} {B : En} {F H F' H' : Hp} {σ : St} {env : Env} {s s' : S}
/-- the entry of a part that begins here -/
def En.at (B : En) (I : SI S) (F H : Hp) (σ : St) (env : Env) : En := ⟨F, H, (fun a => I.ex a ∨ ∃ i, OwnAt env σ i a), B.me⟩
theorem Stt.rebase (T : Stt C I B F H σ env s) : Stt C I (B.at I F H σ env) F H σ env s where
  sub := T.sub
  nt := T.nt
  inv := T.inv
  len := T.len
  sl := T.sl
  dj := T.dj
  ni := T.ni
  fr := fun _ _ e _ _ => e
  f0 := Same.refl _
  nw := fun a o e n => by rw [show F a = none from n] at e; cases e
  tb := T.tb
  al := fun _ n => n
  ie := fun _ h => .inl h
  oe := fun i a h => .inr (.inr ⟨i, h⟩)
theorem Stt.back {σ' : St} {env' : Env} (T : Stt C I B F H σ env s) (U : Stt C I (B.at I F H σ env) F' H' σ' env' s') (ho : ∀ i a, OwnAt env' σ' i a → B.H0 a = none ∨ B.ex a) : Stt C I B F' H' σ' env' s' where
  sub := U.sub
  nt := U.nt
  inv := U.inv
  len := U.len
  sl := U.sl
  dj := U.dj
  ni := U.ni
  fr := fun a o e n1 n2 => U.fr a o (T.fr a o e n1 n2) (fun z => by
    rcases z with z | ⟨i, z⟩
    · exact n1 (T.ie a z)
    · rcases T.oe i a z with q | q
      · rw [q] at e; cases e
      · exact n1 q) n2
  f0 := T.f0.trans U.f0
  nw := fun a o e n => by
    cases q : F a with
    | some o' => exact T.nw a o' q n
    | none =>
      have z := U.nw a o e q
      cases w : B.H0 a with
      | none => rfl
      | some o2 => exact absurd z (T.al a (by rw [w]; simp))
  tb := U.tb
  al := fun a n => U.al a (T.al a n)
  ie := T.ie
  oe := ho
/-- behind a call: its end, told from its entry -/
theorem Stt.after (T : Stt C I B F H σ env s) {ex : Addr → Prop} {me : Me} (hex : ∀ a, ex a → I.ex a ∨ (B.H0 a = none ∧ ∀ i, ¬ OwnAt env σ i a)) (A : Stt C I ⟨F, H, ex, me⟩ F' H' [] [] s') : Stt C I B F' H' σ env s' where
  sub := A.sub
  nt := A.nt
  inv := A.inv
  len := T.len
  sl := fun i x e => (T.sl i x e).keep A.f0 fun a h1 h2 => by
    have q : OwnAt env σ i a := ⟨x, e, h2, h1⟩
    obtain ⟨k1, k2, k3⟩ := T.own_there q
    cases w : H a with
    | none => exact absurd w k2
    | some o =>
      have e2 := A.fr a o w (fun z => (hex a z).elim (T.ni i a q) fun w => w.2 i q) (fun ps z => k3 ps (by rw [w, z]))
      refine ⟨?_, e2⟩
      cases z : F' a with
      | none => rfl
      | some o' =>
        have z2 := A.nw a o' z k1
        rw [show H a = none from z2] at w; cases w
  dj := T.dj
  ni := T.ni
  fr := fun a o e n1 n2 => A.fr a o (T.fr a o e n1 n2) (fun z => (hex a z).elim (fun w => n1 (T.ie a w)) fun w => by rw [w.1] at e; cases e) n2
  f0 := T.f0.trans A.f0
  nw := fun a o e n => by
    cases q : F a with
    | some o' => exact T.nw a o' q n
    | none =>
      have z : H a = none := A.nw a o e q
      cases w : B.H0 a with
      | none => rfl
      | some o2 => exact absurd z (T.al a (by rw [w]; simp))
  tb := A.tb
  al := fun a n => A.al a (T.al a n)
  ie := T.ie
  oe := T.oe
/-- a written object of ours is closed: it is read only from now on -/
theorem Stt.freeze (T : Stt C I B F H σ env s) {p : Addr} {o : HO} (hp : H p = some o) (hf : F p = none) (ho : ∀ ps, o ≠ .tbl ps) (hi : ¬ I.ex p) (hn : ∀ i, ¬ OwnAt env σ i p) (h0 : B.H0 p = none) : Stt C I B (upd F p o) H σ env s where
  sub := fun a u e => by
    by_cases z : a = p
    · subst z; rw [upd_same] at e; cases e; exact hp
    · rw [upd_ne z] at e; exact T.sub a u e
  nt := noTbl_upd T.nt ho
  inv := I.mono T.inv (same_upd hf) fun a ha => ⟨upd_ne fun z => hi (z ▸ ha), rfl⟩
  len := T.len
  sl := fun i x e => (T.sl i x e).keep (same_upd hf) fun a h1 h2 => by
    have q : OwnAt env σ i a := ⟨x, e, h2, h1⟩
    obtain ⟨k1, k2, k3⟩ := T.own_there q
    rw [upd_ne (fun z => by subst z; exact hn i q)]
    exact ⟨k1, rfl⟩
  dj := T.dj
  ni := T.ni
  fr := T.fr
  f0 := T.f0.trans (same_upd hf)
  nw := fun a u e n => by
    by_cases z : a = p
    · subst z; exact h0
    · rw [upd_ne z] at e; exact T.nw a u e n
  tb := T.tb
  al := T.al
  ie := T.ie
  oe := T.oe
/-- the entry of a def -/
theorem Stt.start {ds : List D} {vs : List V} {ex : Addr → Prop} {me : Me} {k : Nat} (hs : Same F H) (hn : NoTbl F) (hi : I.inv s F H) (ht : LamX.Tabs C.T H) (hr : Reps C F ds vs) (hex : ∀ a, I.ex a → ex a) :
    Stt C I ⟨F, H, ex, me⟩ F H (vs.map some ++ List.replicate k none) (ds.map Slot.d ++ List.replicate k Slot.no) s where
  sub := hs
  nt := hn
  inv := hi
  len := by simp [hr.length]
  sl := fun i x e => by
    by_cases h : i < ds.length
    · have h2 : i < vs.length := by rw [hr.length]; exact h
      rw [List.getElem?_append_left (by simpa using h)] at e
      rw [List.getElem?_append_left (by simpa using h2)]
      rw [List.getElem?_map] at e ⊢
      cases q : ds[i]? with
      | none => rw [q] at e; cases e
      | some d =>
        rw [q] at e; cases e
        obtain ⟨v, a, b⟩ := hr.get q
        rw [a]
        exact ⟨v, rfl, b⟩
    · rw [List.getElem?_append_right (by simpa using h), List.getElem?_replicate] at e
      split at e
      · cases e; trivial
      · cases e
  dj := fun i j a _ h => by
    exfalso
    obtain ⟨x, e, o, _⟩ := h
    by_cases h : i < ds.length
    · rw [List.getElem?_append_left (by simpa using h), List.getElem?_map] at e
      cases q : ds[i]? with
      | none => rw [q] at e; cases e
      | some d => rw [q] at e; cases e; cases o
    · rw [List.getElem?_append_right (by simpa using h), List.getElem?_replicate] at e
      split at e
      · cases e; cases o
      · cases e
  ni := fun i a h => by
    exfalso
    obtain ⟨x, e, o, _⟩ := h
    by_cases h : i < ds.length
    · rw [List.getElem?_append_left (by simpa using h), List.getElem?_map] at e
      cases q : ds[i]? with
      | none => rw [q] at e; cases e
      | some d => rw [q] at e; cases e; cases o
    · rw [List.getElem?_append_right (by simpa using h), List.getElem?_replicate] at e
      split at e
      · cases e; cases o
      · cases e
  fr := fun _ _ e _ _ => e
  f0 := Same.refl _
  nw := fun a o e n => by rw [show F a = none from n] at e; cases e
  tb := ht
  al := fun _ n => n
  ie := hex
  oe := fun i a h => by
    exfalso
    obtain ⟨x, e, o, _⟩ := h
    by_cases h : i < ds.length
    · rw [List.getElem?_append_left (by simpa using h), List.getElem?_map] at e
      cases q : ds[i]? with
      | none => rw [q] at e; cases e
      | some d => rw [q] at e; cases e; cases o
    · rw [List.getElem?_append_right (by simpa using h), List.getElem?_replicate] at e
      split at e
      · cases e; cases o
      · cases e
/-- a slot forgotten -/
theorem Stt.wipe (T : Stt C I B F H σ env s) {i : Nat} {v : Option V} : Stt C I B F H (σ.set i v) (env.set i .no) s where
  sub := T.sub
  nt := T.nt
  inv := T.inv
  len := by rw [List.length_set, List.length_set]; exact T.len
  sl := fun j x e => by
    by_cases z : j = i
    · subst z
      have h1 : j < env.length := by
        have := (List.getElem?_eq_some_iff.mp e).1
        simpa using this
      rw [List.getElem?_set_self h1] at e
      cases e
      trivial
    · rw [List.getElem?_set_ne (Ne.symm z)] at e ⊢
      exact T.sl j x e
  dj := fun j k a n h1 h2 => by
    rcases ownAt_set T.len h1 with ⟨_, z, _⟩ | ⟨_, h1⟩
    · cases z
    rcases ownAt_set T.len h2 with ⟨_, z, _⟩ | ⟨_, h2⟩
    · cases z
    exact T.dj j k a n h1 h2
  ni := fun j a h1 => by
    rcases ownAt_set T.len h1 with ⟨_, z, _⟩ | ⟨_, h1⟩
    · cases z
    exact T.ni j a h1
  fr := T.fr
  f0 := T.f0
  nw := T.nw
  tb := T.tb
  al := T.al
  ie := T.ie
  oe := fun j a h1 => by
    rcases ownAt_set T.len h1 with ⟨_, z, _⟩ | ⟨_, h1⟩
    · cases z
    exact T.oe j a h1
end
def FinS {S : Type} (c : Ct S) (F : Hp) (r : R (Out × S) (Env × S)) (D : Ends) : Prop :=
  match r with
  | .ok (.nx env', s') => ∀ σ' F' H', Same F F' → Stt c.C c.I c.B F' H' σ' env' s' → D.nx σ' H'
  | .ok (.rt d, s') => ∀ v σ' env' F' H', Same F F' → Stt c.C c.I c.B F' H' σ' env' s' → Rep c.C F' d v → D.rt v H'
  | .ok (.bk env', s') => ∀ σ' F' H', Same F F' → Stt c.C c.I c.B F' H' σ' env' s' → D.bk σ' H'
  | .ok (.ct env', s') => ∀ σ' F' H', Same F F' → Stt c.C c.I c.B F' H' σ' env' s' → D.ct σ' H'
  | .exc k fs (env', s') => ∀ cls dd σ' F' H', Same F F' → Stt c.C c.I c.B F' H' σ' env' s' → ExR c.C F' H' k fs cls dd → c.W cls dd σ' H'
  | .bad => False
theorem FinS.same {S : Type} {c : Ct S} {F F1 : Hp} {r : R (Out × S) (Env × S)} {D : Ends} (h : FinS c F r D) (e : Same F F1) : FinS c F1 r D := by
  cases r with
  | ok a =>
    obtain ⟨o, s'⟩ := a
    cases o with
    | nx env' => exact fun σ' F' H' x => h σ' F' H' (e.trans x)
    | rt d => exact fun v σ' env' F' H' x => h v σ' env' F' H' (e.trans x)
    | bk env' => exact fun σ' F' H' x => h σ' F' H' (e.trans x)
    | ct env' => exact fun σ' F' H' x => h σ' F' H' (e.trans x)
  | exc k fs p => exact fun cls dd σ' F' H' x => h cls dd σ' F' H' (e.trans x)
  | bad => exact h
def tS {S : Type} (c : Ct S) (m : MS S) : TS := fun D σ H => ∃ F env s, Stt c.C c.I c.B F H σ env s ∧ FinS c F (m env s) D
theorem PSimp {X : Cx} {st : Stmt} {t t' : TS} (h : PS X st t) (k : ∀ D σ H, t' D σ H → t D σ H) : PS X st t' := ⟨fun pins s σ H D I q => h.run pins s σ H D I (k D σ H q)⟩
theorem PSsimp {X : Cx} {st : List Stmt} {t t' : TS} (h : PSs X st t) (k : ∀ D σ H, t' D σ H → t D σ H) : PSs X st t' := ⟨fun pins s σ H D I q => h.run pins s σ H D I (k D σ H q)⟩
/-- an expression's outcome, then a statement's -/
def thenS {S α : Type} (m : M S α) (f : α → MS S) : MS S := fun env s => match m env s with
  | .ok (a, s') => f a env s'
  | .exc k fs s' => .exc k fs (env, s')
  | .bad => .bad
theorem FinS.bind {S α : Type} {c : Ct S} {F : Hp} {σ : St} {env : Env} {s : S} {m : M S α} {f : α → MS S} {D : Ends} (h : FinS c F (thenS m f env s) D) : Fin c F σ env (m env s) fun a s1 F1 _ => FinS c F1 (f a env s1) D := by
  unfold thenS at h
  cases e : m env s with
  | ok a =>
    rw [e] at h
    exact fun F' H' x _ => FinS.same h x
  | exc k fs s' =>
    rw [e] at h
    exact fun cls dd F' H' x T r => h cls dd σ F' H' x T r
  | bad =>
    rw [e] at h
    exact h
section
variable {S : Type} {c : Ct S} {X : Cx} {a b e o : Expr} {es rest : List Expr} {st : Stmt} {sts : List Stmt} {pos : Pos} {ma mb : M S D} {m : M S D} {ms : M S (List D)} {m1' m2' : MS S}
def nextS : MS S := fun env s => .ok (.nx env, s)
def seqS (m1 m2 : MS S) : MS S := fun env s => match m1 env s with
  | .ok (.nx env', s') => m2 env' s'
  | r => r
theorem ss_nil : PSs X [] (tS c nextS) := PSsimp pss_nil fun D σ H h => by
  obtain ⟨F, env, s, T, h⟩ := h
  exact h σ F H (Same.refl _) T
theorem ss_cons (h1 : PS X st (tS c m1')) (h2 : PSs X sts (tS c m2')) : PSs X (st :: sts) (tS c (seqS m1' m2')) := by
  refine PSsimp (pss_cons h1 h2) fun D σ H h => ?_
  obtain ⟨F, env, s, T, h⟩ := h
  refine ⟨F, env, s, T, ?_⟩
  unfold seqS at h
  cases q : m1' env s with
  | ok a =>
    obtain ⟨o, s'⟩ := a
    rw [q] at h
    cases o with
    | nx env' => exact fun σ' F' H' x T' => ⟨F', env', s', T', h.same x⟩
    | rt d => exact h
    | bk env' => exact h
    | ct env' => exact h
  | exc k fs p => rw [q] at h; exact h
  | bad => rw [q] at h; exact h
theorem ss_one (h1 : PS X st (tS c m1')) : PSs X [st] (tS c m1') := pss_one h1
def exprS (m : M S D) : MS S := thenS m fun _ => nextS
theorem s_expr (he : PE X e (tM c m)) (hs : swapsWith e none pos.line X.env = pure false := by rfl) : PS X (.Expr e pos) (tS c (exprS m)) := by
  refine PSimp (ps_expr he hs) fun D σ H h => ?_
  obtain ⟨F, env, s, T, h⟩ := h
  exact ⟨F, env, s, T, h.bind.imp fun d s1 F1 H1 e1 T1 q v _ => q σ F1 H1 (Same.refl _) T1⟩
theorem s_pass : PS X (.Pass pos) (tS c nextS) := PSimp ps_pass fun D σ H h => by
  obtain ⟨F, env, s, T, h⟩ := h
  exact h σ F H (Same.refl _) T
def breakS : MS S := fun env s => .ok (.bk env, s)
def contS : MS S := fun env s => .ok (.ct env, s)
theorem s_break : PS X (.Break pos) (tS c breakS) := PSimp ps_break fun D σ H h => by
  obtain ⟨F, env, s, T, h⟩ := h
  exact h σ F H (Same.refl _) T
theorem s_continue : PS X (.Continue pos) (tS c contS) := PSimp ps_continue fun D σ H h => by
  obtain ⟨F, env, s, T, h⟩ := h
  exact h σ F H (Same.refl _) T
def retS (m : M S D) : MS S := thenS m fun d => fun _ s => .ok (.rt d, s)
theorem s_ret (he : PE X e (tM c m)) : PS X (.Return (some e) pos) (tS c (retS m)) := by
  refine PSimp (ps_ret he) fun D σ H h => ?_
  obtain ⟨F, env, s, T, h⟩ := h
  exact ⟨F, env, s, T, h.bind.imp fun d s1 F1 H1 e1 T1 q v rv => q v σ env F1 H1 (Same.refl _) T1 rv⟩
theorem s_retN : PS X (.Return none pos) (tS c (retS (retM .non))) := PSimp ps_retN fun D σ H h => by
  obtain ⟨F, env, s, T, h⟩ := h
  exact h _ σ env F H (Same.refl _) T rfl
def ifS (t : M S Bool) (m1 m2 : MS S) : MS S := thenS t fun k => if k = true then m1 else m2
theorem s_if {t : Expr} {p q : List Stmt} {mt : M S Bool} (ht : PT X t (tT c mt)) (h1 : PSs X p (tS c m1')) (h2 : PSs X q (tS c m2')) : PS X (.If t p q pos) (tS c (ifS mt m1' m2')) := by
  refine PSimp (ps_if ht h1 h2) fun D σ H h => ?_
  obtain ⟨F, env, s, T, h⟩ := h
  refine ⟨F, env, s, T, h.bind.imp fun k s1 F1 H1 e1 T1 q => ?_⟩
  cases k with
  | true => exact (if_pos rfl).mpr ⟨F1, env, s1, T1, q⟩
  | false => exact (if_neg Bool.false_ne_true).mpr ⟨F1, env, s1, T1, q⟩
def setS (i : Nat) (m : M S D) : MS S := thenS m fun d => fun env s => .ok (.nx (env.set i (.d d)), s)
theorem s_set {i : Nat} {x : Str} {p : Pos} (hN : X.N.Nodup) (he : PE X e (tM c m)) (hi : X.N[i]? = some x := by rfl) (hx : Loc X.env.scope x := by first | exact Or.inl rfl | exact Or.inr rfl) (hs : swapsWith e (some (.Name x p)) pos.line X.env = pure false := by rfl) (hf : X.fn x = true ∨ X.env.scope.names.lookup x = some .local := by first | exact .inl rfl | exact .inr rfl) :
    PS X (.Assign [.Name x p] e pos) (tS c (setS i m)) := by
  refine PSimp (ps_set hN hi hx he hs hf) fun D σ H h => ?_
  obtain ⟨F, env, s, T, h⟩ := h
  exact ⟨F, env, s, T, h.bind.imp fun d s1 F1 H1 e1 T1 q v rv => q _ F1 H1 (Same.refl _) (T1.setD rv)⟩
/-- a, b = e1, e2 -/
def parS (i j : Nat) (ms : M S (List D)) : MS S := thenS ms fun ds => fun env s => match ds with
  | [x, y] => .ok (.nx ((env.set i (.d x)).set j (.d y)), s)
  | _ => .bad
theorem s_par {i j : Nat} {x y : Str} {px py pt : Pos} {kt k2 pt2} (hc : X.calm = true) (hN : X.N.Nodup) (ha : PA X [a, b] (tA c ms)) (hi : X.N[i]? = some x := by rfl) (hj : X.N[j]? = some y := by rfl) (hij : i ≠ j := by decide)
    (hx : X.env.scope.names.lookup x = some .local := by rfl) (hy : X.env.scope.names.lookup y = some .local := by rfl)
    (hw : swappedStores [.Tuple [.Name x px, .Name y py] kt pt] (.Tuple [a, b] k2 pt2) X.env = pure (some [x, y]) := by rfl)
    (hs : swapsWithSole [.Tuple [.Name x px, .Name y py] kt pt] (.Tuple [a, b] k2 pt2) pos.line X.env = pure false := by rfl) :
    PS X (.Assign [.Tuple [.Name x px, .Name y py] kt pt] (.Tuple [a, b] k2 pt2) pos) (tS c (parS i j ms)) := by
  refine PSimp (ps_par hc hN hi hj hij hx hy ha hw hs) fun D σ H h => ?_
  obtain ⟨F, env, s, T, h⟩ := h
  refine ⟨F, env, s, T, h.bind.imp fun ds s1 F1 H1 e1 T1 q vs rvs => ?_⟩
  match ds, q, rvs with
  | [x, y], q, rvs =>
    obtain ⟨v, v', rfl, r1, r2⟩ := reps2 rvs
    exact ⟨v, v', rfl, q _ F1 H1 (Same.refl _) ((T1.setD r1).setD r2)⟩
  | [], q, _ => exact q.elim
  | [_], q, _ => exact q.elim
  | _ :: _ :: _ :: _, q, _ => exact q.elim
inductive Tg where
  | nm (i : Nat) | tp (is : List Nat)
def gNames : List Nat → TGs
  | [] => gNil
  | i :: is => gCons (gName i) (gNames is)
def gT (K : PySem.W.Frag) : Tg → TG
  | .nm i => gName i
  | .tp is => gTup K is.length (gNames is)
def setAll : List Nat → List D → Env → Env
  | i :: is, d :: ds, env => setAll is ds (env.set i (.d d))
  | _, _, env => env
def assignT : Tg → D → Env → Option Env
  | .nm i, d, env => some (env.set i (.d d))
  | .tp is, .tup ds, env => if ds.length = is.length then some (setAll is ds env) else none
  | .tp _, _, _ => none
theorem names_set {F H : Hp} {Q : St → Hp → Prop} : ∀ {is : List Nat} {ds : List D} {vs : List V} {σ : St} {env : Env} {s : S}, ds.length = is.length → Reps c.C F ds vs → Stt c.C c.I c.B F H σ env s →
    (∀ σ', Stt c.C c.I c.B F H σ' (setAll is ds env) s → Q σ' H) → gNames is vs σ H Q
  | [], [], _, σ, env, s, _, r, T, q => by cases (show _ = [] from r); exact ⟨rfl, q σ T⟩
  | i :: is, d :: ds, _, σ, env, s, hl, ⟨v, w, h1, h2, h3⟩, T, q => by
    subst h1
    exact ⟨v, w, rfl, names_set (by simpa using hl) h3 (T.setD h2) q⟩
theorem tg_set {F H : Hp} {Q : St → Hp → Prop} {tg : Tg} {d : D} {v : V} {σ : St} {env env' : Env} {s : S} (T : Stt c.C c.I c.B F H σ env s) (r : Rep c.C F d v) (e : assignT tg d env = some env')
    (q : ∀ σ', Stt c.C c.I c.B F H σ' env' s → Q σ' H) : gT c.C.K tg v σ H Q := by
  cases tg with
  | nm i => cases e; exact q _ (T.setD r)
  | tp is =>
    cases d with
    | tup ds =>
      simp only [assignT] at e
      split at e
      · rename_i hl
        cases e
        obtain ⟨a, vs, h1, h2, h3⟩ := r
        exact ⟨a, vs, h1, sqT_same T.sub h2, h3.length.trans hl, names_set hl h3 T q⟩
      · cases e
    | _ => cases e
theorem g_name {i : Nat} {x : Str} (hN : X.N.Nodup) (hi : X.N[i]? = some x := by rfl) (hx : Loc X.env.scope x := by first | exact Or.inl rfl | exact Or.inr rfl) (hf : X.fn x = true ∨ X.env.scope.names.lookup x = some .local := by first | exact .inl rfl | exact .inr rfl) : PG X (.Name x pos) (gT c.C.K (.nm i)) := pg_name hN hi hx hf
theorem g_nil : PGs X [] (gNames []) := pgs_nil
theorem g_cons {x : Expr} {es : List Expr} {i : Nat} {is : List Nat} (h1 : PG X x (gName i)) (h2 : PGs X es (gNames is)) (hs : (assignEach (x :: es) X.env).map (·.2) = assign x X.env :: (assignEach es X.env).map (·.2) := by rfl) : PGs X (x :: es) (gNames (i :: is)) := pgs_cons h1 h2 hs
theorem g_tup {es : List Expr} {k : Nat} {is : List Nat} (hk : c.C.K = X.K) (hc : X.calm = true) (h : PGs X es (gNames is)) (hn : (assignEach es X.env).length = is.length := by rfl) (hst : (assignEach es X.env).findIdx? (·.1) = none := by rfl) : PG X (.Tuple es k pos) (gT c.C.K (.tp is)) := by
  rw [hk]; exact pg_tup hc h hn hst
/-- targets = e, any form of gT -/
def asgS (tg : Tg) (m : M S D) : MS S := thenS m fun d => fun env s => match assignT tg d env with
  | some env' => .ok (.nx env', s)
  | none => .bad
theorem s_asg {t : Expr} {tg : Tg} (he : PE X e (tM c m)) (hg : PG X t (gT c.C.K tg)) (hs : swapsWithSole [t] e pos.line X.env = pure false := by rfl) (hw : swappedStores [t] e X.env = pure none := by rfl)
    (h1 : (assignEach [t] X.env).map (·.2) = [assign t X.env] := by rfl) : PS X (.Assign [t] e pos) (tS c (asgS tg m)) := by
  refine PSimp (ps_asg he hg hs hw h1) fun D σ H h => ?_
  obtain ⟨F, env, s, T, h⟩ := h
  refine ⟨F, env, s, T, h.bind.imp fun d s1 F1 H1 e1 T1 q v rv => ?_⟩
  cases z : assignT tg d env with
  | none =>
    rw [z] at q; exact q.elim
  | some env' =>
    rw [z] at q
    exact tg_set T1 rv z fun σ' T' => q σ' F1 H1 (Same.refl _) T'
end
end DL
set_option Elab.async false
set_option linter.all false
set_option maxRecDepth 100000
namespace DL
open PySem PySem.Spec PyProof.Rows L2
/-- an iterator yields the trees ds -/
structure JOk (C : DC) (J : It) (F : Hp) (ds : List D) : Prop where
  go : ∀ i F' H, Same F F' → Same F' H → i < ds.length → J.go i H
  yl : ∀ i F' H x H' d, Same F F' → Same F' H → ds[i]? = some d → J.yld i H x H' → (H' = H ∧ Rep C F' d x) ∨ ∃ p o, H p = none ∧ (∀ ps, o ≠ .tbl ps) ∧ H' = upd H p o ∧ Rep C (upd F' p o) d x
  stop : ∀ i F' H, Same F F' → Same F' H → ds.length ≤ i → J.stop i H
theorem JOk.same {C : DC} {J : It} {F F1 : Hp} {ds : List D} (h : JOk C J F ds) (e : Same F F1) : JOk C J F1 ds :=
  ⟨fun i F' H a b => h.go i F' H (e.trans a) b, fun i F' H x H' d a b => h.yl i F' H x H' d (e.trans a) b, fun i F' H a b => h.stop i F' H (e.trans a) b⟩
section
variable {S : Type} {c : Ct S} {X : Cx} {a b e o iter tg : Expr} {es rest : List Expr} {st : Stmt} {sts body : List Stmt} {pos : Pos} {ma mb : M S D} {m : M S D} {ms mi : M S (List D)} {m1' m2' : MS S}
def tI (c : Ct S) (m : M S (List D)) : TI := fun σ H R => ∃ F env s, Stt c.C c.I c.B F H σ env s ∧ Fin c F σ env (m env s) fun ds _ F' H' => ∀ J, JOk c.C J F' ds → R J H'
theorem PIimp {wi wi' : TI} (h : PI X tg e wi) (k : ∀ σ H R, wi' σ H R → wi σ H R) : PI X tg e wi' := ⟨fun pins s σ H R I q => h.run pins s σ H R I (k σ H R q)⟩
theorem jok_list {C : DC} {K : PySem.W.Frag} (hk : C.K = K) {F : Hp} {a : Addr} {vs : List V} {ds : List D} (h : SqL K F a vs) (r : Reps C F ds vs) : JOk C (Itl K a) F ds where
  go := fun i F' H e1 e2 hi => by
    obtain ⟨v, hv, _⟩ := r.get (List.getElem?_eq_getElem hi)
    exact ⟨vs, v, e2.seq (e1.seq h), hv⟩
  yl := fun i F' H x H' d e1 e2 hd y => by
    obtain ⟨rfl, y⟩ := y
    obtain ⟨v, hv, rv⟩ := r.get hd
    have z := y vs (e2.seq (e1.seq h))
    rw [hv] at z; cases z
    exact .inl ⟨rfl, rv.mono e1⟩
  stop := fun i F' H e1 e2 hi => ⟨vs, e2.seq (e1.seq h), by rw [r.length]; exact hi⟩
theorem jok_tup {C : DC} {K : PySem.W.Frag} (hk : C.K = K) {F : Hp} {a : Addr} {vs : List V} {ds : List D} (h : SqT K F a vs) (r : Reps C F ds vs) : JOk C (Itt K a) F ds where
  go := fun i F' H e1 e2 hi => by
    obtain ⟨v, hv, _⟩ := r.get (List.getElem?_eq_getElem hi)
    exact ⟨vs, v, sqT_same e2 (sqT_same e1 h), hv⟩
  yl := fun i F' H x H' d e1 e2 hd y => by
    obtain ⟨rfl, y⟩ := y
    obtain ⟨v, hv, rv⟩ := r.get hd
    have z := y vs (sqT_same e2 (sqT_same e1 h))
    rw [hv] at z; cases z
    exact .inl ⟨rfl, rv.mono e1⟩
  stop := fun i F' H e1 e2 hi => ⟨vs, sqT_same e2 (sqT_same e1 h), by rw [r.length]; exact hi⟩
def rangeL (lo : Int) (n : Nat) : List D := (List.range n).map fun i : Nat => D.int (lo + (i : Int))
theorem jok_range {C : DC} {F : Hp} {lo : Int} {n : Nat} : JOk C (Itr lo n) F (rangeL lo n) where
  go := fun i F' H _ _ hi => by show i < n; simpa [rangeL] using hi
  yl := fun i F' H x H' d _ _ hd y => by
    obtain ⟨rfl, rfl⟩ := y
    simp only [rangeL, List.getElem?_map] at hd
    cases q : (List.range n)[i]? with
    | none => rw [q] at hd; cases hd
    | some j =>
      rw [q] at hd; cases hd
      have : j = i := by
        have := List.getElem?_eq_some_iff.mp q
        obtain ⟨h1, h2⟩ := this
        simpa using h2.symm
      subst this
      exact .inl ⟨rfl, rfl⟩
  stop := fun i F' H _ _ hi => by show n ≤ i; simpa [rangeL] using hi
def signsL (x : Str) : List D := x.cps.toList.map fun k => D.str ⟨#[k]⟩
theorem jok_str {C : DC} {F : Hp} {x : Str} : JOk C (Its x) F (signsL x) where
  go := fun i F' H _ _ hi => by show i < x.cps.size; simpa [signsL] using hi
  yl := fun i F' H v H' d _ _ hd y => by
    obtain ⟨rfl, k, hk, rfl⟩ := y
    simp only [signsL, List.getElem?_map, Array.getElem?_toList, hk] at hd
    cases hd
    exact .inl ⟨rfl, rfl⟩
  stop := fun i F' H _ _ hi => by show x.cps.size ≤ i; simpa [signsL] using hi
def lstOf : D → Option (List D)
  | .lst xs => some xs
  | _ => none
def tupOf : D → Option (List D)
  | .tup xs => some xs
  | _ => none
def strOf : D → Option (List D)
  | .str x => some (signsL x)
  | _ => none
def itM (f : D → Option (List D)) (m : M S D) : M S (List D) := bindM m fun d => optM (f d)
theorem i_list (hk : c.C.K = X.K) (he : PE X e (tM c m)) : PI X tg e (tI c (itM lstOf m)) := by
  refine PIimp (pi_list he) fun σ H R h => ?_
  obtain ⟨F, env, s, T, h⟩ := h
  refine ⟨F, env, s, T, h.bind.imp fun d s1 F1 H1 e1 T1 q v rv => ?_⟩
  obtain ⟨ds, e, q⟩ := q.opt T1
  unfold lstOf at e
  split at e
  · cases e
    obtain ⟨a, vs, h1, h2, h3⟩ := rv
    rw [hk] at h2
    exact ⟨a, h1, ⟨vs, T1.sub.seq h2⟩, q F1 H1 (Same.refl _) T1 _ (jok_list hk h2 h3)⟩
  · cases e
theorem i_tup (hk : c.C.K = X.K) (he : PE X e (tM c m)) : PI X tg e (tI c (itM tupOf m)) := by
  refine PIimp (pi_tup he) fun σ H R h => ?_
  obtain ⟨F, env, s, T, h⟩ := h
  refine ⟨F, env, s, T, h.bind.imp fun d s1 F1 H1 e1 T1 q v rv => ?_⟩
  obtain ⟨ds, e, q⟩ := q.opt T1
  unfold tupOf at e
  split at e
  · cases e
    obtain ⟨a, vs, h1, h2, h3⟩ := rv
    rw [hk] at h2
    exact ⟨a, h1, ⟨vs, sqT_same T1.sub h2⟩, q F1 H1 (Same.refl _) T1 _ (jok_tup hk h2 h3)⟩
  · cases e
theorem i_str (he : PE X e (tM c m)) : PI X tg e (tI c (itM strOf m)) := by
  refine PIimp (pi_str he) fun σ H R h => ?_
  obtain ⟨F, env, s, T, h⟩ := h
  refine ⟨F, env, s, T, h.bind.imp fun d s1 F1 H1 e1 T1 q v rv => ?_⟩
  obtain ⟨ds, e, q⟩ := q.opt T1
  unfold strOf at e
  split at e
  · cases e
    cases rep_str rv
    exact ⟨_, rfl, q F1 H1 (Same.refl _) T1 _ jok_str⟩
  · cases e
def rng1 : List D → Option (List D)
  | [.int j] => if j.natAbs < 2 ^ 62 then some (rangeL 0 j.toNat) else none
  | _ => none
def rng2 : List D → Option (List D)
  | [.int i, .int j] => if i.natAbs < 2 ^ 62 ∧ j.natAbs < 2 ^ 62 then some (rangeL i (j - i).toNat) else none
  | _ => none
def itA (f : List D → Option (List D)) (ms : M S (List D)) : M S (List D) := bindM ms fun ds => optM (f ds)
theorem inRange1 {j : Int} (h : j.natAbs < 2 ^ 62) : -(2 ^ 62) ≤ j ∧ j < 2 ^ 62 := by constructor <;> omega
theorem inRange2 {i j : Int} (h : i.natAbs < 2 ^ 62 ∧ j.natAbs < 2 ^ 62) : -(2 ^ 62) ≤ i ∧ i < 2 ^ 62 ∧ -(2 ^ 62) ≤ j ∧ j < 2 ^ 62 := ⟨(inRange1 h.1).1, (inRange1 h.1).2, (inRange1 h.2).1, (inRange1 h.2).2⟩
theorem i_range1 {p : Pos} (hm : X.mg "range" = none) (ha : PA X [a] (tA c ms)) (hg : Gl X "range" := by rfl) (hs : starEach [a] X.env = [(false, eval a X.env)] := by rfl) : PI X tg (.Call (.Name "range" p) [a] [] pos) (tI c (itA rng1 ms)) := by
  refine PIimp (pi_range1 hg hm ha hs) fun σ H R h => ?_
  obtain ⟨F, env, s, T, h⟩ := h
  refine ⟨F, env, s, T, h.bind.imp fun ds s1 F1 H1 e1 T1 q vs rvs => ?_⟩
  obtain ⟨is, e, q⟩ := q.opt T1
  unfold rng1 at e
  split at e
  · split at e
    · rename_i hl0
      have hl := inRange1 hl0
      cases e
      obtain ⟨v, rfl, r⟩ := reps1 rvs
      cases rep_int r
      exact ⟨_, rfl, hl.1, hl.2, q F1 H1 (Same.refl _) T1 _ jok_range⟩
    · cases e
  · cases e
theorem i_range2 {p : Pos} (hm : X.mg "range" = none) (ha : PA X [a, b] (tA c ms)) (hg : Gl X "range" := by rfl) (hs : starEach [a, b] X.env = [(false, eval a X.env), (false, eval b X.env)] := by rfl) (hs2 : starEach [b] X.env = [(false, eval b X.env)] := by rfl) : PI X tg (.Call (.Name "range" p) [a, b] [] pos) (tI c (itA rng2 ms)) := by
  refine PIimp (pi_range2 hg hm ha hs hs2) fun σ H R h => ?_
  obtain ⟨F, env, s, T, h⟩ := h
  refine ⟨F, env, s, T, h.bind.imp fun ds s1 F1 H1 e1 T1 q vs rvs => ?_⟩
  obtain ⟨is, e, q⟩ := q.opt T1
  unfold rng2 at e
  split at e
  · split at e
    · rename_i hl0
      have hl := inRange2 hl0
      cases e
      obtain ⟨v, v', rfl, r, r'⟩ := reps2 rvs
      cases rep_int r; cases rep_int r'
      exact ⟨_, _, rfl, hl, q F1 H1 (Same.refl _) T1 _ jok_range⟩
    · cases e
  · cases e
def forLoop (tg : Tg) (mb : MS S) : List D → MS S
  | [], env, s => .ok (.nx env, s)
  | d :: r, env, s => match assignT tg d env with
    | none => .bad
    | some env1 => match mb env1 s with
      | .ok (.nx e, s') => forLoop tg mb r e s'
      | .ok (.ct e, s') => forLoop tg mb r e s'
      | .ok (.bk e, s') => .ok (.nx e, s')
      | .ok (.rt d, s') => .ok (.rt d, s')
      | .exc k fs p => .exc k fs p
      | .bad => .bad
def forS (tg : Tg) (mi : M S (List D)) (mb : MS S) : MS S := thenS mi fun ds => forLoop tg mb ds
theorem s_for {mb : MS S} {g : Tg} (hp : PassesOwn (model X.prog X.w) X.A X.env X.xe) (hc : X.calm = true) (hi : PI X tg iter (tI c mi)) (hg : PG X tg (gT c.C.K g)) (hb : PSs X body (tS c mb))
    (hs : ∀ x, foldedSetIterable iter X.env x = pure x := by intro _; rfl) : PS X (.For tg iter body [] pos) (tS c (forS g mi mb)) := by
  refine PSimp (ps_for hp hc hi hg hb hs) fun D σ H h => ?_
  obtain ⟨F, env, s, T, h⟩ := h
  refine ⟨F, env, s, T, h.bind.imp fun ds s1 F1 H1 e1 T1 q J hJ => ?_⟩
  refine ⟨fun i m σ H => m = ds.length - i ∧ i ≤ ds.length ∧ ∃ F env s, Same F1 F ∧ Stt c.C c.I c.B F H σ env s ∧ FinS c F (forLoop g mb (ds.drop i) env s) D, ⟨ds.length, by simp, Nat.zero_le _, F1, env, s1, Same.refl _, T1, q⟩, ?_⟩
  rintro i m σ H ⟨rfl, hi, F2, env2, s2, e2, T2, q2⟩
  by_cases hlt : i < ds.length
  · have ed : ds.drop i = ds[i] :: ds.drop (i + 1) := List.drop_eq_getElem_cons hlt
    rw [ed] at q2
    unfold forLoop at q2
    refine .inr ⟨hJ.go i F2 H e2 T2.sub hlt, fun σ' H' => i + 1 ≤ ds.length ∧ ∃ F env s, Same F1 F ∧ Stt c.C c.I c.B F H' σ' env s ∧ FinS c F (forLoop g mb (ds.drop (i + 1)) env s) D, fun σ' H' ⟨k1, k2⟩ => ⟨ds.length - (i + 1), by omega, rfl, k1, k2⟩, fun x H' y => ?_⟩
    have body : ∀ F3 H3, Same F2 F3 → Stt c.C c.I c.B F3 H3 σ env2 s2 → Rep c.C F3 ds[i] x → gT c.C.K g x σ H3 fun σ2 H2 => tS c mb { D with nx := fun σ' H' => i + 1 ≤ ds.length ∧ ∃ F env s, Same F1 F ∧ Stt c.C c.I c.B F H' σ' env s ∧ FinS c F (forLoop g mb (ds.drop (i + 1)) env s) D, ct := fun σ' H' => i + 1 ≤ ds.length ∧ ∃ F env s, Same F1 F ∧ Stt c.C c.I c.B F H' σ' env s ∧ FinS c F (forLoop g mb (ds.drop (i + 1)) env s) D, bk := D.nx } σ2 H2 := by
      intro F3 H3 e3 T3 r3
      cases z : assignT g ds[i] env2 with
      | none => rw [z] at q2; exact q2.elim
      | some env3 =>
        rw [z] at q2
        refine tg_set T3 r3 z fun σ3 T4 => ⟨F3, env3, s2, T4, ?_⟩
        dsimp only at q2
        cases w : mb env3 s2 with
        | ok a =>
          obtain ⟨o, s'⟩ := a
          rw [w] at q2
          cases o with
          | nx e => exact fun σ' F' H' x T' => ⟨hlt, F', e, s', (e2.trans e3).trans x, T', q2.same (e3.trans x)⟩
          | ct e => exact fun σ' F' H' x T' => ⟨hlt, F', e, s', (e2.trans e3).trans x, T', q2.same (e3.trans x)⟩
          | bk e => exact fun σ' F' H' x T' => q2 σ' F' H' (e3.trans x) T'
          | rt d => exact fun v σ' env' F' H' x T' r => q2 v σ' env' F' H' (e3.trans x) T' r
        | exc k fs p =>
          rw [w] at q2
          exact fun cls dd σ' F' H' x T' r => q2 cls dd σ' F' H' (e3.trans x) T' r
        | bad => rw [w] at q2; exact q2
    rcases hJ.yl i F2 H x H' ds[i] e2 T2.sub (List.getElem?_eq_getElem hlt) y with ⟨rfl, r⟩ | ⟨p, o, hp', ho, rfl, r⟩
    · exact body F2 _ (Same.refl _) T2 r
    · exact body _ _ (same_upd (T2.ff hp')) (T2.new hp' ho) r
  · have e : i = ds.length := by omega
    subst e
    rw [List.drop_length] at q2
    exact .inl ⟨hJ.stop _ F2 H e2 T2.sub (Nat.le_refl _), q2 σ F2 H (Same.refl _) T2⟩
def whileN (t : M S Bool) (mb : MS S) : Nat → MS S
  | 0, _, _ => .bad
  | n + 1, env, s => match t env s with
    | .ok (false, s') => .ok (.nx env, s')
    | .ok (true, s') => match mb env s' with
      | .ok (.nx e, s2) => whileN t mb n e s2
      | .ok (.ct e, s2) => whileN t mb n e s2
      | .ok (.bk e, s2) => .ok (.nx e, s2)
      | .ok (.rt d, s2) => .ok (.rt d, s2)
      | .exc k fs p => .exc k fs p
      | .bad => .bad
    | .exc k fs s' => .exc k fs (env, s')
    | .bad => .bad
def whileS (fuel : Env → Nat) (t : M S Bool) (mb : MS S) : MS S := fun env s => whileN t mb (fuel env) env s
theorem s_while {t : Expr} {mt : M S Bool} {mb : MS S} {fuel : Env → Nat} (hp : PassesOwn (model X.prog X.w) X.A X.env X.xe) (ht : PT X t (tT c mt)) (hb : PSs X body (tS c mb)) : PS X (.While t body [] pos) (tS c (whileS fuel mt mb)) := by
  refine PSimp (ps_while hp ht hb) fun D σ H h => ?_
  obtain ⟨F, env, s, T, h⟩ := h
  refine ⟨fun m σ H => ∃ F env s, Stt c.C c.I c.B F H σ env s ∧ FinS c F (whileN mt mb m env s) D, ⟨_, F, env, s, T, h⟩, ?_⟩
  rintro m σ H ⟨F, env, s, T, h⟩
  cases m with
  | zero => exact h.elim
  | succ n =>
    unfold whileN at h
    refine ⟨F, env, s, T, ?_⟩
    cases w : mt env s with
    | bad => rw [w] at h; exact h
    | exc k fs s' =>
      rw [w] at h
      exact fun cls dd F' H' x T' r => h cls dd σ F' H' x T' r
    | ok a =>
      obtain ⟨k, s'⟩ := a
      rw [w] at h
      intro F1 H1 e1 T1
      cases k with
      | false => exact (if_neg Bool.false_ne_true).mpr (h σ F1 H1 e1 T1)
      | true =>
        refine (if_pos rfl).mpr ⟨fun σ' H' => ∃ F env s, Stt c.C c.I c.B F H' σ' env s ∧ FinS c F (whileN mt mb n env s) D, fun σ' H' q => ⟨n, Nat.lt_succ_self _, q⟩, F1, env, s', T1, ?_⟩
        dsimp only at h
        cases w2 : mb env s' with
        | ok a =>
          obtain ⟨o, s2⟩ := a
          rw [w2] at h
          cases o with
          | nx e => exact fun σ' F' H' x T' => ⟨F', e, s2, T', h.same (e1.trans x)⟩
          | ct e => exact fun σ' F' H' x T' => ⟨F', e, s2, T', h.same (e1.trans x)⟩
          | bk e => exact fun σ' F' H' x T' => h σ' F' H' (e1.trans x) T'
          | rt d => exact fun v σ' env' F' H' x T' r => h v σ' env' F' H' (e1.trans x) T' r
        | exc k fs p =>
          rw [w2] at h
          exact fun cls dd σ' F' H' x T' r => h cls dd σ' F' H' (e1.trans x) T' r
        | bad => rw [w2] at h; exact h
def wipeE (env : Env) : List Nat → Env
  | [] => env
  | v :: vs => (wipeE env vs).set v .no
theorem stt_wipe {F H : Hp} {σ : St} {env : Env} {s : S} {B : En} (T : Stt c.C c.I B F H σ env s) : ∀ vs : List Nat, Stt c.C c.I B F H (wipe σ vs) (wipeE env vs) s
  | [] => T
  | v :: vs => (stt_wipe T vs).wipe
def lcLoop (tg : Tg) (t : M S Bool) (m : M S D) : List D → List D → Env → S → R (List D × S) S
  | [], acc, _, s => .ok (acc, s)
  | d :: r, acc, env, s => match assignT tg d env with
    | none => .bad
    | some e1 => match t e1 s with
      | .ok (false, s1) => lcLoop tg t m r acc env s1
      | .ok (true, s1) => if acc.length < 1000000 then (match m e1 s1 with
        | .ok (x, s2) => lcLoop tg t m r (acc ++ [x]) env s2
        | _ => .bad) else .bad
      | _ => .bad
/-- no slot of vs holds an object of its own -/
def noOwn (env : Env) (vs : List Nat) : Bool := vs.all fun i => match env[i]? with | some x => !isOwn x | none => true
def lcM (tg : Tg) (mi : M S (List D)) (t : M S Bool) (m : M S D) (vs : List Nat) : M S D := bindM mi fun ds env s => if noOwn env vs = true then (match lcLoop tg t m ds [] (wipeE env vs) s with
  | .ok (xs, s') => .ok (.lst xs, s')
  | _ => .bad) else .bad
/-- the context of a part that begins here and lets nothing out -/
abbrev Ct.sub (c : Ct S) (B : En) : Ct S := { c with B := B, W := fun _ _ _ _ => False }
def yesM : M S Bool := retM true
def tgSlots : Tg → List Nat
  | .nm i => [i]
  | .tp is => is
theorem wipe_get (σ : St) (i : Nat) : ∀ vs : List Nat, (wipe σ vs)[i]? = if i ∈ vs then σ[i]?.map (fun _ => none) else σ[i]?
  | [] => by simp [wipe]
  | v :: vs => by
    unfold wipe
    by_cases e : i = v
    · subst e
      rw [if_pos List.mem_cons_self]
      by_cases hl : i < σ.length
      · rw [List.getElem?_set_self (by rw [wipe_length]; exact hl), List.getElem?_eq_getElem hl]; rfl
      · rw [List.getElem?_eq_none (by rw [List.length_set, wipe_length]; omega), List.getElem?_eq_none (by omega)]; rfl
    · rw [List.getElem?_set_ne (Ne.symm e), wipe_get σ i vs]
      by_cases h : i ∈ vs
      · rw [if_pos h, if_pos (List.mem_cons_of_mem _ h)]
      · rw [if_neg h, if_neg (by simp [e, h])]
theorem wipeE_length (env : Env) : ∀ vs : List Nat, (wipeE env vs).length = env.length
  | [] => rfl
  | v :: vs => by unfold wipeE; rw [List.length_set, wipeE_length env vs]
theorem wipeE_get (env : Env) (i : Nat) : ∀ vs : List Nat, (wipeE env vs)[i]? = if i ∈ vs then env[i]?.map (fun _ => Slot.no) else env[i]?
  | [] => by simp [wipeE]
  | v :: vs => by
    unfold wipeE
    by_cases e : i = v
    · subst e
      rw [if_pos List.mem_cons_self]
      by_cases hl : i < env.length
      · rw [List.getElem?_set_self (by rw [wipeE_length]; exact hl), List.getElem?_eq_getElem hl]; rfl
      · rw [List.getElem?_eq_none (by rw [List.length_set, wipeE_length]; omega), List.getElem?_eq_none (by omega)]; rfl
    · rw [List.getElem?_set_ne (Ne.symm e), wipeE_get env i vs]
      by_cases h : i ∈ vs
      · rw [if_pos h, if_pos (List.mem_cons_of_mem _ h)]
      · rw [if_neg h, if_neg (by simp [e, h])]
/-- as tg_set, with what stays -/
theorem names_set' {F H : Hp} {Q : St → Hp → Prop} : ∀ {is : List Nat} {ds : List D} {vs : List V} {σ : St} {env : Env} {s : S}, ds.length = is.length → Reps c.C F ds vs → Stt c.C c.I c.B F H σ env s →
    (∀ σ', (∀ i, i ∉ is → σ'[i]? = σ[i]? ∧ (setAll is ds env)[i]? = env[i]?) → σ'.length = σ.length → Stt c.C c.I c.B F H σ' (setAll is ds env) s → Q σ' H) → gNames is vs σ H Q
  | [], [], _, σ, env, s, _, r, T, q => by cases (show _ = [] from r); exact ⟨rfl, q σ (fun i _ => ⟨rfl, rfl⟩) rfl T⟩
  | i :: is, d :: ds, _, σ, env, s, hl, ⟨v, w, h1, h2, h3⟩, T, q => by
    subst h1
    refine ⟨v, w, rfl, names_set' (by simpa using hl) h3 (T.setD h2) fun σ' k1 k2 T' => q σ' (fun j hj => ?_) (by rw [k2, List.length_set]) T'⟩
    simp only [List.mem_cons, not_or] at hj
    obtain ⟨a, b⟩ := k1 j hj.2
    rw [List.getElem?_set_ne (Ne.symm hj.1)] at a b
    exact ⟨a, b⟩
theorem tg_set' {F H : Hp} {Q : St → Hp → Prop} {tg : Tg} {d : D} {v : V} {σ : St} {env env' : Env} {s : S} (T : Stt c.C c.I c.B F H σ env s) (r : Rep c.C F d v) (e : assignT tg d env = some env')
    (q : ∀ σ', (∀ i, i ∉ tgSlots tg → σ'[i]? = σ[i]? ∧ env'[i]? = env[i]?) → σ'.length = σ.length → Stt c.C c.I c.B F H σ' env' s → Q σ' H) : gT c.C.K tg v σ H Q := by
  cases tg with
  | nm i =>
    cases e
    refine q _ (fun j hj => ?_) (by rw [List.length_set]) (T.setD r)
    simp only [tgSlots, List.mem_singleton] at hj
    rw [List.getElem?_set_ne (Ne.symm hj), List.getElem?_set_ne (Ne.symm hj)]
    exact ⟨rfl, rfl⟩
  | tp is =>
    cases d with
    | tup ds =>
      simp only [assignT] at e
      split at e
      · rename_i hl
        cases e
        obtain ⟨a, vs, h1, h2, h3⟩ := r
        exact ⟨a, vs, h1, sqT_same T.sub h2, h3.length.trans hl, names_set' hl h3 T q⟩
      · cases e
    | _ => cases e
theorem wipe_same {σ σ' : St} {vs : List Nat} {ts : List Nat} (hsub : ∀ i ∈ ts, i ∈ vs) (hl : σ'.length = σ.length) (h : ∀ i, i ∉ ts → σ'[i]? = (wipe σ vs)[i]?) : wipe σ' vs = wipe σ vs := by
  apply List.ext_getElem?
  intro i
  rw [wipe_get, wipe_get]
  by_cases hm : i ∈ vs
  · rw [if_pos hm, if_pos hm]
    by_cases hi : i < σ.length
    · rw [List.getElem?_eq_getElem hi, List.getElem?_eq_getElem (by omega)]; rfl
    · rw [List.getElem?_eq_none (by omega), List.getElem?_eq_none (by omega)]
  · rw [if_neg hm, if_neg hm, h i (fun z => hm (hsub i z)), wipe_get, if_neg hm]
theorem tabs_write {T : List (Addr × Str)} {H : Hp} {p : Addr} {o : HO} {xs : List V} (h : LamX.Tabs T H) (hp : H p = some (.lst xs)) : LamX.Tabs T (upd H p o) := fun q hq => by
  obtain ⟨ps, h1, h2, h3⟩ := h q hq
  have n1 : q.1 ≠ p := fun z => by rw [z, hp] at h1; cases h1
  refine ⟨ps, by rw [upd_ne n1]; exact h1, h2, fun pos cv hc => ?_⟩
  obtain ⟨k, e1, e2⟩ := h3 pos cv hc
  have n2 : k ≠ p := fun z => by rw [z, hp] at e2; unfold LamX.CodeO at e2; cases e2
  exact ⟨k, e1, by rw [upd_ne n2]; exact e2⟩
/-- an object that no slot holds is written -/
theorem Stt.writeM {C : DC} {I : SI S} {B : En} {F H : Hp} {σ : St} {env : Env} {s : S} (T : Stt C I B F H σ env s) {p : Addr} {xs : List V} {o : HO} (hp : H p = some (.lst xs)) (hf : F p = none) (hi : ¬ I.ex p) (hn : ∀ i, ¬ OwnAt env σ i p) (h0 : B.H0 p = none) : Stt C I B F (upd H p o) σ env s where
  sub := fun a u e => by rw [upd_ne (fun z => by subst z; rw [hf] at e; cases e)]; exact T.sub a u e
  nt := T.nt
  inv := I.mono T.inv (Same.refl _) fun a ha => ⟨rfl, upd_ne fun z => by subst z; exact hi ha⟩
  len := T.len
  sl := fun i x e => (T.sl i x e).keep (Same.refl _) fun a h1 h2 => by
    have q : OwnAt env σ i a := ⟨x, e, h2, h1⟩
    obtain ⟨k1, _, _⟩ := T.own_there q
    rw [upd_ne (fun z => by subst z; exact hn i q)]
    exact ⟨k1, rfl⟩
  dj := T.dj
  ni := T.ni
  fr := fun a u e n1 n2 => by rw [upd_ne (fun z => by subst z; rw [h0] at e; cases e)]; exact T.fr a u e n1 n2
  f0 := T.f0
  nw := T.nw
  tb := tabs_write T.tb hp
  al := fun a n => by
    by_cases z : a = p
    · subst z; rw [upd_same]; simp
    · rw [upd_ne z]; exact T.al a n
  ie := T.ie
  oe := T.oe
theorem lc_run {RR : Hp → D → V → Prop} (hRR : ∀ {F L as acc}, F L = some (.lst as) → Reps c.C F acc as → RR F (.lst acc) (.ref L)) {g : Tg} {mt : M S Bool} {me : M S D} {vs : List Nat} (hsub : ∀ i ∈ tgSlots g, i ∈ vs) {Q : VK} {σ : St} {F1 H1 : Hp} {env : Env} {s1 : S} {ds : List D} {J : It} (T1 : Stt c.C c.I c.B F1 H1 σ env s1) (hJ : JOk c.C J F1 ds)
    (hno : noOwn env vs = true) (q : Fin c F1 σ env (match lcLoop g mt me ds [] (wipeE env vs) s1 with | .ok (xs, s') => .ok (D.lst xs, s') | _ => .bad) fun d _ F' H' => ∀ v, RR F' d v → Q v H')
    {tt : TT} {te : TE} (htt : ∀ B σ H Q, tT (c.sub B) mt σ H Q → tt σ H Q) (hte : ∀ B σ H Q, tM (c.sub B) me σ H Q → te σ H Q) : ∀ D, H1 D = none → ∃ W : Nat → Nat → Hp → Prop, (∃ m, W 0 m (upd H1 D (.lst []))) ∧ ∀ i m H, W i m H →
      (J.stop i H ∧ Q (.ref D) H) ∨ (J.go i H ∧ ∃ Nx : Hp → Prop, (∀ H', Nx H' → ∃ m', m' < m ∧ W (i + 1) m' H') ∧ ∀ x H', J.yld i H x H' → gT c.C.K g x (wipe σ vs) H' fun σ2 H2 => wipe σ2 vs = wipe σ vs ∧ tt σ2 H2 fun b H3 =>
        if b = true then te σ2 H3 fun y H4 => ∃ acc, H4 D = some (.lst acc) ∧ acc.length < sizeLine ∧ Nx (upd H4 D (.lst (acc ++ [y]))) else Nx H3) := by
  intro L nL
  -- what holds between the turns
  let P : Nat → Hp → Prop := fun i H => i ≤ ds.length ∧ ∃ F s acc as, Same F1 F ∧ Stt c.C c.I c.B F H σ env s ∧ H L = some (.lst as) ∧ F L = none ∧ Reps c.C F acc as ∧ ∃ xs s', lcLoop g mt me (ds.drop i) acc (wipeE env vs) s = .ok (xs, s') ∧ ∀ F' H', Same F1 F' → Stt c.C c.I c.B F' H' σ env s' → ∀ v, RR F' (.lst xs) v → Q v H'
  have ix : ¬ c.I.ex L := T1.exfree nL
  have h0 : c.B.H0 L = none := T1.h0 nL
  have no : ∀ {F H : Hp} {s : S}, Stt c.C c.I c.B F H σ env s → ∀ i, ¬ OwnAt env σ i L := fun T i z => by
    obtain ⟨_, k, _⟩ := T1.own_there z
    exact k nL
  refine ⟨fun i m H => m = ds.length - i ∧ P i H, ⟨ds.length, by simp, Nat.zero_le _, F1, s1, [], [], Same.refl _, T1.newM nL, upd_same, T1.ff nL, rfl, ?_⟩, ?_⟩
  · rw [List.drop_zero]
    cases z : lcLoop g mt me ds [] (wipeE env vs) s1 with
    | ok p => obtain ⟨xs, s'⟩ := p; rw [z] at q; exact ⟨xs, s', rfl, fun F' H' e T' v r => q F' H' e T' v r⟩
    | exc _ _ _ => rw [z] at q; exact q.elim
    | bad => rw [z] at q; exact q.elim
  · rintro i m H ⟨rfl, hi, F, s, acc, as, e1, T, hL, fL, ra, xs, s', z, qq⟩
    by_cases hlt : i < ds.length
    · have ed : ds.drop i = ds[i] :: ds.drop (i + 1) := List.drop_eq_getElem_cons hlt
      rw [ed] at z
      unfold lcLoop at z
      refine .inr ⟨hJ.go i F H e1 T.sub hlt, P (i + 1), fun H' p => ⟨ds.length - (i + 1), by omega, rfl, p⟩, fun x H' y => ?_⟩
      have turn : ∀ F3 H3, Same F F3 → Stt c.C c.I c.B F3 H3 σ env s → H3 L = some (.lst as) → F3 L = none → Rep c.C F3 ds[i] x → gT c.C.K g x (wipe σ vs) H3 fun σ2 H2 => wipe σ2 vs = wipe σ vs ∧ tt σ2 H2 fun b H3 =>
          if b = true then te σ2 H3 fun y H4 => ∃ acc, H4 L = some (.lst acc) ∧ acc.length < sizeLine ∧ P (i + 1) (upd H4 L (.lst (acc ++ [y]))) else P (i + 1) H3 := by
        intro F3 H3 e3 T3 h3L f3L r3
        have Tr := (stt_wipe (c := c) T3 vs).rebase
        cases w : assignT g ds[i] (wipeE env vs) with
        | none => rw [w] at z; cases z
        | some env3 =>
          rw [w] at z
          refine tg_set' (c := c.sub (c.B.at c.I F3 H3 (wipe σ vs) (wipeE env vs))) Tr r3 w fun σ3 st3 l3 T4 => ⟨wipe_same hsub (by rw [l3, wipe_length]) (fun j hj => (st3 j hj).1), ?_⟩
          refine htt (c.B.at c.I F3 H3 (wipe σ vs) (wipeE env vs)) _ _ _ ⟨F3, env3, s, T4, ?_⟩
          dsimp only at z
          have own3 : ∀ j a, OwnAt (wipeE env vs) (wipe σ vs) j a → OwnAt env σ j a := fun j a ⟨x, e1, e2, e3⟩ => by
            rw [wipeE_get] at e1
            by_cases hm : j ∈ vs
            · rw [if_pos hm] at e1
              cases q : env[j]? with
              | none => rw [q] at e1; cases e1
              | some y => rw [q] at e1; cases e1; cases e2
            · rw [if_neg hm] at e1
              exact ⟨x, e1, e2, (wipe_some e3).1⟩
          -- behind a part, the list stands as it was
          have keepL : ∀ {F5 H5 : Hp} {s5 : S}, Stt c.C c.I (c.B.at c.I F3 H3 (wipe σ vs) (wipeE env vs)) F5 H5 σ3 env3 s5 → H5 L = some (.lst as) ∧ F5 L = none := fun {F5 H5 s5} T5 => by
            refine ⟨T5.fr L _ h3L (fun z => ?_) (fun ps z => by cases z), ?_⟩
            · rcases z with z | ⟨j, z⟩
              · exact ix z
              · exact no T3 j (own3 j L z)
            · cases q : F5 L with
              | none => rfl
              | some o =>
                have h3n : H3 L = none := T5.nw L o q f3L
                rw [h3L] at h3n; cases h3n
          -- back in the def's own state
          have backTo : ∀ {F5 H5 : Hp} {s5 : S}, Stt c.C c.I (c.B.at c.I F3 H3 (wipe σ vs) (wipeE env vs)) F5 H5 σ3 env3 s5 → Same F3 F5 ∧ Stt c.C c.I c.B F5 H5 σ env s5 := fun {F5 H5 s5} T5 => by
            refine ⟨T5.f0, ?_⟩
            refine { sub := T5.sub, nt := T5.nt, inv := T5.inv, len := T3.len, sl := fun j x e => ?_, dj := T3.dj, ni := T3.ni, fr := fun a o e n1 n2 => T5.fr a o (T3.fr a o e n1 n2) (fun z => ?_) n2, f0 := T3.f0.trans T5.f0, nw := fun a o e n => ?_, tb := T5.tb, al := fun a n => T5.al a (T3.al a n), ie := T3.ie, oe := T3.oe }
            · by_cases hm : j ∈ vs
              · refine (T3.sl j x e).keep T5.f0 fun a _ ho => ?_
                have zz := List.all_eq_true.mp hno j hm
                rw [e] at zz
                dsimp only at zz
                rw [ho] at zz
                cases zz
              · have hj : j ∉ tgSlots g := fun q => hm (hsub j q)
                obtain ⟨k1, k2⟩ := st3 j hj
                rw [wipe_get, if_neg hm] at k1
                rw [wipeE_get, if_neg hm, e] at k2
                have q := T5.sl j x k2
                rw [k1] at q
                exact q
            · rcases z with z | ⟨j, z⟩
              · exact n1 (T3.ie a z)
              · rcases T3.oe j a (own3 j a z) with q | q
                · rw [q] at e; cases e
                · exact n1 q
            · cases q : F3 a with
              | some o' => exact T3.nw a o' q n
              | none =>
                have h3n : H3 a = none := T5.nw a o e q
                cases w : c.B.H0 a with
                | none => rfl
                | some o2 => exact absurd h3n (T3.al a (by rw [w]; simp))
          cases w2 : mt env3 s with
          | bad => rw [w2] at z; cases z
          | exc _ _ _ => rw [w2] at z; cases z
          | ok p =>
            obtain ⟨k, s2⟩ := p
            rw [w2] at z
            intro F5 H5 e5 T5
            obtain ⟨k1, k2⟩ := keepL T5
            obtain ⟨k3, k4⟩ := backTo T5
            cases k with
            | false =>
              refine (if_neg Bool.false_ne_true).mpr ⟨hlt, F5, s2, acc, as, (e1.trans e3).trans k3, k4, k1, k2, ra.mono (e3.trans k3), xs, s', z, qq⟩
            | true =>
              refine (if_pos rfl).mpr (hte (c.B.at c.I F3 H3 (wipe σ vs) (wipeE env vs)) _ _ _ ⟨F5, env3, s2, T5, ?_⟩)
              dsimp only at z
              by_cases hacc : acc.length < 1000000
              · rw [if_pos hacc] at z
                cases w3 : me env3 s2 with
                | bad => rw [w3] at z; cases z
                | exc _ _ _ => rw [w3] at z; cases z
                | ok p =>
                  obtain ⟨x2, s3⟩ := p
                  rw [w3] at z
                  intro F6 H6 e6 T6 y ry
                  obtain ⟨k5, k6⟩ := keepL T6
                  obtain ⟨k7, k8⟩ := backTo T6
                  exact ⟨as, k5, by rw [ra.length, sizeLine_eq]; omega, hlt, F6, s3, acc ++ [x2], as ++ [y], (e1.trans e3).trans k7, k8.writeM k5 k6 ix (no k8) h0, upd_same, k6, (ra.mono (e3.trans k7)).append (Reps.one ry), xs, s', z, qq⟩
              · rw [if_neg hacc] at z; cases z
      rcases hJ.yl i F H x H' ds[i] e1 T.sub (List.getElem?_eq_getElem hlt) y with ⟨rfl, r⟩ | ⟨p, o, hp', ho, rfl, r⟩
      · exact turn F _ (Same.refl _) T hL fL r
      · have np : L ≠ p := fun e => by rw [e, hp'] at hL; cases hL
        exact turn _ _ (same_upd (T.ff hp')) (T.new hp' ho) (by rw [upd_ne np]; exact hL) (by rw [upd_ne np]; exact fL) r
    · have e : i = ds.length := by omega
      subst e
      rw [List.drop_length] at z
      cases z
      refine .inl ⟨hJ.stop _ F H e1 T.sub (Nat.le_refl _), ?_⟩
      have Tf := T.freeze hL fL (fun ps z => by cases z) ix (no T) h0
      exact qq _ H (e1.trans (same_upd fL)) Tf _ (hRR upd_same (ra.mono (same_upd fL)))
theorem tM_lc {g : Tg} {mt : M S Bool} {me : M S D} {vs : List Nat} (hsub : ∀ i ∈ tgSlots g, i ∈ vs) {σ : St} {H : Hp} {Q : VK} (h : tM c (lcM g mi mt me vs) σ H Q) :
    tLc (tI c mi) (gT c.C.K g) (fun σ H Q => ∃ B, tT (c.sub B) mt σ H Q) (fun σ H Q => ∃ B, tM (c.sub B) me σ H Q) vs σ H Q := by
  obtain ⟨F, env, s, T, h⟩ := h
  refine ⟨F, env, s, T, h.bind.imp fun ds s1 F1 H1 e1 T1 q J hJ => ?_⟩
  by_cases hno : noOwn env vs = true
  · rw [if_pos hno] at q
    exact lc_run (RR := Rep c.C) (fun h1 h2 => ⟨_, _, rfl, SqL.of h1, h2⟩) hsub T1 hJ hno q (tt := fun σ H Q => ∃ B, tT (c.sub B) mt σ H Q) (te := fun σ H Q => ∃ B, tM (c.sub B) me σ H Q) (fun B σ H Q h => ⟨B, h⟩) (fun B σ H Q h => ⟨B, h⟩)
  · rw [if_neg hno] at q
    exact q.elim
theorem PTex {Y : Cx} {t : Expr} {f : En → TT} (h : ∀ B, PT Y t (f B)) : PT Y t (fun σ H Q => ∃ B, f B σ H Q) := ⟨fun pins s σ H Q I ⟨B, q⟩ => (h B).run pins s σ H Q I q⟩
theorem PEex {Y : Cx} {t : Expr} {f : En → TE} (h : ∀ B, PE Y t (f B)) : PE Y t (fun σ H Q => ∃ B, f B σ H Q) := ⟨fun pins s σ H Q I ⟨B, q⟩ => (h B).run pins s σ H Q I q⟩
theorem PTsex {Y : Cx} {t : List Expr} {f : En → TT} (h : ∀ B, PTs Y t (f B)) : PTs Y t (fun σ H Q => ∃ B, f B σ H Q) := ⟨fun pins s σ H Q I ⟨B, q⟩ => (h B).run pins s σ H Q I q⟩
theorem ts_nil : PTs X [] (tT c yesM) := ⟨fun pins s σ H Q I h => by
  obtain ⟨F, env, s', T, h⟩ := h
  exact (pts_nil (X := X)).run pins s σ H Q I (h F H (Same.refl _) T)⟩
theorem ts_one {t : Expr} {mt : M S Bool} (h : PT X t (tT c mt)) : PTs X [t] (tT c mt) := pts_one h
/-- the block of a comprehension -/
abbrev Cx.bk (X : Cx) (s : Shared) (H : Hp) (scope : Scope) (C : Addr) (cl : List (Str × Addr)) (fp : List Addr) : Cx := X.blk s H scope (compEnvC scope cl C X.env) fp
/-- [elt for tg in iter if ..] -/
theorem d_lc {elt : Expr} {ifs : List Expr} {scope : Scope} {own : List (Str × Nat)} {g : Tg} {mt : M S Bool} {me : M S D} (hc : X.calm = true) (hN : X.N.Nodup) (hi : PI X tg iter (tI c mi)) (ok : BlkOk X.N X.env.scope scope own)
    (hg : ∀ (s : Shared) (H : Hp) (C : Addr) (cl : List (Str × Addr)) (fp : List Addr), PG (Cx.bk X s H scope C cl fp) tg (gT c.C.K g))
    (ht : ∀ (s : Shared) (H : Hp) (C : Addr) (cl : List (Str × Addr)) (fp : List Addr) (B : En), PTs (Cx.bk X s H scope C cl fp) ifs (tT (c.sub B) mt))
    (he : ∀ (s : Shared) (H : Hp) (C : Addr) (cl : List (Str × Addr)) (fp : List Addr) (B : En), PE (Cx.bk X s H scope C cl fp) elt (tM (c.sub B) me))
    (hsub : ∀ i ∈ tgSlots g, i ∈ own.map (·.2)) (hs : ∀ x, foldedSetIterable iter X.env x = pure x := by intro _; rfl) :
    PE X (.ListComp elt [⟨tg, iter, ifs, 0⟩] scope pos) (tM c (lcM g mi mt me (own.map (·.2)))) :=
  PEimp (pe_lc hc hN hi ok hg (fun s H C cl fp => PTsex (ht s H C cl fp)) (fun s H C cl fp => PEex (he s H C cl fp)) hs) fun σ H Q h => tM_lc hsub h
/-- y = [elt for tg in iter if ..] -/
theorem s_lc {elt : Expr} {ifs : List Expr} {scope : Scope} {own : List (Str × Nat)} {g : Tg} {mt : M S Bool} {me : M S D} {i : Nat} {y : Str} {py spos : Pos} (hc : X.calm = true) (hN : X.N.Nodup) (hi : PI X tg iter (tI c mi)) (ok : BlkOk X.N X.env.scope scope own)
    (hg : ∀ (s : Shared) (H : Hp) (C : Addr) (cl : List (Str × Addr)) (fp : List Addr), PG (Cx.bk X s H scope C cl fp) tg (gT c.C.K g))
    (ht : ∀ (s : Shared) (H : Hp) (C : Addr) (cl : List (Str × Addr)) (fp : List Addr) (B : En), PTs (Cx.bk X s H scope C cl fp) ifs (tT (c.sub B) mt))
    (he : ∀ (s : Shared) (H : Hp) (C : Addr) (cl : List (Str × Addr)) (fp : List Addr) (B : En), PE (Cx.bk X s H scope C cl fp) elt (tM (c.sub B) me))
    (hsub : ∀ i ∈ tgSlots g, i ∈ own.map (·.2)) (hy : X.N[i]? = some y := by rfl) (hyl : X.env.scope.names.lookup y = some .local := by rfl)
    (hsw : swapsWith (.ListComp elt [⟨tg, iter, ifs, 0⟩] scope pos) (some (.Name y py)) spos.line X.env = pure true := by exact sw_true rfl rfl rfl (by decide +kernel)) (hs : ∀ x, foldedSetIterable iter X.env x = pure x := by intro _; rfl) :
    PS X (.Assign [.Name y py] (.ListComp elt [⟨tg, iter, ifs, 0⟩] scope pos) spos) (tS c (setS i (lcM g mi mt me (own.map (·.2))))) := by
  refine PSimp (ps_setLc hc hN hy hyl hsw hi ok hg (fun s H C cl fp => PTsex (ht s H C cl fp)) (fun s H C cl fp => PEex (he s H C cl fp)) hs) fun D σ H h => ?_
  obtain ⟨F, env, s, T, h⟩ := h
  refine tM_lc hsub ⟨F, env, s, T, h.bind.imp fun d s1 F1 H1 e1 T1 q v rv => ?_⟩
  exact q _ F1 H1 (Same.refl _) (T1.setD rv)
end
end DL
set_option Elab.async false
set_option linter.all false
set_option maxRecDepth 100000
namespace DL
open PySem PySem.Spec PyProof.Rows L2
/-- a def that keeps a promise wherever no repr is under way -/
structure FnD (P : Program) (w : World) (K : PySem.W.Frag) (mg : Str → Option Value) (base : Heap) (k : Nat) (f : Addr) (fd : FuncData) (ps : List Str) (sp : Sp) : Prop where
  many : ∀ {vs H Q E}, sp vs H Q E → vs.length = ps.length
  goes : ∀ {A : Around} {outer : List PySem.Env} {s : Shared} {H : Hp} {args : Args} {us : List Value} {vs : List V} {Q : VK} {E : XK}, Room k A → A.guards = some [] → Env0 P w K mg base A outer s H → BindsTo s fd args (ps.zip us) → Vals vs us → sp vs H Q E →
    codeAny (model P w) A (.call (.ref f) args) (CR (L2.CX P w) outer P w H s Q E) s
/-- what each rule asks of the place where it is used -/
structure XO {S : Type} (X : Cx) (c : Ct S) (k : Nat) : Prop where
  hk : c.C.K = X.K
  rm : Room k X.A
  gd : X.A.guards = some []
  tk : Takes X c.W
  cm : X.calm = true
  ps : PassesOwn (model X.prog X.w) X.A X.env X.xe
theorem XO.hu {S : Type} {X : Cx} {c : Ct S} {k : Nat} (o : XO X c k) : X.A.units + 64 < cLine := o.rm.units
theorem XO.bk {S : Type} {X : Cx} {c : Ct S} {k : Nat} (o : XO X c k) (s : Shared) (H : Hp) (scope : Scope) (C : Addr) (cl : List (Str × Addr)) (fp : List Addr) (B : En) : XO (Cx.bk X s H scope C cl fp) (c.sub B) k :=
  ⟨o.hk, o.rm, o.gd, L2.takes0, o.cm, PassesOwn.never⟩
section
variable {S : Type} {c : Ct S} {X : Cx} {pins : List (Addr × Obj)} {σ : St} {H : Hp} {s : Shared} {k j : Nat} {f : Addr} {fd : FuncData} {ps : List Str} {sp : Sp} {dvs : List V} {ds us : List Value} {vs : List V} {Q : VK}
/-- the call of such a def with values, from where the machine stands at A -/
theorem FnD.callAt {A : Around} (D : FnD X.prog X.w X.K X.mg X.base k f fd ps sp) (hr : Room k A) (hg : A.guards = some []) (tk : Takes X c.W) (e0 : Env0 X.prog X.w X.K X.mg X.base A X.stack s H) (hb : Binds X.K fd ps ds) (hd : Vals dvs ds) (I : Inv X pins σ H s) (r : Vals vs us) (h : sp (vs ++ dvs) H Q fun cls dd H' => c.W cls dd σ H') :
    wpAny (model X.prog X.w) A (PySem.call (.ref f) us) (EP X pins σ Q) X.xe s := by
  have both := r.append hd
  have number : (us ++ ds).length = ps.length := both.length.symm.trans (D.many h)
  refine wpAny_call (codeAny_mono (D.goes hr hg e0 (hb s us I.kIn number) both h) fun res s' hr => ?_)
  match res, hr with
  | .error e, hr => exact tk e s' (XE.of_call I (fun _ _ _ z => z) hr)
  | .ok (.ret u), hr => exact I.after hr
/-- the call of such a def with values -/
theorem FnD.call (D : FnD X.prog X.w X.K X.mg X.base k f fd ps sp) (o : XO X c j) (hkj : k ≤ j) (hb : Binds X.K fd ps ds) (hd : Vals dvs ds) (I : Inv X pins σ H s) (r : Vals vs us) (h : sp (vs ++ dvs) H Q fun cls dd H' => c.W cls dd σ H') :
    wpAny (model X.prog X.w) X.A (PySem.call (.ref f) us) (EP X pins σ Q) X.xe s := D.callAt (o.rm.mono hkj) o.gd o.tk I.env0 hb hd I r h
end
/-- the promise of a mirrored def of n parameters. dc: how trees lie, by the state's object; J: the state -/
def spD {S : Type} (dc : Option Addr → DC) (J : Option Addr → SI S) (n : Nat) (m : List D → S → R (D × S) S) : Sp := fun vs H Q E => vs.length = n ∧ ∃ st F ds s, Same F H ∧ NoTbl F ∧ (J st).inv s F H ∧ LamX.Tabs (dc st).T H ∧ Reps (dc st) F ds vs ∧
  Fin ⟨dc st, J st, ⟨F, H, (J st).ex, none⟩, fun cls dd _ H' => E cls dd H'⟩ F [] [] (m ds s) fun d _ F' H' => ∀ v, Rep (dc st) F' d v → Q v H'
/-- .. of an __init__ of the class number q -/
def spI {S : Type} (dc : Option Addr → DC) (J : Option Addr → SI S) (n : Nat) (q : Nat) (m : List D → S → R (List D × S) S) : Sp := fun vs H Q E => vs.length = n ∧ ∃ st F ds s p dx rest, vs = .ref p :: rest ∧ Same F H ∧ NoTbl F ∧ (J st).inv s F H ∧ LamX.Tabs (dc st).T H ∧ Reps (dc st) F ds rest ∧
  H p = some (.ins ((dc st).cls q) dx []) ∧ F p = none ∧ ¬ (J st).ex p ∧
  Fin ⟨dc st, J st, ⟨F, H, (fun a => (J st).ex a ∨ a = p), some (p, .none, none)⟩, fun cls dd _ H' => E cls dd H'⟩ F [] [] (m ds s) fun fs _ F' H' => ∀ dx' us, H' p = some (.ins ((dc st).cls q) dx' (((dc st).flds q).zip us)) → us.length = ((dc st).flds q).length → F' p = none → Reps (dc st) F' fs us → Q .non H'
/-- a mirrored body of n names -/
def runF {S : Type} (n : Nat) (mb : MS S) (ds : List D) (s : S) : R (D × S) S := match mb (ds.map Slot.d ++ List.replicate (n - ds.length) Slot.no) s with
  | .ok (.nx _, s') => .ok (.non, s')
  | .ok (.rt d, s') => .ok (d, s')
  | .ok (.bk _, _) => .bad
  | .ok (.ct _, _) => .bad
  | .exc k fs p => .exc k fs p.2
  | .bad => .bad
def runI {S : Type} (n q many : Nat) (mb : MS S) (ds : List D) (s : S) : R (List D × S) S := match mb (Slot.ins q [] :: (ds.map Slot.d ++ List.replicate (n - (ds.length + 1)) Slot.no)) s with
  | .ok (.nx (.ins k fs :: _), s') => if k = q ∧ fs.length = many then .ok (fs, s') else .bad
  | .exc k fs p => .exc k fs p.2
  | _ => .bad
section
variable {S : Type} {P : Program} {w : World} {K : PySem.W.Frag} {mg : Str → Option Value} {base : Heap} {dc : Option Addr → DC} {J : Option Addr → SI S}
/-- the context of a def's body -/
abbrev cxD (P : Program) (w : World) (K : PySem.W.Frag) (mg : Str → Option Value) (base : Heap) (N : List Str) (qual : Str) (st : Stmt) (f : Addr) (cd : Value) (A : Around) (outer : List PySem.Env) (s : Shared) (H : Hp) (E : XK) : Cx := cxOf (L2.CX P w) P w K mg base N qual (defScope st) f cd A outer s H E
abbrev ctD (dc : Option Addr → DC) (J : Option Addr → SI S) (so : Option Addr) (B : En) (E : XK) : Ct S := ⟨dc so, J so, B, fun cls dd _ H' => E cls dd H'⟩
theorem xo_def {N : List Str} {qual : Str} {st : Stmt} {f : Addr} {cd : Value} {A : Around} {outer : List PySem.Env} {s : Shared} {H : Hp} {E : XK} {k : Nat} {so : Option Addr} {B : En} (hK : ∀ so, (dc so).K = K) (hr : Room k (A.deeper (envOfC qual (defScope st) s.heap.objs.size f cd))) (hg : A.guards = some []) :
    XO (cxD P w K mg base N qual st f cd A outer s H E) (ctD dc J so B E) k :=
  ⟨hK so, hr, hg, takes_of rfl rfl rfl rfl, rfl, passes_of (K := fun e s'' => L2.CX P w outer H s E e s'') rfl⟩
/-- THE RULE for a mirrored def -/
theorem fnD_ofB {x qual : Str} {dvs : List V} {kws : List (Str × V)} {st : Stmt} {f : Addr} {fd : FuncData} {N ps : List Str} {k : Nat} {mb : MS S} {n : Nat} (Fu : FunD K x qual (defArgs st) (defBody st) (defScope st) dvs kws f fd) (Sc : FnScope N ps (defScope st)) (hK : ∀ so, (dc so).K = K) (hn : ps.length = n)
    (hbody : ∀ {cd : Value} {A : Around} {outer : List PySem.Env} {s : Shared} {H : Hp} {E : XK} {so : Option Addr} {B : En}, (∀ a, B.ex a → (J so).ex a) → XO (cxD P w K mg base N qual st f cd A outer s H E) (ctD dc J so B E) k → PSs (cxD P w K mg base N qual st f cd A outer s H E) (defBody st) (tS (ctD dc J so B E) mb)) :
    FnD P w K mg base (k + 1) f fd ps (spD dc J n (runF N.length mb)) := by
  obtain ⟨oc, od, dV, kV, doc, pm, an, cdv, ct, osl, rfl, lk, hcd, _, _⟩ := Fu.ex
  refine ⟨fun h => h.1.trans hn.symm, fun {A outer s H args us vs Q E} hr hg e0 hb r h => ?_⟩
  refine LamX.run_ofS (N := N) (ps := ps) lk hcd Sc hr e0 hb r (h.1.trans hn.symm) fun hr' => ?_
  obtain ⟨hlen, so, F, ds, s0, hs, nt, hi, ht, hrep, hfin⟩ := h
  refine ⟨_, hbody (so := so) (B := ⟨F, H, (J so).ex, none⟩) (fun _ z => z) (xo_def hK hr' hg), F, ds.map Slot.d ++ List.replicate (N.length - ds.length) Slot.no, s0, ?_, ?_⟩
  · have e : L2.start N vs = vs.map some ++ List.replicate (N.length - ds.length) none := by
      unfold L2.start
      rw [hrep.length]
    rw [e]
    exact Stt.start hs nt hi ht hrep fun _ z => z
  · unfold runF at hfin
    cases z : mb (ds.map Slot.d ++ List.replicate (N.length - ds.length) Slot.no) s0 with
    | bad => rw [z] at hfin; exact hfin
    | exc q fs p =>
      rw [z] at hfin
      exact fun cls dd σ' F' H' e T r => hfin cls dd F' H' e T.drop r
    | ok p =>
      obtain ⟨o, s'⟩ := p
      rw [z] at hfin
      cases o with
      | nx env' => exact fun σ' F' H' e T => hfin F' H' e T.drop .non rfl
      | rt d => exact fun v σ' env' F' H' e T r => hfin F' H' e T.drop v r
      | bk _ => exact hfin.elim
      | ct _ => exact hfin.elim
theorem fnD_of {x qual : Str} {dvs : List V} {kws : List (Str × V)} {st : Stmt} {f : Addr} {fd : FuncData} {N ps : List Str} {k : Nat} {mb : MS S} {n : Nat} (Fu : FunD K x qual (defArgs st) (defBody st) (defScope st) dvs kws f fd) (Sc : FnScope N ps (defScope st)) (hK : ∀ so, (dc so).K = K) (hn : ps.length = n)
    (hbody : ∀ {cd : Value} {A : Around} {outer : List PySem.Env} {s : Shared} {H : Hp} {E : XK} {so : Option Addr} {B : En}, XO (cxD P w K mg base N qual st f cd A outer s H E) (ctD dc J so B E) k → PSs (cxD P w K mg base N qual st f cd A outer s H E) (defBody st) (tS (ctD dc J so B E) mb)) :
    FnD P w K mg base (k + 1) f fd ps (spD dc J n (runF N.length mb)) :=
  fnD_ofB Fu Sc hK hn fun _ o => hbody o
theorem Stt.startI {C : DC} {I : SI S} {F H : Hp} {s : S} {ds : List D} {vs : List V} {k q : Nat} {p dx : Addr} (hs : Same F H) (hn : NoTbl F) (hi : I.inv s F H) (ht : LamX.Tabs C.T H) (hr : Reps C F ds vs) (hp : H p = some (.ins (C.cls q) dx [])) (hf : F p = none) (hx : ¬ I.ex p) :
    Stt C I ⟨F, H, (fun a => I.ex a ∨ a = p), some (p, .none, none)⟩ F H (some (.ref p) :: (vs.map some ++ List.replicate k none)) (Slot.ins q [] :: (ds.map Slot.d ++ List.replicate k Slot.no)) s := by
  have T := Stt.start (me := some (p, .none, none)) (ex := fun a => I.ex a ∨ a = p) (k := k) hs hn hi ht hr (fun _ z => Or.inl z)
  have own : ∀ i a, OwnAt (Slot.ins q [] :: (ds.map Slot.d ++ List.replicate k Slot.no)) (some (.ref p) :: (vs.map some ++ List.replicate k none)) i a → i = 0 ∧ a = p := fun i a h => by
    cases i with
    | zero => obtain ⟨x, e1, e2, e3⟩ := h; simp at e3; exact ⟨rfl, e3.symm⟩
    | succ i =>
      exfalso
      obtain ⟨x, e1, e2, e3⟩ := h
      simp only [List.getElem?_cons_succ] at e1 e3
      have q : OwnAt (ds.map Slot.d ++ List.replicate k Slot.no) (vs.map some ++ List.replicate k none) i a := ⟨x, e1, e2, e3⟩
      obtain ⟨k1, k2, _⟩ := T.own_there q
      have : ∀ y ∈ ds.map Slot.d ++ List.replicate k Slot.no, isOwn y = false := fun y hy => by
        rcases List.mem_append.mp hy with z | z
        · obtain ⟨d, _, rfl⟩ := List.mem_map.mp z; rfl
        · rw [List.mem_replicate] at z; rw [z.2]; rfl
      rw [this x (List.mem_of_getElem? e1)] at e2
      cases e2
  exact { sub := hs, nt := hn, inv := hi, len := by simp [hr.length],
          sl := fun i x e => by
            cases i with
            | zero =>
              simp at e; subst e
              exact ⟨p, dx, [], rfl, rfl, hf, by simpa using hp, by simp, rfl⟩
            | succ i => simpa using T.sl i x (by simpa using e),
          dj := fun i j a n h1 h2 => n ((own i a h1).1.trans (own j a h2).1.symm),
          ni := fun i a h => by rw [(own i a h).2]; exact hx,
          fr := fun _ _ e _ _ => e, f0 := Same.refl _, nw := fun a o e n => (by rw [show F a = none from n] at e; cases e),
          tb := ht, al := fun _ n => n, ie := fun a z => Or.inl z, oe := fun i a h => Or.inr (Or.inr (own i a h).2) }
/-- .. for a mirrored __init__ -/
theorem fnI_of {x qual : Str} {dvs : List V} {kws : List (Str × V)} {st : Stmt} {f : Addr} {fd : FuncData} {N ps : List Str} {k : Nat} {mb : MS S} {n q many : Nat} (Fu : FunD K x qual (defArgs st) (defBody st) (defScope st) dvs kws f fd) (Sc : FnScope N ps (defScope st)) (hK : ∀ so, (dc so).K = K) (hn : ps.length = n) (hm : ∀ so, ((dc so).flds q).length = many)
    (hbody : ∀ {cd : Value} {A : Around} {outer : List PySem.Env} {s : Shared} {H : Hp} {E : XK} {so : Option Addr} {B : En}, XO (cxD P w K mg base N qual st f cd A outer s H E) (ctD dc J so B E) k → PSs (cxD P w K mg base N qual st f cd A outer s H E) (defBody st) (tS (ctD dc J so B E) mb)) :
    FnD P w K mg base (k + 1) f fd ps (spI dc J n q (runI N.length q many mb)) := by
  obtain ⟨oc, od, dV, kV, doc, pm, an, cdv, ct, osl, rfl, lk, hcd, _, _⟩ := Fu.ex
  refine ⟨fun h => h.1.trans hn.symm, fun {A outer s H args us vs Q E} hr hg e0 hb r h => ?_⟩
  refine LamX.run_ofS (N := N) (ps := ps) lk hcd Sc hr e0 hb r (h.1.trans hn.symm) fun hr' => ?_
  obtain ⟨hlen, so, F, ds, s0, p, dx, rest, ev, hs, nt, hi, ht, hrep, hp, hf, hx, hfin⟩ := h
  subst ev
  refine ⟨_, hbody (so := so) (B := ⟨F, H, (fun a => (J so).ex a ∨ a = p), some (p, .none, none)⟩) (xo_def hK hr' hg), F, Slot.ins q [] :: (ds.map Slot.d ++ List.replicate (N.length - (ds.length + 1)) Slot.no), s0, ?_, ?_⟩
  · have e : L2.start N (V.ref p :: rest) = some (V.ref p) :: (rest.map some ++ List.replicate (N.length - (ds.length + 1)) none) := by
      unfold L2.start
      rw [List.length_cons, hrep.length]
      rfl
    rw [e]
    exact Stt.startI hs nt hi ht hrep hp hf hx
  · unfold runI at hfin
    cases z : mb (Slot.ins q [] :: (ds.map Slot.d ++ List.replicate (N.length - (ds.length + 1)) Slot.no)) s0 with
    | bad => rw [z] at hfin; exact hfin
    | exc q fs p =>
      rw [z] at hfin
      exact fun cls dd σ' F' H' e T r => hfin cls dd F' H' e T.drop r
    | ok p2 =>
      obtain ⟨o, s'⟩ := p2
      rw [z] at hfin
      cases o with
      | rt d => exact hfin.elim
      | bk _ => exact hfin.elim
      | ct _ => exact hfin.elim
      | nx env' =>
        cases env' with
        | nil => exact hfin.elim
        | cons y env' =>
          cases y with
          | no => exact hfin.elim
          | d _ => exact hfin.elim
          | own _ => exact hfin.elim
          | exc _ _ => exact hfin.elim
          | fn => exact hfin.elim
          | ins k2 fs =>
            dsimp only at hfin
            by_cases hc : k2 = q ∧ fs.length = many
            · rw [if_pos hc] at hfin
              obtain ⟨rfl, hl⟩ := hc
              intro σ' F' H' e T
              obtain ⟨a, dx', us, h1, h2, h3, h4, h5, h6⟩ := T.sl 0 _ rfl
              cases h2
              rw [List.take_of_length_le (by rw [hm so, hl]; exact Nat.le_refl _)] at h4
              exact hfin F' H' e T.drop dx' us h4 (by rw [h6.length, hl, hm so]) h3 h6
            · rw [if_neg hc] at hfin; exact hfin.elim
end
structure GF (P : Program) (w : World) (K : PySem.W.Frag) (mg : Str → Option Value) (base : Heap) (dc : Option Addr → DC) (k : Nat) (x : Str) (dds : List D) (sp : Sp) : Prop where
  ex : ∃ (f : Addr) (fd : FuncData) (ps : List Str) (ds : List Value) (dvs : List V), FnD P w K mg base k f fd ps sp ∧ mg x = some (.ref f) ∧ PySem.W.keepIn K (.ref f) = true ∧ Binds K fd ps ds ∧ Vals dvs ds ∧ ∀ so F, Reps (dc so) F dds dvs
/-- a method of the class number q -/
structure GM (P : Program) (w : World) (K : PySem.W.Frag) (mg : Str → Option Value) (base : Heap) (dc : Option Addr → DC) (k : Nat) (q : Nat) (x : Str) (dds : List D) (sp : Sp) : Prop where
  ex : ∃ (f : Addr) (fd : FuncData) (ps : List Str) (ds : List Value) (dvs : List V), FnD P w K mg base k f fd ps sp ∧ (∀ so, Meth K ((dc so).cls q) x f) ∧ (∀ so, x ∉ (dc so).flds q) ∧ Binds K fd ps ds ∧ Vals dvs ds ∧ ∀ so F, Reps (dc so) F dds dvs
/-- a class that is made by its name -/
structure GI (P : Program) (w : World) (K : PySem.W.Frag) (mg : Str → Option Value) (base : Heap) (dc : Option Addr → DC) (k : Nat) (x : Str) (q : Nat) (dds : List D) (sp : Sp) : Prop where
  ex : ∃ (f : Addr) (fd : FuncData) (ps : List Str) (ds : List Value) (dvs : List V), FnD P w K mg base k f fd ps sp ∧ (∀ so, mg x = some (.ref ((dc so).cls q))) ∧ (∀ so, Mk K ((dc so).cls q) f) ∧ Binds K fd ps ds ∧ Vals dvs ds ∧ ∀ so F, Reps (dc so) F dds dvs
/-- what is known of an own class -/
structure ClsD (C : DC) (q : Nat) : Prop where
  cl : Cls C.K (C.cls q)
  nf : ∀ f ∈ C.flds q, NoAttr C.K (C.cls q) f
  nd : (C.flds q).Nodup
  ls : (C.flds q).length < 1000
section
variable {S : Type} {c : Ct S} {X : Cx} {a b e o : Expr} {es rest : List Expr} {st : Stmt} {pos apos p : Pos} {ma mb mo : M S D} {m : M S D} {ms : M S (List D)} {dc : Option Addr → DC} {J : Option Addr → SI S} {so : Option Addr} {k j n q : Nat} {x : Str} {dds : List D} {mf : List D → S → R (D × S) S}
def callF (n : Nat) (mf : List D → S → R (D × S) S) (dds : List D) (ms : M S (List D)) : M S D := bindM ms fun ds _ s => if (ds ++ dds).length = n then mf (ds ++ dds) s else .bad
/-- from a state: what a callee is handed, and what comes back -/
theorem spD_of {F H : Hp} {σ : St} {env : Env} {s : S} {ds : List D} {vs : List V} {Q : VK} (hC : c.C = dc so) (hI : c.I = J so) (T : Stt c.C c.I c.B F H σ env s) (hl : vs.length = n) (r : Reps c.C F ds vs)
    (q : Fin c F σ env (mf ds s) fun d _ F' H' => ∀ v, Rep c.C F' d v → Q v H') : spD dc J n mf vs H Q fun cls dd H' => c.W cls dd σ H' := by
  obtain ⟨C, I, B, W⟩ := c
  dsimp only at hC hI
  subst hC
  subst hI
  refine ⟨hl, so, F, ds, s, T.sub, T.nt, T.inv, T.tb, r, ?_⟩
  cases z : mf ds s with
  | bad => rw [z] at q; exact q
  | exc k fs s' =>
    rw [z] at q
    exact fun cls dd F' H' e U x => q cls dd F' H' e (T.after (fun _ z => .inl z) U) x
  | ok p =>
    rw [z] at q
    exact fun F' H' e U => q F' H' e (T.after (fun _ z => .inl z) U)
theorem d_call (G : GF X.prog X.w X.K X.mg X.base dc k x dds (spD dc J n mf)) (o : XO X c j) (ha : PA X (e :: es) (tA c ms)) (hkj : k ≤ j := by decide) (hC : c.C = dc so := by rfl) (hI : c.I = J so := by rfl) (hg : Gl X x := by rfl) (hdb : (x == ("__debug__" : Str)) = false := by decide)
    (he : starEach (e :: es) X.env = (false, eval e X.env) :: starEach es X.env := by rfl) (hpl : (backTo pos (starEach es X.env)).any (·.1) = false := by rfl) : PE X (.Call (.Name x p) (e :: es) [] pos) (tM c (callF n mf dds ms)) := by
  obtain ⟨f, fd, ps, ds, dvs, D, hm, kp, hb, hd, hrd⟩ := G.ex
  refine ⟨fun pins s σ H Q I h => ?_⟩
  obtain ⟨F, env, s0, T, h⟩ := h
  refine wpAny_Call_Name_kw (ld_glob I hg hm ?_ hdb)
  refine PySem.W.callWith_K (h₀ := X.base) I.ok.mod.kin kp (thn (ha.run pos pins s σ H (fun vs H1 => spD dc J n mf (vs ++ dvs) H1 Q fun cls dd H' => c.W cls dd σ H') I ⟨F, env, s0, T, h.bind.imp fun xs s1 F1 H1 e1 T1 q vs rvs => ?_⟩) fun us s1 ⟨vs, H1, I1, r, q⟩ => ⟨I1.kIn, D.call o hkj hb hd I1 r q⟩) he hpl
  have r2 : Reps c.C F1 (xs ++ dds) (vs ++ dvs) := rvs.append (by rw [hC]; exact hrd so F1)
  by_cases hl : (xs ++ dds).length = n
  · rw [if_pos hl] at q
    exact spD_of hC hI T1 (r2.length.trans hl) r2 q
  · rw [if_neg hl] at q; exact q.elim
theorem d_call0 (G : GF X.prog X.w X.K X.mg X.base dc k x dds (spD dc J n mf)) (o : XO X c j) (hkj : k ≤ j := by decide) (hC : c.C = dc so := by rfl) (hI : c.I = J so := by rfl) (hg : Gl X x := by rfl) (hdb : (x == ("__debug__" : Str)) = false := by decide) : PE X (.Call (.Name x p) [] [] pos) (tM c (callF n mf dds (retM []))) := by
  obtain ⟨f, fd, ps, ds, dvs, D, hm, kp, hb, hd, hrd⟩ := G.ex
  refine ⟨fun pins s σ H Q I h => ?_⟩
  obtain ⟨F, env, s0, T, h⟩ := h
  refine wpAny_Call_Name_kw (ld_glob I hg hm ?_ hdb)
  have q : Fin c F σ env (if ([] ++ dds).length = n then mf ([] ++ dds) s0 else .bad) _ := h
  by_cases hl : ([] ++ dds).length = n
  · rw [if_pos hl] at q
    have r2 : Reps c.C F ([] ++ dds) ([] ++ dvs) := by rw [hC]; exact hrd so F
    exact PySem.W.callWith_K0 I.kIn kp (D.call (us := []) (vs := []) o hkj hb hd I .nil (spD_of hC hI T (r2.length.trans hl) r2 q))
  · rw [if_neg hl] at q; exact q.elim
theorem zip_look {N : List Str} (nd : N.Nodup) : ∀ {vs : List V} {i : Nat} {f : Str} {v : V}, N[i]? = some f → vs[i]? = some v → (N.zip vs).lookup f = some v := by
  induction N with
  | nil => intro vs i f v h; simp at h
  | cons g N ih =>
    intro vs i f v h1 h2
    cases vs with
    | nil => simp at h2
    | cons u vs =>
      cases i with
      | zero =>
        simp at h1 h2
        subst h1; subst h2
        simp [List.lookup]
      | succ i =>
        simp only [List.getElem?_cons_succ] at h1 h2
        have ne : (f == g) = false := beq_eq_false_iff_ne.mpr fun z => (List.nodup_cons.mp nd).1 (z ▸ List.mem_of_getElem? h1)
        show (((g, u) :: N.zip vs).lookup f) = some v
        simp only [List.lookup, ne]
        exact ih (List.nodup_cons.mp nd).2 h1 h2
def fldD (tb : List (Nat × Nat)) : D → Option D
  | .obj q fs => (tb.lookup q).bind fun i => fs[i]?
  | _ => none
/-- each class of the table has the attribute at its place -/
def TbOk (C : DC) (f : Str) : List (Nat × Nat) → Prop
  | [] => True
  | (q, i) :: r => (ClsD C q ∧ (C.flds q)[i]? = some f) ∧ TbOk C f r
theorem TbOk.at {C : DC} {f : Str} : ∀ {tb : List (Nat × Nat)} {q i : Nat}, TbOk C f tb → tb.lookup q = some i → ClsD C q ∧ (C.flds q)[i]? = some f
  | (q', i') :: r, q, i, h, e => by
    simp only [List.lookup] at e
    split at e
    · rename_i z
      cases e
      rw [beq_iff_eq.mp z]
      exact h.1
    · exact TbOk.at h.2 e
theorem d_fld {f : Str} (hk : c.C.K = X.K) (tb : List (Nat × Nat)) (ht : TbOk c.C f tb) (ho : PE X o (tM c mo)) (hb : attributeBase o f X.env (eval o X.env) = eval o X.env := by rfl) : PE X (.Attribute o f pos) (tM c (m1 (fldD tb) mo)) := by
  refine PEimp (pe_fld ho hb) fun σ H Q h => ?_
  refine tM_bind h fun dx s1 F1 H1 x env T1 rx q => ?_
  obtain ⟨d, e, q3⟩ := q.opt T1
  clear q
  unfold fldD at e
  split at e
  · rename_i k fs
    obtain ⟨p, dx, vs, h1, h2, h3, h4⟩ := rx
    cases z : tb.lookup k with
    | none => rw [z] at e; cases e
    | some i =>
      rw [z] at e
      obtain ⟨cd, hf⟩ := ht.at z
      obtain ⟨v, hv, rv⟩ := h4.get e
      exact ⟨p, c.C.cls k, dx, _, v, h1, T1.sub _ _ h2, hk ▸ cd.cl, hk ▸ cd.nf f (List.mem_of_getElem? hf), zip_look cd.nd hf hv, q3 F1 H1 (Same.refl _) T1 v rv⟩
  · cases e
/-- self.f, self the instance that is being made -/
def mSelf (i q jx : Nat) : M S D := fun env s => match env[i]? with
  | some (.ins k fs) => if k = q then (match fs[jx]? with | some d => .ok (d, s) | none => .bad) else .bad
  | _ => .bad
theorem d_self {f y : Str} {i jx : Nat} (hk : c.C.K = X.K) (cd : ClsD c.C q) (hf : (c.C.flds q)[jx]? = some f) (hN : X.N[i]? = some y := by rfl) (hv : Vis X.env.scope y := by first | exact Or.inl rfl | exact Or.inr (Or.inl rfl) | exact Or.inr (Or.inr rfl)) (hd : (y == ("__debug__" : Str)) = false := by decide)
    (hcd : (y == ("__classdict__" : Str)) = false := by decide) (hb : attributeBase (.Name y p) f X.env (eval (.Name y p) X.env) = eval (.Name y p) X.env := by rfl) : PE X (.Attribute (.Name y p) f pos) (tM c (mSelf i q jx)) := by
  refine PEimp (pe_fld (pe_var hN hv hd hcd) hb) fun σ H Q h => ?_
  obtain ⟨F, env, s, T, h⟩ := h
  unfold mSelf at h
  cases z : env[i]? with
  | none => rw [z] at h; exact h.elim
  | some y =>
    rw [z] at h
    cases y with
    | ins k fs =>
      dsimp only at h
      by_cases hkq : k = q
      · subst hkq
        rw [if_pos rfl] at h
        cases w : fs[jx]? with
        | none => rw [w] at h; exact h.elim
        | some d =>
          rw [w] at h
          obtain ⟨a, dx, vs, h1, h2, h3, h4, h5, h6⟩ := T.sl i _ z
          obtain ⟨v, hv, rv⟩ := h6.get w
          have hj : jx < fs.length := (List.getElem?_eq_some_iff.mp w).1
          refine ⟨.ref a, h1, a, c.C.cls k, dx, _, v, rfl, h4, hk ▸ cd.cl, hk ▸ cd.nf f (List.mem_of_getElem? hf), zip_look (cd.nd.sublist (List.take_sublist _ _)) (by rw [List.getElem?_take_of_lt hj]; exact hf) hv, h F H (Same.refl _) T v rv⟩
      · rw [if_neg hkq] at h; exact h.elim
    | no => exact h.elim
    | d _ => exact h.elim
    | own _ => exact h.elim
    | exc _ _ => exact h.elim
    | fn => exact h.elim
theorem putF_snoc {N : List Str} (nd : N.Nodup) : ∀ {vs : List V} {f : Str} {v : V} {k : Nat}, vs.length = k → N[k]? = some f → putF f v ((N.take k).zip vs) = (N.take (k + 1)).zip (vs ++ [v]) := by
  induction N with
  | nil => intro vs f v k _ h; simp at h
  | cons g N ih =>
    intro vs f v k hl h
    cases k with
    | zero =>
      cases vs with
      | nil => simp at h; subst h; simp [putF]
      | cons _ _ => simp at hl
    | succ k =>
      cases vs with
      | nil => simp at hl
      | cons u vs =>
        simp only [List.getElem?_cons_succ] at h
        have ne : g ≠ f := fun z => (List.nodup_cons.mp nd).1 (z ▸ List.mem_of_getElem? h)
        show putF f v ((g, u) :: ((N.take k).zip vs)) = _
        rw [show putF f v ((g, u) :: ((N.take k).zip vs)) = (if g = f then (g, v) :: ((N.take k).zip vs) else (g, u) :: putF f v ((N.take k).zip vs)) from rfl, if_neg ne, ih (List.nodup_cons.mp nd).2 (by simpa using hl) h]
        rfl
/-- self.f = e, the next attribute of the instance that is being made -/
def selfS (i q jx : Nat) (m : M S D) : MS S := thenS m fun d => fun env s => match env[i]? with
  | some (.ins k fs) => if k = q ∧ fs.length = jx then .ok (.nx (env.set i (.ins q (fs ++ [d]))), s) else .bad
  | _ => .bad
theorem s_self {f y : Str} {i jx : Nat} {pos' : Pos} (hk : c.C.K = X.K) (cd : ClsD c.C q) (hf : (c.C.flds q)[jx]? = some f) (hv : PE X e (tM c m)) (hN : X.N[i]? = some y := by rfl) (hvi : Vis X.env.scope y := by first | exact Or.inl rfl | exact Or.inr (Or.inl rfl) | exact Or.inr (Or.inr rfl)) (hd : (y == ("__debug__" : Str)) = false := by decide)
    (hcd : (y == ("__classdict__" : Str)) = false := by decide) (hs : swapsWith e (some (.Attribute (.Name y p) f pos')) pos.line X.env = pure false := by rfl) : PS X (.Assign [.Attribute (.Name y p) f pos'] e pos) (tS c (selfS i q jx m)) := by
  refine PSimp (ps_fld (pe_var hN hvi hd hcd) hv hs) fun D σ H h => ?_
  obtain ⟨F, env, s, T, h⟩ := h
  refine ⟨F, env, s, T, h.bind.imp fun d s1 F1 H1 e1 T1 h v rv => ?_⟩
  cases z : env[i]? with
  | none => rw [z] at h; exact h.elim
  | some y =>
    rw [z] at h
    cases y with
    | ins k fs =>
      dsimp only at h
      by_cases hkq : k = q ∧ fs.length = jx
      · rw [if_pos hkq] at h
        obtain ⟨rfl, hl⟩ := hkq
        obtain ⟨a, dx, vs, h1, h2, h3, h4, h5, h6⟩ := T1.sl i _ z
        have lz := h6.length
        refine ⟨.ref a, h1, a, c.C.cls k, dx, _, rfl, h4, hk ▸ cd.cl, hk ▸ cd.nf f (List.mem_of_getElem? hf), ?_, ?_⟩
        · have := cd.ls
          rw [List.length_zip]
          omega
        · rw [putF_snoc cd.nd lz (by rw [hl]; exact hf)]
          have oa : OwnAt env σ i a := ⟨_, z, rfl, h1⟩
          have li : i < env.length := (List.getElem?_eq_some_iff.mp z).1
          have ow : ∀ j b, OwnAt (env.set i (.ins k (fs ++ [d]))) σ j b → OwnAt env σ j b := fun j b ⟨x, e1, e2, e3⟩ => by
            by_cases hj : j = i
            · subst hj
              rw [List.getElem?_set_self li] at e1
              rw [h1] at e3; cases e3
              exact oa
            · rw [List.getElem?_set_ne (Ne.symm hj)] at e1
              exact ⟨x, e1, e2, e3⟩
          refine h σ F1 _ (Same.refl _) { sub := fun b u e => ?_, nt := T1.nt, inv := ?_, len := by rw [List.length_set]; exact T1.len, sl := fun j x e => ?_, dj := fun j l b n o1 o2 => T1.dj j l b n (ow j b o1) (ow l b o2), ni := fun j b o1 => T1.ni j b (ow j b o1), fr := fun b u e n1 n2 => ?_, f0 := T1.f0, nw := T1.nw, tb := ?_, al := fun b n => ?_, ie := T1.ie, oe := fun j b o1 => T1.oe j b (ow j b o1) }
          · rw [upd_ne (fun z => by subst z; rw [h3] at e; cases e)]; exact T1.sub b u e
          · exact c.I.mono T1.inv (Same.refl _) fun b hb => ⟨rfl, upd_ne fun z => by subst z; exact T1.ni i _ oa hb⟩
          · by_cases hj : j = i
            · subst hj
              rw [List.getElem?_set_self li] at e
              cases e
              refine ⟨a, dx, vs ++ [v], h1, h2, h3, ?_, ?_, h6.append (Reps.one rv)⟩
              · rw [upd_same, List.length_append, List.length_singleton]
              · rw [List.length_append, List.length_singleton, hl]
                exact (List.getElem?_eq_some_iff.mp hf).1
            · rw [List.getElem?_set_ne (Ne.symm hj)] at e
              refine (T1.sl j x e).keep (Same.refl _) fun b k1 k2 => ?_
              have ob : OwnAt env σ j b := ⟨x, e, k2, k1⟩
              have nb : b ≠ a := fun z => by subst z; exact T1.dj j i _ hj ob oa
              exact ⟨(T1.own_there ob).1, upd_ne nb⟩
          · rcases T1.oe i a oa with z | z
            · rw [upd_ne (fun w => by subst w; rw [z] at e; cases e)]; exact T1.fr b u e n1 n2
            · rw [upd_ne (fun w => by subst w; exact n1 z)]; exact T1.fr b u e n1 n2
          · refine fun w hw => ?_
            obtain ⟨ps, k1, k2, k3⟩ := T1.tb w hw
            refine ⟨ps, by rw [upd_ne (fun z => by rw [z, h4] at k1; cases k1)]; exact k1, k2, fun pos cv hc => ?_⟩
            obtain ⟨u, e1, e2⟩ := k3 pos cv hc
            exact ⟨u, e1, by rw [upd_ne (fun z => by rw [z, h4] at e2; unfold LamX.CodeO at e2; cases e2)]; exact e2⟩
          · by_cases w : b = a
            · subst w; rw [upd_same]; simp
            · rw [upd_ne w]; exact T1.al b n
      · rw [if_neg hkq] at h; exact h.elim
    | no => exact h.elim
    | d _ => exact h.elim
    | own _ => exact h.elim
    | exc _ _ => exact h.elim
    | fn => exact h.elim
end
end DL
set_option Elab.async false
set_option linter.all false
set_option maxRecDepth 100000
namespace DL
open PySem PySem.Spec PyProof.Rows L2
section
variable {S : Type} {c : Ct S} {X : Cx} {a b e o : Expr} {es rest : List Expr} {st : Stmt} {pos apos p : Pos} {ma mb mo : M S D} {m : M S D} {ms : M S (List D)} {dc : Option Addr → DC} {J : Option Addr → SI S} {so : Option Addr} {k j n q : Nat} {x : Str} {dds : List D} {mf : List D → S → R (D × S) S} {mi : List D → S → R (List D × S) S}
theorem guards_make {A : Around} {C : Addr} {us : List Value} (h : A.guards = some []) : (A.under (.builtin "type.__call__" ⟨.ref C :: us, []⟩)).guards = some [] := by
  have e : Code.guards (.builtin "type.__call__" ⟨.ref C :: us, []⟩) = [] := by
    unfold Code.guards
    rw [if_neg (by simp [Code.isGuard, guardIds])]
  show pushGuards (Code.guards (.builtin "type.__call__" ⟨.ref C :: us, []⟩)) A.guards = some []
  rw [e, h]
  rfl
def makeR (q n : Nat) (mi : List D → S → R (List D × S) S) (ds : List D) (s : S) : R (D × S) S := if ds.length = n then (match mi ds s with
  | .ok (fs, s') => .ok (.obj q fs, s')
  | .exc k fs s' => .exc k fs s'
  | .bad => .bad) else .bad
theorem spI_of {F H : Hp} {σ : St} {env : Env} {s : S} {ds : List D} {vs : List V} {Q : VK} {p dx : Addr} (hC : c.C = dc so) (hI : c.I = J so) (T : Stt c.C c.I c.B F H σ env s) (hl : vs.length = n) (r : Reps c.C F ds vs) (np : H p = none) (nd : H dx = none) (ne : dx ≠ p)
    (h : Fin c F σ env (match mi ds s with | .ok (fs, s') => .ok (.obj q fs, s') | .exc k fs s' => .exc k fs s' | .bad => .bad) fun d _ F' H' => ∀ v, Rep c.C F' d v → Q v H') :
    spI dc J (n + 1) q mi (.ref p :: vs) (upd (upd H dx (.own p)) p (.ins (c.C.cls q) dx [])) (fun v H' => v = .non ∧ Q (.ref p) H') fun cls dd H' => c.W cls dd σ H' := by
  have np2 : upd H dx (.own p) p = none := by rw [upd_ne (Ne.symm ne)]; exact np
  have T2 : Stt c.C c.I c.B F (upd (upd H dx (.own p)) p (.ins (c.C.cls q) dx [])) σ env s := (T.newM nd).newM np2
  have fp : F p = none := T.ff np
  have xp : ¬ c.I.ex p := T.exfree np
  have hp0 : c.B.H0 p = none := T.h0 np
  have nop : ∀ i, ¬ OwnAt env σ i p := fun i z => (T.own_there z).2.1 np
  obtain ⟨C, I, B, W⟩ := c
  dsimp only at hC hI
  subst hC
  subst hI
  refine ⟨by simp [hl], so, F, ds, s, p, dx, vs, rfl, T2.sub, T2.nt, T2.inv, T2.tb, r, upd_same, fp, xp, ?_⟩
  have hex : ∀ a, ((J so).ex a ∨ a = p) → (J so).ex a ∨ (B.H0 a = none ∧ ∀ i, ¬ OwnAt env σ i a) := fun a z => z.elim .inl fun w => .inr (by subst w; exact ⟨hp0, nop⟩)
  cases z : mi ds s with
  | bad => rw [z] at h; exact h
  | exc k fs s' =>
    rw [z] at h
    exact fun cls dd F' H' e U x => h cls dd F' H' e (T2.after hex U) x
  | ok w =>
    obtain ⟨fs, s'⟩ := w
    rw [z] at h
    intro F' H' e U dx' us h1 h2 h3 h4
    have T3 := T2.after hex U
    have T4 := T3.freeze h1 h3 (fun ps z => by cases z) xp nop hp0
    exact ⟨rfl, h _ H' (e.trans (same_upd h3)) T4 _ ⟨p, dx', us, rfl, upd_same, h2, h4.mono (same_upd h3)⟩⟩
def makeF (q n : Nat) (mi : List D → S → R (List D × S) S) (dds : List D) (ms : M S (List D)) : M S D := bindM ms fun ds _ s => makeR q n mi (ds ++ dds) s
/-- C(e, ..) -/
theorem d_make (G : GI X.prog X.w X.K X.mg X.base dc k x q dds (spI dc J (n + 1) q mi)) (o : XO X c j) (ha : PA X (e :: es) (tA c ms)) (hkj : k + 1 ≤ j := by decide) (hC : c.C = dc so := by rfl) (hI : c.I = J so := by rfl) (hg : Gl X x := by rfl) (hdb : (x == ("__debug__" : Str)) = false := by decide)
    (he : starEach (e :: es) X.env = (false, eval e X.env) :: starEach es X.env := by rfl) (hpl : (backTo pos (starEach es X.env)).any (·.1) = false := by rfl) : PE X (.Call (.Name x p) (e :: es) [] pos) (tM c (makeF q n mi dds ms)) := by
  obtain ⟨f, fd, ps, ds, dvs, D, hm, Mk, hb, hd, hrd⟩ := G.ex
  refine ⟨fun pins s σ H Q I h => ?_⟩
  obtain ⟨F, env, s0, T, h⟩ := h
  refine wpAny_Call_Name_kw (ld_glob I hg (hm so) ?_ hdb)
  refine PySem.W.callWith_K (h₀ := X.base) I.ok.mod.kin (Mk so).kp (thn (ha.run pos pins s σ H (fun vs H1 => ∀ p dx, H1 p = none → H1 dx = none → dx ≠ p → spI dc J (n + 1) q mi (.ref p :: (vs ++ dvs)) (upd (upd H1 dx (.own p)) p (.ins (c.C.cls q) dx [])) (fun v H' => v = .non ∧ Q (.ref p) H') fun cls dd H' => c.W cls dd σ H') I ⟨F, env, s0, T, h.bind.imp fun xs s1 F1 H1 e1 T1 hq vs rvs => ?_⟩) fun us s1 ⟨vs, H1, I1, r, hq⟩ => ⟨I1.kIn, ?_⟩) he hpl
  · intro p dx np nd ne
    have r2 : Reps c.C F1 (xs ++ dds) (vs ++ dvs) := rvs.append (by rw [hC]; exact hrd so F1)
    unfold makeR at hq
    by_cases hl : (xs ++ dds).length = n
    · rw [if_pos hl] at hq
      exact spI_of hC hI T1 (r2.length.trans hl) r2 np nd ne hq
    · rw [if_neg hl] at hq; exact hq.elim
  · have at_ := hq (s1.heap.objs.size + 1) s1.heap.objs.size (I1.hok.fresh (Nat.le_succ _)) (I1.hok.fresh (Nat.le_refl _)) (Nat.ne_of_lt (Nat.lt_succ_self _))
    have I2 := Inv.made (C := c.C.cls q) I1
    have both : Vals (V.ref (s1.heap.objs.size + 1) :: (vs ++ dvs)) (Value.ref (s1.heap.objs.size + 1) :: (us ++ ds)) := .cons rfl (r.append hd)
    have number : (Value.ref (s1.heap.objs.size + 1) :: us ++ ds).length = ps.length := both.length.symm.trans (D.many at_)
    rw [hC] at at_ I2
    refine wpAny_call (make_map (f := f) I1.kIn (Mk so).makes (Mk so).init (beq_iff_eq.mp (Mk so).fn) (codeAny_mono (D.goes ((o.rm.mono hkj).make _ us []) (guards_make o.gd) (I2.env0.make _ us []) (hb _ (Value.ref (s1.heap.objs.size + 1) :: us) I2.kIn number) both at_) fun res s' hres => ?_))
    match res, hres with
    | .error e, hres => exact o.tk e s' (XE.of_call I2 (fun _ _ _ z => z) hres)
    | .ok (.ret u), hres =>
      obtain ⟨v, H', I3, rv, ⟨ev, q3⟩⟩ := I2.after hres
      subst ev
      exact ⟨rv, ⟨V.ref (s1.heap.objs.size + 1), H', I3, rfl, q3⟩⟩
def methF (q n : Nat) (mf : List D → S → R (D × S) S) (dds : List D) (mo : M S D) (ms : M S (List D)) : M S D := bindM mo fun x => match x with
  | .obj k _ => if k = q then (bindM ms fun ds _ s => if (x :: (ds ++ dds)).length = n then mf (x :: (ds ++ dds)) s else .bad) else fun _ _ => .bad
  | _ => fun _ _ => .bad
theorem d_meth {pl : Sem Bool} (G : GM X.prog X.w X.K X.mg X.base dc k q x dds (spD dc J n mf)) (cd : ClsD c.C q) (o' : XO X c j) (ho : PE X o (tM c mo)) (ha : PA X (e :: es) (tA c ms)) (hkj : k ≤ j := by decide) (hC : c.C = dc so := by rfl) (hI : c.I = J so := by rfl)
    (hst : starEach (e :: es) X.env = (false, eval e X.env) :: starEach es X.env := by rfl) (hpl : (backTo pos (starEach es X.env)).any (·.1) = false := by rfl)
    (ht : eval (.Call (.Attribute o x apos) (e :: es) [] pos) X.env = (do
      let ov ← eval o X.env
      standAt apos.atName
      let (f, first) ← holding [ov] (getMethod ov x pl)
      callWith pos f first (backTo pos (starEach (e :: es) X.env)) (backToKw pos (keywordEach [] X.env))) := by rfl) : PE X (.Call (.Attribute o x apos) (e :: es) [] pos) (tM c (methF q n mf dds mo ms)) := by
  obtain ⟨f, fd, ps, ds, dvs, Df, hm, hnf, hb, hd, hrd⟩ := G.ex
  refine ⟨fun pins s σ H Q I h => ?_⟩
  refine PySem.W.methodCall_KW (pl := pl) (thn (ho.run pins s σ H (fun y H1 => ∃ a dx us, y = .ref a ∧ H1 a = some (.ins (c.C.cls q) dx ((c.C.flds q).zip us)) ∧ tA c ms σ H1 fun vs H2 => spD dc J n mf (.ref a :: (vs ++ dvs)) H2 Q fun cls dd H' => c.W cls dd σ H') I ?_) fun u s1 ⟨y, H1, I1, ry, a, dx, us, ey, ea, hq⟩ => ?_) ht
  · refine tM_bind h fun dy s1 F1 H1 y env T1 ry hq => ?_
    cases dy with
    | obj k2 fs =>
      dsimp only at hq
      by_cases hk2 : k2 = q
      · subst hk2
        rw [if_pos rfl] at hq
        obtain ⟨a, dx, us, e1, e2, e3, e4⟩ := ry
        refine ⟨a, dx, us, e1, T1.sub _ _ e2, F1, env, s1, T1, hq.bind.imp fun xs s2 F2 H2 ex T2 hq vs rvs => ?_⟩
        have r2 : Reps c.C F2 (.obj k2 fs :: (xs ++ dds)) (.ref a :: (vs ++ dvs)) := ⟨_, _, rfl, ⟨a, dx, us, rfl, ex _ _ e2, e3, e4.mono ex⟩, rvs.append (by rw [hC]; exact hrd so F2)⟩
        by_cases hl : (D.obj k2 fs :: (xs ++ dds)).length = n
        · rw [if_pos hl] at hq
          exact spD_of hC hI T2 (r2.length.trans hl) r2 hq
        · rw [if_neg hl] at hq; exact hq.elim
      · rw [if_neg hk2] at hq; exact hq.elim
    | _ => exact hq.elim
  · subst ey
    obtain rfl : u = Value.ref a := ry
    have nl : ((c.C.flds q).zip us).lookup x = none := by
      have nm : x ∉ c.C.flds q := by rw [hC]; exact hnf so
      have go : ∀ (N : List Str) (us : List V), x ∉ N → (N.zip us).lookup x = none := by
        intro N
        induction N with
        | nil => intro us _; rfl
        | cons g N ih =>
          intro us hx
          cases us with
          | nil => rfl
          | cons w us =>
            have ne : (x == g) = false := beq_eq_false_iff_ne.mpr fun z => hx (z ▸ List.mem_cons_self)
            show ((g, w) :: N.zip us).lookup x = none
            simp only [List.lookup, ne]
            exact ih us fun z => hx (List.mem_cons_of_mem _ z)
      exact go _ us nm
    have me : Meth X.K (c.C.cls q) x f := by rw [← o'.hk, hC]; have := hm so; rw [← hC, o'.hk] at *; exact this
    refine getmeth_ok I1 ea (o'.hk ▸ cd.cl) me nl ?_
    refine PySem.W.callWith_K (first := [.ref a]) (h₀ := X.base) I.ok.mod.kin me.kp (thn (ha.run pos pins s1 σ H1 _ I1 hq) fun us s2 ⟨vs, H2, I2, r, q2⟩ => ⟨I2.kIn, ?_⟩) hst hpl
    exact Df.call (us := .ref a :: us) (vs := .ref a :: vs) o' hkj hb hd I2 (.cons rfl r) q2
end
end DL
set_option Elab.async false
set_option linter.all false
set_option maxRecDepth 100000
namespace DL
open PySem PySem.Spec PyProof.Rows L2
section
variable {S : Type} {c : Ct S} {X : Cx} {a b e o : Expr} {es rest : List Expr} {st : Stmt} {pos apos p : Pos} {ma mb mo : M S D} {m : M S D} {ms : M S (List D)} {dc : Option Addr → DC} {J : Option Addr → SI S} {so : Option Addr} {k j n q : Nat} {x : Str} {dds : List D} {mf : List D → S → R (D × S) S}
/-- from a method's promise: what calls it with these values -/
structure MCall (X : Cx) (c : Ct S) (k n q : Nat) (x : Str) (mf : List D → S → R (D × S) S) : Prop where
  ex : ∃ (f : Addr) (fd : FuncData) (ps : List Str) (sp : Sp), FnD X.prog X.w X.K X.mg X.base k f fd ps sp ∧ Meth X.K (c.C.cls q) x f ∧ Binds X.K fd ps [] ∧ ∀ {F H : Hp} {σ : St} {env : Env} {s : S} {ds : List D} {vs : List V} {Q : VK}, Stt c.C c.I c.B F H σ env s → ds.length = n → Reps c.C F ds vs →
    (Fin c F σ env (mf ds s) fun d _ F' H' => ∀ v, Rep c.C F' d v → Q v H') → sp vs H Q fun cls dd H' => c.W cls dd σ H'
theorem GM.call (G : GM X.prog X.w X.K X.mg X.base dc k q x [] (spD dc J n mf)) (o : XO X c j) (hC : c.C = dc so := by rfl) (hI : c.I = J so := by rfl) : MCall X c k n q x mf := by
  obtain ⟨f, fd, ps, ds, dvs, Df, hm, hnf, hb, hd, hrd⟩ := G.ex
  have e0 : dvs = [] := hrd so (fun _ => none)
  subst e0
  cases hd
  have me : Meth X.K (c.C.cls q) x f := by have := hm so; rw [← hC] at this; exact this
  exact ⟨f, fd, ps, _, Df, me, hb, fun T hl r h => spD_of hC hI T (r.length.trans hl) r h⟩
def oneF (q : Nat) (mf : List D → S → R (D × S) S) (x : D) : M S D := fun _ s => match x with
  | .obj k _ => if k = q then mf [x] s else .bad
  | _ => .bad
def negO (q : Nat) (mf : List D → S → R (D × S) S) (ma : M S D) : M S D := bindM ma fun x => match x with
  | .int i => retM (.int (-i))
  | _ => oneF q mf x
theorem obj_at {F H : Hp} {fs : List D} {v : V} (hs : Same F H) (r : Rep c.C F (.obj q fs) v) : ∃ p dx us, v = .ref p ∧ H p = some (.ins (c.C.cls q) dx ((c.C.flds q).zip us)) := by
  obtain ⟨p, dx, us, h1, h2, _⟩ := r
  exact ⟨p, dx, us, h1, hs _ _ h2⟩
theorem d_negO (G : MCall X c k 1 q "__neg__" mf) (o' : XO X c j) (ha : PE X a (tM c ma)) (hkj : k ≤ j := by decide) : PE X (.UnaryOp .USub a pos) (tM c (negO q mf ma)) := by
  obtain ⟨f, fd, ps, sp, Df, me, hb, hsp⟩ := G.ex
  refine ⟨fun pins s σ H Q I h => ?_⟩
  refine UnaryOp_ (thn (ha.run pins s σ H (fun y H1 => (∃ i, y = .int i ∧ Q (.int (-i)) H1) ∨ ∃ p dx us, y = .ref p ∧ H1 p = some (.ins (c.C.cls q) dx us) ∧ sp [.ref p] H1 Q fun cls dd H' => c.W cls dd σ H') I (tM_bind h fun dy s1 F1 H1 y env T1 ry hq => ?_)) fun u s1 ⟨y, H1, I1, ry, hy⟩ => ?_)
  · cases dy with
    | int i => cases rep_int ry; exact .inl ⟨i, rfl, hq F1 H1 (Same.refl _) T1 _ rfl⟩
    | obj k2 fs =>
      by_cases hk : k2 = q
      · subst hk
        have hq : Fin c F1 σ env (if k2 = k2 then mf [.obj k2 fs] s1 else .bad) _ := hq
        rw [if_pos rfl] at hq
        obtain ⟨p, dx, us, e1, e2⟩ := obj_at T1.sub ry
        subst e1
        exact .inr ⟨p, dx, _, rfl, e2, hsp T1 rfl (Reps.one ry) hq⟩
      · have hq : Fin c F1 σ env (if k2 = q then mf [.obj k2 fs] s1 else .bad) _ := hq
        rw [if_neg hk] at hq; exact hq.elim
    | _ => exact hq.elim
  · rcases hy with ⟨i, rfl, hq⟩ | ⟨p, dx, us, rfl, hp, hq⟩
    · obtain ⟨t, rfl⟩ := ry
      exact neg_int ⟨.int (-i), H1, I1.tok _, ⟨_, rfl⟩, hq⟩
    · obtain rfl : u = Value.ref p := ry
      obtain ⟨mA, O, _⟩ := ins_get I1.hok hp
      obtain ⟨od, IA, _⟩ := O.look
      obtain ⟨mm, Fr'⟩ := I1.fr
      exact PySem.W.ksp_neg Fr' I.ok.mod.kin IA me.at_ me.fn (Df.call (us := [.ref p]) (vs := [.ref p]) o' hkj hb .nil I1 (.cons rfl .nil) hq)
/-- str(x) of an own class's instance, of an int, of a text -/
def strO (q : Nat) (mf : List D → S → R (D × S) S) (ma : M S D) : M S D := bindM ma fun x => match x with
  | .int i => if i.natAbs.log2 < 1920 then retM (.str (toString i)) else fun _ _ => .bad
  | .obj k _ => fun _ s => if k = q then (match mf [x] s with
    | .ok (.str y, s') => .ok (.str y, s')
    | .exc k fs s' => .exc k fs s'
    | _ => .bad) else .bad
  | _ => fun _ _ => .bad
theorem d_strO {p : Pos} (G : MCall X c k 1 q "__str__" mf) (o' : XO X c j) (hm : X.mg "str" = none) (ha : PE X a (tM c ma)) (hkj : k + 2 ≤ j := by decide) (hs : starEach [a] X.env = (false, eval a X.env) :: starEach [] X.env := by rfl) (hg : Gl X "str" := by rfl) (hpl : (backTo pos (starEach [] X.env)).any (·.1) = false := by rfl) : PE X (.Call (.Name "str" p) [a] [] pos) (tM c (strO q mf ma)) := by
  obtain ⟨f, fd, ps, sp, Df, me, hb, hsp⟩ := G.ex
  refine ⟨fun pins s σ H Q I h => ?_⟩
  refine wpAny_Call_Name_kw (ld_blt I hg hm PyProof.Rows.boot_str ?_)
  refine PyProof.Rows.callWith_type1 (thn ((L2.pa_cons ha L2.pa_nil hs).run pos pins s σ H (fun ys H1 => ∃ y, ys = [y] ∧ ((∃ i, y = .int i ∧ i.natAbs.log2 < 1920 ∧ Q (.str (toString i)) H1) ∨ ∃ p dx us, y = .ref p ∧ H1 p = some (.ins (c.C.cls q) dx us) ∧ sp [.ref p] H1 (fun v H' => ∃ z, v = .str z ∧ Q v H') fun cls dd H' => c.W cls dd σ H')) I (tM_bind h fun dy s1 F1 H1 y env T1 ry hq => ⟨y, rfl, ?_⟩)) fun us s1 ⟨ys, H1, I1, r1, y, ey, hy⟩ => ?_) hs hpl
  · cases dy with
    | int i =>
      cases rep_int ry
      by_cases hl : i.natAbs.log2 < 1920
      · simp only [if_pos hl] at hq
        exact .inl ⟨i, rfl, hl, hq F1 H1 (Same.refl _) T1 _ rfl⟩
      · simp only [if_neg hl] at hq
        exact hq.elim
    | obj k2 fs =>
      dsimp only at hq
      by_cases hk : k2 = q
      · subst hk
        rw [if_pos rfl] at hq
        obtain ⟨p, dx, us, e1, e2⟩ := obj_at T1.sub ry
        subst e1
        refine .inr ⟨p, dx, _, rfl, e2, hsp T1 rfl (Reps.one ry) ?_⟩
        cases z : mf [D.obj k2 fs] s1 with
        | bad => rw [z] at hq; exact hq
        | exc k fs s' => rw [z] at hq; exact hq
        | ok w =>
          obtain ⟨d, s'⟩ := w
          rw [z] at hq
          cases d with
          | str y => exact fun F' H' e T' v rv => ⟨y, rep_str rv, hq F' H' e T' v rv⟩
          | _ => exact hq.elim
      · rw [if_neg hk] at hq; exact hq.elim
    | _ => exact hq.elim
  · subst ey
    obtain ⟨u, rfl, ru⟩ := vals1 r1
    rcases hy with ⟨i, rfl, hl, hq⟩ | ⟨p, dx, us, rfl, hp, hq⟩
    · obtain ⟨t, rfl⟩ := ru
      exact PySem.P.str_of_int hl ⟨.str _, H1, I1.tok _, ⟨_, rfl⟩, hq⟩
    · obtain rfl : u = Value.ref p := ru
      obtain ⟨mA, O, _⟩ := ins_get I1.hok hp
      obtain ⟨od, IA, _⟩ := O.look
      have r0 := o'.rm.mono hkj
      refine PySem.W.kso_call (by have := r0.units; show X.A.units + 1 + 1 < _; omega) I1.kIn IA me.at_ me.fn (thn (Df.callAt (A := X.A.in1.in1) (us := [.ref p]) (vs := [.ref p]) r0.in1.in1 o'.gd o'.tk I1.env0.in1.in1 hb .nil I1 (.cons rfl .nil) hq) fun v s2 ⟨y, H2, I2, ry, z, ez, hz⟩ => ?_)
      subst ez
      obtain ⟨t, rfl⟩ := ry
      exact ⟨.str z, H2, I2, ⟨t, rfl⟩, hz⟩
def fmtD : D → Option D
  | .str y => if y.length ≤ sizeLine then some (.str y) else none
  | .int i => if i.natAbs.log2 < 1920 then some (.str (toString i)) else none
  | _ => none
theorem d_fmt (he : PE X e (tM c m)) : PE X (.FormattedValue e (-1) none pos) (tM c (m1 fmtD m)) := by
  refine PEimp (pe_fmt he) fun σ H Q h => ?_
  refine tM_un (r := fun x H Q => (∃ y : Str, x = .str y ∧ y.length ≤ sizeLine ∧ Q (.str y) H) ∨ ∃ i : Int, x = .int i ∧ i.natAbs.log2 < 1920 ∧ Q (.str (toString i)) H) (fun F x dx d rx e => ?_) h
  unfold fmtD at e
  split at e
  · split at e
    · rename_i hl
      cases e; cases rep_str rx
      exact ⟨_, fun _ => rfl, fun H Q q => .inl ⟨_, rfl, hl, q⟩⟩
    · cases e
  · split at e
    · rename_i hl
      cases e; cases rep_int rx
      exact ⟨_, fun _ => rfl, fun H Q q => .inr ⟨_, rfl, hl, q⟩⟩
    · cases e
  · cases e
def catM : List (M S D) → Str → M S D
  | [], acc => retM (.str acc)
  | m :: ms, acc => bindM m fun d => match d with
    | .str y => if (acc ++ y).length ≤ sizeLine then catM ms (acc ++ y) else fun _ _ => .bad
    | _ => fun _ _ => .bad
def catK (ms : List (M S D)) (acc : Str) (d : D) : M S D := match d with
    | .str y => if (acc ++ y).length ≤ sizeLine then catM ms (acc ++ y) else fun _ _ => .bad
    | _ => fun _ _ => .bad
inductive DJ (X : Cx) (c : Ct S) : List Expr → List (M S D) → Prop where
  | nil : DJ X c [] []
  | cons {e : Expr} {m : M S D} {es : List Expr} {ms : List (M S D)} (h : PE X e (tM c m)) (r : DJ X c es ms) : DJ X c (e :: es) (m :: ms)
theorem DJ.pj {es : List Expr} {mz : List (M S D)} (h : DJ X c es mz) : PJ X es (mz.map (tM c)) := by
  induction h with
  | nil => exact .nil
  | cons h r ih => exact .cons h ih
theorem tJs_of : ∀ {mz : List (M S D)} {acc : Str} {F H : Hp} {σ : St} {env : Env} {s : S} {Q : VK}, Stt c.C c.I c.B F H σ env s → (Fin c F σ env (catM mz acc env s) fun d _ F' H' => ∀ v, Rep c.C F' d v → Q v H') → tJs (mz.map (tM c)) acc σ H fun out H1 => Q (.str out) H1
  | [], acc, F, H, σ, env, s, Q, T, h => h F H (Same.refl _) T _ rfl
  | m :: mz, acc, F, H, σ, env, s, Q, T, h => by
    have h : Fin c F σ env (bindM m (catK mz acc) env s) (fun d _ F' H' => ∀ v, Rep c.C F' d v → Q v H') := by unfold catM at h; exact h
    refine ⟨F, env, s, T, h.bind.imp fun d s1 F1 H1 e1 T1 q v rv => ?_⟩
    unfold catK at q
    cases d with
    | str y =>
      cases rep_str rv
      dsimp only at q
      by_cases hl : (acc ++ y).length ≤ sizeLine
      · rw [if_pos hl] at q
        exact ⟨y, rfl, hl, tJs_of T1 q⟩
      · rw [if_neg hl] at q; exact q.elim
    | _ => exact q.elim
theorem d_joined {v1 v2 : Expr} {rest : List Expr} {mz : List (M S D)} (h : DJ X c (v1 :: v2 :: rest) mz) : PE X (.JoinedStr (v1 :: v2 :: rest) pos) (tM c (catM mz Str.empty)) :=
  PEimp (pe_joined h.pj) fun σ H Q q => by
    obtain ⟨F, env, s, T, q⟩ := q
    exact tJs_of T q
/-- what isinstance asks of an own class -/
structure InsD (K : PySem.W.Frag) (C : Addr) : Prop where
  cl : Cls K C
  ha : PySem.W.findIn K (.ref C) "__class__" = some (some (.builtin "object.__class__"))
  hn : PySem.W.specialIn K (.builtin "object.__class__") "__get__" = some (some (.builtin "getset_descriptor.__get__"))
  htk : PySem.W.takesIn K (.builtin "object.__class__") = some true
  hm : PySem.W.mroIn K C (.type "object") = some true
def isiD (bn bb bi bs bt bl : Bool) (tb : List (Nat × Bool)) : D → Option D
  | .non => some (.bl bn)
  | .bl _ => some (.bl bb)
  | .int _ => some (.bl bi)
  | .str _ => some (.bl bs)
  | .tup _ => some (.bl bt)
  | .lst _ => some (.bl bl)
  | .obj q _ => (tb.lookup q).map .bl
  | .st => none
/-- the answers of isinstance for a class u, by kind -/
structure KTab (K : PySem.W.Frag) (u : Value) (bn bb bi bs bt bl : Bool) : Prop where
  n : PySem.W.kitOne K (.type "NoneType") u = some bn
  b : PySem.W.kitOne K (.type "bool") u = some bb
  i : PySem.W.kitOne K (.type "int") u = some bi
  s : PySem.W.kitOne K (.type "str") u = some bs
  t : PySem.W.kitOne K (.type "tuple") u = some bt
  l : PySem.W.kitOne K (.type "list") u = some bl
def KTb (K : PySem.W.Frag) (cls : Nat → Addr) (u : Value) : List (Nat × Bool) → Prop
  | [] => True
  | (q, b) :: r => (InsD K (cls q) ∧ PySem.W.kitOne K (.ref (cls q)) u = some b) ∧ KTb K cls u r
theorem KTb.at {K : PySem.W.Frag} {cls : Nat → Addr} {u : Value} : ∀ {tb : List (Nat × Bool)} {q : Nat} {b : Bool}, KTb K cls u tb → tb.lookup q = some b → InsD K (cls q) ∧ PySem.W.kitOne K (.ref (cls q)) u = some b
  | (q', b') :: r, q, b, h, e => by
    simp only [List.lookup] at e
    split at e
    · rename_i z
      cases e
      rw [beq_iff_eq.mp z]
      exact h.1
    · exact KTb.at h.2 e
theorem sqT_ty {K : PySem.W.Frag} {H : Hp} {a : Addr} {xs : List V} (h : SqT K H a xs) : TyX K H (.ref a) (.type "tuple") := by
  rcases h with (h | ⟨o, h⟩) | ⟨o, its, n, h, hc, _⟩
  · exact .base (.tup h)
  · exact .fTuple h
  · exact .kTuple h hc
theorem sqL_ty {K : PySem.W.Frag} {H : Hp} {a : Addr} {xs : List V} (h : SqL K H a xs) : TyX K H (.ref a) (.type "list") := by
  rcases h with (h | ⟨o, h⟩) | ⟨o, its, n, h, hc, _⟩
  · exact .base (.lst h)
  · exact .base (.frz h)
  · exact .kList h hc
/-- the class of a tree -/
def tyD (cls : Nat → Addr) : D → Value
  | .non => .type "NoneType"
  | .bl _ => .type "bool"
  | .int _ => .type "int"
  | .str _ => .type "str"
  | .tup _ => .type "tuple"
  | .lst _ => .type "list"
  | .obj q _ => .ref (cls q)
  | .st => .type "dict"
theorem isi_of {F H : Hp} (hs : Same F H) {u : Value} {bn bb bi bs bt bl : Bool} {tb : List (Nat × Bool)} (kt : KTab c.C.K u bn bb bi bs bt bl) (kb : KTb c.C.K c.C.cls u tb) {dx : D} {v : V} {d : D} (r : Rep c.C F dx v) (e : isiD bn bb bi bs bt bl tb dx = some d) :
    ∃ b, d = .bl b ∧ TyX c.C.K H v (tyD c.C.cls dx) ∧ PySem.W.kitOne c.C.K (tyD c.C.cls dx) u = some b := by
  cases dx with
  | non => cases e; cases rep_non r; exact ⟨_, rfl, .base .non, kt.n⟩
  | bl _ => cases e; cases rep_bl r; exact ⟨_, rfl, .base (.bl _), kt.b⟩
  | int _ => cases e; cases rep_int r; exact ⟨_, rfl, .base (.int _), kt.i⟩
  | str _ => cases e; cases rep_str r; exact ⟨_, rfl, .base (.str _), kt.s⟩
  | tup _ => cases e; obtain ⟨a, vs, h1, h2, _⟩ := r; subst h1; exact ⟨_, rfl, sqT_ty (sqT_same hs h2), kt.t⟩
  | lst _ => cases e; obtain ⟨a, vs, h1, h2, _⟩ := r; subst h1; exact ⟨_, rfl, sqL_ty (hs.seq h2), kt.l⟩
  | obj q fs =>
    simp only [isiD] at e
    cases z : tb.lookup q with
    | none => rw [z] at e; cases e
    | some b =>
      rw [z] at e; cases e
      obtain ⟨iD, hk⟩ := kb.at z
      obtain ⟨p, dx, us, e1, e2⟩ := obj_at hs r
      subst e1
      exact ⟨_, rfl, .base (.ins e2 iD.cl iD.ha iD.hn iD.htk iD.hm), hk⟩
  | st => cases e
/-- isinstance(e, T), T one class -/
theorem d_isi {t : Expr} {p : Pos} {T : V} {u : Value} {bn bb bi bs bt bl : Bool} {tb : List (Nat × Bool)} (hk : c.C.K = X.K) (hm : X.mg "isinstance" = none) (cv : ClsV T u) (kt : KTab c.C.K u bn bb bi bs bt bl) (kb : KTb c.C.K c.C.cls u tb) (he : PE X e (tM c m)) (ht : PE X t (tC T))
    (hg : Gl X "isinstance" := by rfl) (h1 : starEach [e, t] X.env = (false, eval e X.env) :: starEach [t] X.env := by rfl) (h2 : starEach [t] X.env = (false, eval t X.env) :: starEach [] X.env := by rfl) (hpl : (backTo pos (starEach [t] X.env)).any (·.1) = false := by rfl) : PE X (.Call (.Name "isinstance" p) [e, t] [] pos) (tM c (m1 (isiD bn bb bi bs bt bl tb) m)) := by
  refine PEimp (pe_callB call_isi hg hm PyProof.Rows.boot_isinstance (L2.pa_cons he (L2.pa_cons ht L2.pa_nil h2) h1) (he := h1) (hpl := hpl)) fun σ H Q h => ?_
  refine tM_bind h fun dy s1 F1 H1 y env T1 ry hq => ?_
  obtain ⟨d, ed, hq⟩ := hq.opt T1
  obtain ⟨bv, rfl, ty, hko⟩ := isi_of T1.sub kt kb ry ed
  rw [hk] at ty hko
  exact ⟨y, T, _, u, bv, rfl, cv, ty, hko, hq F1 H1 (Same.refl _) T1 _ rfl⟩
/-- isinstance(e, (T1, T2)) -/
theorem d_isi2 {t1 t2 : Expr} {p tp : Pos} {kx} {T1 T2 : V} {u1 u2 : Value} {bn bb bi bs bt bl bn' bb' bi' bs' bt' bl' : Bool} {tb tb' : List (Nat × Bool)} (hk : c.C.K = X.K) (hm : X.mg "isinstance" = none) (cv1 : ClsV T1 u1) (cv2 : ClsV T2 u2) (kt1 : KTab c.C.K u1 bn bb bi bs bt bl) (kb1 : KTb c.C.K c.C.cls u1 tb) (kt2 : KTab c.C.K u2 bn' bb' bi' bs' bt' bl') (kb2 : KTb c.C.K c.C.cls u2 tb')
    (he : PE X e (tM c m)) (ht1 : PE X t1 (tC T1)) (ht2 : PE X t2 (tC T2)) (hg : Gl X "isinstance" := by rfl) (h1 : starEach [e, .Tuple [t1, t2] kx tp] X.env = (false, eval e X.env) :: starEach [.Tuple [t1, t2] kx tp] X.env := by rfl) (h2 : starEach [.Tuple [t1, t2] kx tp] X.env = (false, eval (.Tuple [t1, t2] kx tp) X.env) :: starEach [] X.env := by rfl)
    (h3 : starEach [t1, t2] X.env = (false, eval t1 X.env) :: starEach [t2] X.env := by rfl) (h4 : starEach [t2] X.env = (false, eval t2 X.env) :: starEach [] X.env := by rfl) (hpl : (backTo pos (starEach [.Tuple [t1, t2] kx tp] X.env)).any (·.1) = false := by rfl) :
    PE X (.Call (.Name "isinstance" p) [e, .Tuple [t1, t2] kx tp] [] pos) (tM c (m1 (fun d => match isiD bn bb bi bs bt bl tb d, isiD bn' bb' bi' bs' bt' bl' tb' d with | some (.bl x), some (.bl y) => some (.bl (x || y)) | _, _ => none) m)) := by
  refine PEimp (pe_callB call_isiT hg hm PyProof.Rows.boot_isinstance (L2.pa_cons he (L2.pa_cons (L2.pe_tup (L2.pa_cons ht1 (L2.pa_cons ht2 L2.pa_nil h4) h3)) L2.pa_nil h2) h1) (he := h1) (hpl := hpl)) fun σ H Q h => ?_
  refine tM_bind h fun dy s1 F1 H1 y env T3 ry hq => ?_
  obtain ⟨d, ed, hq⟩ := hq.opt T3
  dsimp only at ed
  cases z1 : isiD bn bb bi bs bt bl tb dy with
  | none => rw [z1] at ed; cases ed
  | some d1 =>
    cases z2 : isiD bn' bb' bi' bs' bt' bl' tb' dy with
    | none => rw [z1, z2] at ed; cases d1 <;> cases ed
    | some d2 =>
      rw [z1, z2] at ed
      refine ⟨by show 2 ≤ sizeLine; decide, fun pt npt => ?_⟩
      have T4 := T3.newM (o := .tup [T1, T2]) npt
      obtain ⟨bv, rfl, ty, hko⟩ := isi_of T4.sub kt1 kb1 ry z1
      obtain ⟨bv2, rfl, ty2, hko2⟩ := isi_of T4.sub kt2 kb2 ry z2
      cases ed
      rw [hk] at ty hko hko2
      refine ⟨y, pt, [T1, T2], _, [u1, u2], bv || bv2, rfl, upd_same, .cons cv1 (.cons cv2 .nil), ty, ?_, hq F1 _ (Same.refl _) T4 _ rfl⟩
      refine kitAny_cons hko (fun hb => ?_) fun hb => by rw [hb]; rfl
      refine kitAny_cons hko2 (fun hb2 => ?_) fun hb2 => by rw [hb2, Bool.or_true]
      rw [hb, hb2]
      exact kitAny_nil
theorem ktab_ty {K : PySem.W.Frag} {T : String} {bn bb bi bs bt bl : Bool} (h : (kitB "NoneType" T == some bn && kitB "bool" T == some bb && kitB "int" T == some bi && kitB "str" T == some bs && kitB "tuple" T == some bt && kitB "list" T == some bl) = true) : KTab K (.type T) bn bb bi bs bt bl := by
  simp only [Bool.and_eq_true, beq_iff_eq] at h
  obtain ⟨⟨⟨⟨⟨h1, h2⟩, h3⟩, h4⟩, h5⟩, h6⟩ := h
  exact ⟨kit_ty h1, kit_ty h2, kit_ty h3, kit_ty h4, kit_ty h5, kit_ty h6⟩
theorem kt_int {K : PySem.W.Frag} : KTab K (.type "int") false true true false false false := ktab_ty (by decide +kernel)
theorem kt_bool {K : PySem.W.Frag} : KTab K (.type "bool") false true false false false false := ktab_ty (by decide +kernel)
theorem kt_str {K : PySem.W.Frag} : KTab K (.type "str") false false false true false false := ktab_ty (by decide +kernel)
theorem kt_tuple {K : PySem.W.Frag} : KTab K (.type "tuple") false false false false true false := ktab_ty (by decide +kernel)
theorem kt_list {K : PySem.W.Frag} : KTab K (.type "list") false false false false false true := ktab_ty (by decide +kernel)
end
end DL
set_option Elab.async false
set_option linter.all false
set_option maxRecDepth 100000
namespace DL
open PySem PySem.Spec PyProof.Rows L2
mutual
theorem reads_of {X : Cx} {pins : List (Addr × Obj)} {σ : L2.St} {H : Hp} {s : Shared} (I : Inv X pins σ H s) {C : DC} {F : Hp} (hk : C.K = X.K) (e : Same F H) : ∀ {d : D} {v : V} {u : Value} {p : PyData}, Rep C F d v → RelV v u → toPy d = some p → ∃ as, Reads s.heap u p as
  | .non, _, _, _, h, r, q => by cases q; cases rep_non h; obtain rfl : _ = Value.none := r; exact ⟨_, .none⟩
  | .bl _, _, _, _, h, r, q => by cases q; cases rep_bl h; obtain rfl := (show _ = Value.bool _ from r); exact ⟨_, .bool _⟩
  | .int _, _, _, _, h, r, q => by cases q; cases rep_int h; obtain ⟨t, rfl⟩ := r; exact ⟨_, .int _ t⟩
  | .str x, _, _, _, h, r, q => by
    unfold toPy at q
    split at q
    · cases q; cases rep_str h; obtain ⟨t, rfl⟩ := r; exact ⟨_, .str _ t⟩
    · cases q
  | .tup xs, _, _, _, h, r, q => by
    obtain ⟨a, vs, h1, h2, h3⟩ := h
    unfold toPy at q
    cases z : toPys xs with
    | none => rw [z] at q; cases q
    | some ps =>
      rw [z] at q; cases q; subst h1
      obtain rfl : _ = Value.ref a := r
      obtain ⟨its, rv, ⟨o, ho, hcl, n, hd⟩, _⟩ := I.tuple (hk ▸ sqT_same e h2)
      obtain ⟨as, ra⟩ := readss_of I hk e h3 rv z
      exact ⟨_, .tuple ho hcl hd (by simpa using ra)⟩
  | .lst xs, _, _, _, h, r, q => by
    obtain ⟨a, vs, h1, h2, h3⟩ := h
    unfold toPy at q
    cases z : toPys xs with
    | none => rw [z] at q; cases q
    | some ps =>
      rw [z] at q; cases q; subst h1
      obtain rfl : _ = Value.ref a := r
      obtain ⟨its, rv, ⟨o, n, ho, hcl, _, hd⟩, _⟩ := I.list (hk ▸ e.seq h2)
      obtain ⟨as, ra⟩ := readss_of I hk e h3 rv z
      exact ⟨_, .list ho hcl hd (by simpa using ra)⟩
  | .obj _ _, _, _, _, _, _, q => by unfold toPy at q; cases q
  | .st, _, _, _, _, _, q => by unfold toPy at q; cases q
theorem readss_of {X : Cx} {pins : List (Addr × Obj)} {σ : L2.St} {H : Hp} {s : Shared} (I : Inv X pins σ H s) {C : DC} {F : Hp} (hk : C.K = X.K) (e : Same F H) : ∀ {ds : List D} {vs : List V} {us : List Value} {ps : List PyData}, Reps C F ds vs → Vals vs us → toPys ds = some ps → ∃ as, ReadsAll s.heap us ps as
  | [], _, _, _, h, r, q => by cases q; cases (show _ = [] from h); cases r; exact ⟨_, .nil⟩
  | d :: ds, _, _, _, ⟨v, rr, h1, h2, h3⟩, r, q => by
    unfold toPys at q
    cases z : toPy d with
    | none => rw [z] at q; cases q
    | some p =>
      cases z2 : toPys ds with
      | none => rw [z, z2] at q; cases q
      | some ps =>
        rw [z, z2] at q; cases q; subst h1
        cases r with
        | cons r1 r2 =>
          obtain ⟨as, k1⟩ := reads_of I hk e h2 r1 z
          obtain ⟨bs, k2⟩ := readss_of I hk e h3 r2 z2
          exact ⟨_, .cons k1 k2⟩
end
mutual
theorem noDict_of : ∀ {d : D} {p : PyData}, toPy d = some p → p.hasDict = false
  | .non, _, q => by cases q; rfl
  | .bl _, _, q => by cases q; rfl
  | .int _, _, q => by cases q; rfl
  | .str x, _, q => by unfold toPy at q; split at q <;> cases q; rfl
  | .tup xs, _, q => by
    unfold toPy at q
    cases z : toPys xs with
    | none => rw [z] at q; cases q
    | some ps => rw [z] at q; cases q; exact noDicts_of z
  | .lst xs, _, q => by
    unfold toPy at q
    cases z : toPys xs with
    | none => rw [z] at q; cases q
    | some ps => rw [z] at q; cases q; exact noDicts_of z
  | .obj _ _, _, q => by unfold toPy at q; cases q
  | .st, _, q => by unfold toPy at q; cases q
theorem noDicts_of : ∀ {ds : List D} {ps : List PyData}, toPys ds = some ps → PyData.hasDictAll ps = false
  | [], _, q => by cases q; rfl
  | d :: ds, _, q => by
    unfold toPys at q
    cases z : toPy d with
    | none => rw [z] at q; cases q
    | some p =>
      cases z2 : toPys ds with
      | none => rw [z, z2] at q; cases q
      | some ps =>
        rw [z, z2] at q; cases q
        show (p.hasDict || PyData.hasDictAll ps) = false
        rw [noDict_of z, noDicts_of z2]; rfl
end
/-- repr(x) -/
def reprV (d : D) : Option Str := match toPy d with
  | some p => if p.showable = true ∧ p.depth ≤ 60 ∧ p.shown.length ≤ sizeLine then some p.shown else none
  | none => none
def reprD : List D → Option D
  | [d] => (reprV d).map .str
  | _ => none
section
variable {S : Type} {c : Ct S} {X : Cx} {a b e o : Expr} {es rest : List Expr} {pos apos : Pos} {ma mb : M S D} {m : M S D} {ms : M S (List D)}
/-- the call of repr -/
theorem repr_call {pins : List (Addr × Obj)} {σ : L2.St} {H F : Hp} {s : Shared} {A : Around} {E : Value → Shared → Prop} (I : Inv X pins σ H s) {C : DC} (hk : C.K = X.K) (hg : A.guards = some []) (hu : A.units + 64 < cLine) (e : Same F H) {d : D} {v : V} {u : Value} {x : Str} (r : Rep C F d v) (rv : RelV v u) (q : reprV d = some x) {Q : VK} (h : Q (.str x) H) :
    wpAny (model X.prog X.w) A (PySem.call (.builtin "repr") [u]) (EP X pins σ Q) E s := by
  unfold reprV at q
  cases z : toPy d with
  | none => rw [z] at q; cases q
  | some p =>
    rw [z] at q
    dsimp only at q
    by_cases hp : p.showable = true ∧ p.depth ≤ 60 ∧ p.shown.length ≤ sizeLine
    · rw [if_pos hp] at q
      cases q
      obtain ⟨hs, hd, hz⟩ := hp
      obtain ⟨as, R⟩ := reads_of I hk e r rv z
      have nd := noDict_of z
      have big : (∃ a, u = .ref a) → wpAny (model X.prog X.w) A (PySem.call (.builtin "repr") [u]) (EP X pins σ Q) E s := by
        rintro ⟨a, rfl⟩
        exact repr_of_reads' R hs (PyData.noDict_hsm nd) hg (by omega) (fun _ _ e => e) (fun h' t tk hk => ⟨.str _, H, I.kept hk, ⟨t, rfl⟩, h⟩) hz
      cases R with
      | none => exact PySem.P.repr_of_none ⟨.str _, H, I.tok _, ⟨_, rfl⟩, h⟩
      | bool b => exact PySem.P.repr_of_bool ⟨.str _, H, I.tok _, ⟨_, rfl⟩, h⟩
      | int i t => exact PySem.P.repr_of_int (by simpa [PyData.showable] using hs) ⟨.str _, H, I.tok _, ⟨_, rfl⟩, h⟩
      | str y t => exact PySem.P.repr_of_str ⟨.str _, H, I.tok _, ⟨_, rfl⟩, h⟩ hz
      | list _ _ _ _ => exact big ⟨_, rfl⟩
      | tuple _ _ _ _ => exact big ⟨_, rfl⟩
      | dict _ _ _ _ _ => cases nd
    · rw [if_neg hp] at q; cases q
theorem call_reprD (hk : c.C.K = X.K) (hg : X.A.guards = some []) (hu : X.A.units + 64 < cLine) : CallR X (.builtin "repr") (fun vs H Q => ∃ F d v x, vs = [v] ∧ Same F H ∧ Rep c.C F d v ∧ reprV d = some x ∧ Q (.str x) H) := by
  intro pins s σ H xs us Q I r h
  obtain ⟨F, d, v, x, rfl, e, rp, q, h⟩ := h
  obtain ⟨u, rfl, ru⟩ := vals1 r
  exact repr_call I hk hg hu e rp ru q h
theorem d_repr {p : Pos} (hk : c.C.K = X.K) (hgd : X.A.guards = some []) (hu : X.A.units + 64 < cLine) (hm : X.mg "repr" = none) (ha : PE X a (tM c ma)) (hs : starEach [a] X.env = (false, eval a X.env) :: starEach [] X.env := by rfl) (hg : Gl X "repr" := by rfl) : PE X (.Call (.Name "repr" p) [a] [] pos) (tM c (callM reprD (consM ma (retM [])))) := by
  refine d_callB (call_reprD hk hgd hu) (fun σ F H env s vs ds d Q T rv e q => ?_) hm (a_cons ha a_nil hs) hg (he := hs)
  unfold reprD at e
  split at e
  · rename_i d0
    cases z : reprV d0 with
    | none => rw [z] at e; cases e
    | some x =>
      rw [z] at e; cases e
      obtain ⟨v, rfl, r⟩ := reps1 rv
      exact ⟨F, d0, v, x, rfl, T.sub, r, z, q F H _ (Same.refl _) T rfl⟩
  · cases e
end
end DL
set_option Elab.async false
set_option linter.all false
set_option maxRecDepth 100000
set_option maxHeartbeats 2000000
namespace DL
open PySem PySem.Spec PyProof.Rows L2
inductive NamesL : List Expr → List Str → Prop where
  | nil : NamesL [] []
  | cons {f : Str} {p : Pos} {es : List Expr} {fs : List Str} (h : NamesL es fs) : NamesL (.Name f p :: es) (f :: fs)
inductive StoresL : List Stmt → List Str → Prop where
  | nil : StoresL [] []
  | cons {f : Str} {a b c d : Pos} {ss : List Stmt} {fs : List Str} (h : StoresL ss fs) : StoresL (.Assign [.Attribute (.Name "self" a) f b] (.Name f c) d :: ss) (f :: fs)
structure InitT (fs : List Str) (params : Arguments) (body : List Stmt) (scope : Scope) : Prop where
  par : ∃ ar : Arg, (params.posonlyargs ++ params.args).head? = some ar ∧ ar.arg = "self"
  body : ∃ (p0 p1 p2 p3 p4 : Pos) (e : Expr) (es : List Expr) (ss : List Stmt), body = .Expr (.Call (.Attribute (.Call (.Name "super" p0) [] [] p1) "__init__" p2) (e :: es) [] p3) p4 :: ss ∧ NamesL (e :: es) fs ∧ StoresL ss fs ∧ (p2.endLine == p3.line) = true
  kind : scope.kind = .function
  co : scope.isCoroutine = false
  gen : scope.isGenerator = false
  hcell : ∀ x ∈ scope.names, x.2 ≠ .cell
  self : scope.names.lookup ("self" : Str) = some .local
  own : ∀ f ∈ fs, scope.names.lookup f = some .local
  sup : scope.names.lookup ("super" : Str) = some .globalImplicit
  cls : scope.names.lookup ("__class__" : Str) = some .free
  nd : (("self" : Str) :: fs).Nodup
  ndb : ∀ f ∈ fs, (f == ("__debug__" : Str)) = false
  few : fs.length ≤ 20
/-- what the written part says of such a class at C -/
structure ExcT (P : Program) (K : PySem.W.Frag) (C : Addr) (fs : List Str) : Prop where
  ox : OexC K C
  ga : XfC K C
  noN : ∀ f ∈ fs, PySem.W.findIn K (.ref C) f = some none
  veC : PySem.W.subIn K (.ref C) (.type "ValueError") = some true
  seC : PySem.W.mroIn K C (.ref C) = some true
  su : PySem.W.ks_superIn K C C "__init__" = some (some (.builtin "ValueError.__init__"))
  ho : PySem.W.nsIn K cStatics "thirdparty.any" = some none
  hs : PySem.W.nsIn K mainGlobals "super" = some none
  top : (P.main.scope.names.lookup ("super" : Str)).isSome = false
  fn : ∃ (fI cc cda : Addr) (q : Str) (params : Arguments) (body : List Stmt) (scope : Scope) (dV kV doc pm ct oc : Value) (an od : Option Addr) (osl : Array (Option Value)),
    PySem.W.findIn K (.ref C) "__init__" = some (some (.ref fI)) ∧ PySem.W.typeIn K (.ref fI) = some (.type "function") ∧
    K.lookup fI = some ⟨oc, od, .func (PySem.W.ksFn "__init__" q params body scope dV kV doc pm an (.ref cda) ct cc), osl⟩ ∧ PySem.W.codeIn K (.ref cda) q = true ∧ InitT fs params body scope ∧
    (∀ (s : Shared) (x : Addr) (us : List Value), us.length = fs.length → BindsTo s (PySem.W.ksFn "__init__" q params body scope dV kV doc pm an (.ref cda) ct cc) ⟨.ref x :: us, []⟩ (("self", .ref x) :: fs.zip us)) ∧
    (∃ (cl : Value) (cld : Option Addr) (csl : Array (Option Value)), K.lookup cc = some ⟨cl, cld, .cell (some (.ref C)), csl⟩) ∧
    ∃ (ccl : Value) (cdd : Option Addr) (vs : Array Value) (ccs : Array (Option Value)) (file : Str) (tf : Tok), K.lookup cda = some ⟨ccl, cdd, .fields vs, ccs⟩ ∧ vs[2]? = some (.str file tf) ∧ ((P.main.file : Str) == file) = true
theorem lookup_notin {β : Type} : ∀ {l : List (Str × β)} {k : Str}, k ∉ l.map (·.1) → l.lookup k = none
  | [], _, _ => rfl
  | (a, b) :: l, k, h => by
    have n : (k == a) = false := by simpa using fun z => h (by rw [z]; exact List.mem_cons_self ..)
    simp only [List.lookup, n]
    exact lookup_notin fun z => h (List.mem_cons_of_mem _ z)
theorem lookup_app {β : Type} : ∀ (l r : List (Str × β)) (k : Str), (l ++ r).lookup k = (l.lookup k).or (r.lookup k)
  | [], r, k => by simp
  | (a, b) :: l, r, k => by
    by_cases e : k = a
    · subst e; simp [List.lookup]
    · have n : (k == a) = false := by simpa using e
      simp only [List.cons_append, List.lookup, n]
      exact lookup_app l r k
theorem lookup_rev {β : Type} : ∀ {l : List (Str × β)} (k : Str), (l.map (·.1)).Nodup → l.reverse.lookup k = l.lookup k
  | [], _, _ => rfl
  | (a, b) :: l, k, nd => by
    obtain ⟨h1, h2⟩ := List.nodup_cons.mp (show (a :: l.map (·.1)).Nodup from nd)
    rw [List.reverse_cons, lookup_app, lookup_rev k h2]
    by_cases e : k = a
    · subst e
      rw [lookup_notin h1]; simp [List.lookup]
    · have n : (k == a) = false := by simpa using e
      simp only [List.lookup, n]
      cases l.lookup k <;> rfl
theorem lookup_mem {β : Type} : ∀ {l : List (Str × β)} {p : Str × β}, (l.map (·.1)).Nodup → p ∈ l → l.lookup p.1 = some p.2
  | [], _, _, h => by cases h
  | (a, b) :: l, p, nd, h => by
    obtain ⟨h1, h2⟩ := List.nodup_cons.mp (show (a :: l.map (·.1)).Nodup from nd)
    rcases List.mem_cons.mp h with rfl | hp
    · simp [List.lookup]
    · have n : (p.1 == a) = false := by simpa using fun z => h1 (by rw [← z]; exact List.mem_map_of_mem hp)
      simp only [List.lookup, n]
      exact lookup_mem h2 hp
theorem zip_keys {β : Type} : ∀ {fs : List Str} {us : List β}, us.length = fs.length → (fs.zip us).map (·.1) = fs
  | [], [], _ => rfl
  | f :: fs, u :: us, h => by simp [zip_keys (by simpa using h : us.length = fs.length)]
  | [], _ :: _, h => by simp at h
  | _ :: _, [], h => by simp at h
section
variable {prog : Program} {w : World} {A : Around} {E : Value → Shared → Prop} {s : Shared}
theorem ld_here {M : Model} {env : PySem.Env} {m : Str → Option Value} {x : Str} {pos : Pos} {v : Value} {Q : Value → Shared → Prop} (hn : s.heap.Ns env.locals m) (hv : m x = some v) (h : Q v s)
    (hk : env.scope.kind = .function) (hl : env.kindOf x = some .local) (hd : (x == ("__debug__" : Str)) = false) : wpAny M A (eval (.Name x pos) env) Q E s := wpAny_Name (wpAny_loadName_local hk hl hn hv h) hd
theorem names_eval {M : Model} {env : PySem.Env} {m : Str → Option Value} (hk : env.scope.kind = .function) (hn : s.heap.Ns env.locals m) : ∀ {es : List Expr} {fs : List Str} {us : List Value} {pos : Pos} {Q : List Value → Shared → Prop}, NamesL es fs → us.length = fs.length →
    (∀ p ∈ fs.zip us, m p.1 = some p.2 ∧ env.kindOf p.1 = some .local ∧ (p.1 == ("__debug__" : Str)) = false) → Q us s → wpAny M A (spliced (backTo pos (starEach es env))) Q E s
  | _, _, [], _, _, .nil, _, _, h => Calls.spliced_nil h
  | _, _, _ :: _, _, _, .nil, hl, _, _ => by simp at hl
  | _, _, [], _, _, .cons _, hl, _, _ => by simp at hl
  | _, _, u :: us, pos, Q, .cons (f := f) (p := p) (es := es) (fs := fs) r, hl, hm, h => by
    obtain ⟨h1, h2, h3⟩ := hm (f, u) (by simp)
    show wpAny M A (spliced ((false, eval (.Name f p) env) :: backTo pos (starEach es env))) Q E s
    refine Calls.spliced_cons (ld_here hn h1 ?_ hk h2 h3)
    exact names_eval hk hn r (by simpa using hl) (fun q hq => hm q (List.mem_cons_of_mem _ hq)) h
theorem names_plain {env : PySem.Env} {pos : Pos} : ∀ {es : List Expr} {fs : List Str}, NamesL es fs → (backTo pos (starEach es env)).any (·.1) = false
  | _, _, .nil => rfl
  | _, _, .cons (es := es) r => by
    show (false || (backTo pos (starEach es env)).any (·.1)) = false
    rw [names_plain r]; rfl
end
theorem eval_meth {o : Expr} {name : Str} {apos pos : Pos} {args : List Expr} {env : PySem.Env} (hf : methodCallForm (args.length + ([] : List Keyword).length) (backTo pos (starEach args env)) (backToKw pos (keywordEach [] env)) = true) (hl : (apos.endLine == pos.line) = true) :
    eval (.Call (.Attribute o name apos) args [] pos) env = (do
      let ov ← attributeBase o name env (eval o env)
      standAt apos.atName
      let (f, first) ← holding [ov] (getMethod ov name (do return (← importBound o env).getD true))
      callWith pos f first (backTo pos (starEach args env)) []) := by
  show (do
    let ov ← attributeBase o name env (eval o env)
    standAt apos.atName
    methodCall o name apos pos env ov (args.length + ([] : List Keyword).length) (backTo pos (starEach args env)) (backToKw pos (keywordEach [] env))) = _
  unfold methodCall methodCallPos calleeOf
  rw [hf, hl]
  rfl
theorem names_form {env : PySem.Env} {pos : Pos} {es : List Expr} {fs : List Str} (h : NamesL es fs) (hl : fs.length ≤ 20) : methodCallForm (es.length + ([] : List Keyword).length) (backTo pos (starEach es env)) (backToKw pos (keywordEach [] env)) = true := by
  have e1 : ∀ {es : List Expr} {fs : List Str}, NamesL es fs → es.length = fs.length ∧ (backTo pos (starEach es env)).all (!·.1) = true := by
    intro es fs h
    induction h with
    | nil => exact ⟨rfl, rfl⟩
    | cons h ih =>
      refine ⟨by simp [ih.1], ?_⟩
      show (true && List.all _ _) = true
      rw [Bool.true_and]
      exact ih.2
  obtain ⟨e2, e3⟩ := e1 h
  unfold methodCallForm
  rw [e3, e2]
  simp [backToKw, keywordEach]
  omega
theorem inter_fn {env : PySem.Env} (h : env.scope.kind = .function) : interactive env = false := by unfold interactive; rw [h]; rfl
section
open PySem.W
variable {prog : Program} {w : World} {A : Around} {E : Value → Shared → Prop} {h : Heap} {g : Array GenState} {d : Drawn} {t : Nat} {os : OsState}
theorem mw_call {nm q : Str} {C N : Addr} {bs bm : List Value} {hdct : Bool} {sn : List Str} {sub : List Value} {ab : Bool} {col : Option Bool} {dd : Option Addr} {k0 k1 k2 k3 k5 : Option Value} {u e t0 : Addr} {rest : List Value} {Q : Value → Shared → Prop}
    (hC : h.get? C = some (excClassObj nm q C N bs bm hdct sn sub ab col dd k0 k1 k2 k3 k5 "ValueError.__new__")) (he : h.get? e = some (HandSPX.excO C t0)) (hu : h.get? u = some (kxs_mw "ValueError.__init__" e)) (hrest : rest.length ≤ sizeLine)
    (hq : ∀ h' t1, (∀ b o, b ≠ e → h.get? b = some o → h'.get? b = some o) → h'.get? e = some (HandSPX.excO C t1) → Q .none ⟨h', g, d, t, os⟩) :
    wpAny (model prog w) A (call (.ref u) rest) Q E ⟨h, g, d, t, os⟩ := by
  refine wpAny_call (codeAny_of_tree ?_)
  show wpAny _ A.in1 (callAny (.ref u) ⟨rest, []⟩) _ _ _
  simp only [callAny]
  refine wpAny_bind (wpAny_load hu ?_)
  simp only [kxs_mw, show (Value.type "method-wrapper" == Value.type "method" || Value.type "method-wrapper" == Value.type "builtin_function_or_method" || Value.type "method-wrapper" == Value.type "method-wrapper") = true by decide, if_true]
  refine KFB.if_so (by decide) ?_
  refine wpAny_bind (check_bound_init F.excBase_ValueError.toExcCallFacts hC he rfl ?_)
  refine wpAny_bind (wpAny_pure (wpAny_pure ?_))
  refine ⟨plainId_quiet F.excBase_ValueError.init.plain _, codeAny_builtin F.excBase_ValueError.initEntry ?_⟩
  exact exc_init_tree (cls := .ref C) (t0 := t0) (dv := none) (c2 := .none) (c3 := .none) (b4 := .bool false) he hrest fun h' k1 k2 k3 => hq h' _ k1 k2
end
section
open PySem.W
variable {prog : Program} {w : World} {A : Around} {E : Value → Shared → Prop}
/-- the exception at x, its attributes so far -/
def ExcAtD (K : Frag) (h : Heap) (x C : Addr) (fv : Array Value) (big : Nat) (done : List (Str × Value)) : Prop :=
  (done = [] ∧ h.get? x = some { cls := .ref C, dict := none, data := .fields fv }) ∨
    (∃ dx, h.get? x = some { cls := .ref C, dict := some dx, data := .fields fv } ∧ big < dx ∧ dx ≠ x ∧ K.lookup dx = none ∧ h.Ns1 dx fun y => done.lookup y)
theorem within_done : ∀ (done : List (Str × Value)), Within (fun y => done.lookup y) (done.map (·.1))
  | [], y, h => absurd rfl h
  | (a, b) :: l, y, h => by
    by_cases e : y = a
    · subst e; exact List.mem_cons_self ..
    · have n : (y == a) = false := by simpa using e
      simp only [List.lookup, n] at h
      exact List.mem_cons_of_mem _ (within_done l y h)
theorem lookup_more {done : List (Str × Value)} {f : Str} {u : Value} (h : f ∉ done.map (·.1)) : (fun y => if y = f then some u else done.lookup y) = fun y => (done ++ [(f, u)]).lookup y := by
  funext y
  rw [lookup_app]
  by_cases e : y = f
  · subst e
    rw [if_pos rfl, lookup_notin h]; simp [List.lookup]
  · rw [if_neg e]
    have n : (y == f) = false := by simpa using e
    have z : List.lookup y [(f, u)] = none := by simp [List.lookup, n]
    rw [z]; simp
theorem stores_run {K : Frag} {C x : Addr} {env : PySem.Env} {m : Str → Option Value} {fv : Array Value} {cd : ClassData} (hk : env.scope.kind = .function) (hself : m "self" = some (.ref x)) (hls : env.kindOf "self" = some .local)
    (hcd : clsIn K C = some cd) (hm : HandSPX.refsVE cd.mro = true) (hh : cd.hasDict = true) (sa : findIn K (.ref C) "__setattr__" = some (some (.builtin "object.__setattr__"))) {Q : Flow → Shared → Prop} (h0 : Heap) (hxL : env.locals ≠ x) (hnx : K.lookup x = none) (nobig : ∀ b o, h0.get? b = some o → b < env.locals) :
    ∀ {ss : List Stmt} {fs : List Str} {us : List Value} {done : List (Str × Value)} {s : Shared}, StoresL ss fs → us.length = fs.length → (done.map (·.1) ++ fs).Nodup → done.length + fs.length ≤ 1000 →
    (∀ p ∈ fs.zip us, m p.1 = some p.2 ∧ env.kindOf p.1 = some .local ∧ (p.1 == ("__debug__" : Str)) = false ∧ findIn K (.ref C) p.1 = some none) →
    s.heap.Ns env.locals m → K.In s.heap → ExcAtD K s.heap x C fv env.locals done → (∀ b o, b ≠ x → h0.get? b = some o → s.heap.get? b = some o) →
    (∀ h' tk, ExcAtD K h' x C fv env.locals (done ++ fs.zip us) → (∀ b o, b ≠ x → h0.get? b = some o → h'.get? b = some o) → Q .next { s with heap := h', toks := tk }) → wpAny (model prog w) A (execs ss env) Q E s
  | _, _, [], done, s, .nil, _, _, _, _, _, _, hx, k0, hq => by
    refine wpAny_execs_nil (hq s.heap s.toks ?_ k0)
    simpa using hx
  | _, _, _ :: _, _, _, .nil, hl, _, _, _, _, _, _, _, _ => by simp at hl
  | _, _, [], _, _, .cons _, hl, _, _, _, _, _, _, _, _ => by simp at hl
  | _, _, u :: us, done, s, .cons (f := f) (a := a) (b := b) (c := c) (d := d) (ss := ss) (fs := fs) r, hl, nd, hz, hm', hn, X, hx, k0, hq => by
    obtain ⟨h1, h2, h3, h4⟩ := hm' (f, u) (by simp)
    have nf : f ∉ done.map (·.1) := fun z => by
      have := (List.nodup_append.mp nd).2.2 f z f (List.mem_cons_self ..)
      exact this rfl
    have nd2 : ((done ++ [(f, u)]).map (·.1) ++ fs).Nodup := by simpa using nd
    have go : ∀ h' tk, (∀ b o, b ≠ x → h0.get? b = some o → h'.get? b = some o) → h'.Ns env.locals m → K.In h' → ExcAtD K h' x C fv env.locals (done ++ [(f, u)]) → wpAny (model prog w) A (execs ss env) Q E { s with heap := h', toks := tk } := fun h' tk k hn' X' hx' =>
      stores_run hk hself hls hcd hm hh sa h0 hxL hnx nobig (done := done ++ [(f, u)]) (s := { s with heap := h', toks := tk }) r (by simpa using hl) nd2 (by simp at hz ⊢; omega) (fun p hp => hm' p (List.mem_cons_of_mem _ hp)) hn' X' hx' k
        fun h2 tk2 e2 k2 => hq h2 tk2 (by simpa using e2) k2
    refine wpAny_execs_cons (plainObj_wpAny_Assign_Attribute ?_)
    refine ld_here hn h1 (ld_here hn hself ?_ hk hls (by decide)) hk h2 h3
    have keepNs : ∀ {h' : Heap} {y : Addr}, y ≠ env.locals → (∀ b o, b ≠ y → s.heap.get? b = some o → h'.get? b = some o) → h'.Ns env.locals m := fun {h' y} hy k => by
      obtain ⟨o, es, ep, ho, q⟩ := hn
      exact ⟨o, es, ep, k _ _ (Ne.symm hy) ho, q⟩
    have keepK : ∀ {h' : Heap} {y : Addr}, K.lookup y = none → (∀ b o, b ≠ y → s.heap.get? b = some o → h'.get? b = some o) → K.In h' := fun {h' y} hy k b o e => k b o (fun z => by rw [z, hy] at e; cases e) (X b o e)
    rcases hx with ⟨rfl, hx⟩ | ⟨dx, hx, hbig, hdx, hnd, hns⟩
    · refine set_plain X (ox := { cls := .ref C, dict := none, data := .fields fv }) (od := none) ⟨hx, rfl, rfl, trivial⟩ sa ?_
      refine HandSPX.exc_osa X hx hcd hm hh h4 fun h' tk' dx k hge hne hx' hn' => ?_
      have hbL : env.locals < dx := Nat.lt_of_lt_of_le hn.lt hge
      have hnd : K.lookup dx = none := by
        cases z : K.lookup dx with
        | none => rfl
        | some o => exact absurd (Nat.lt_of_lt_of_le (Heap.lt_size (X dx o z)) hge) (Nat.lt_irrefl _)
      refine go h' tk' (fun b o hb e => k b o hb (k0 b o hb e)) (keepNs (Ne.symm hxL) k) (keepK hnx k) (.inr ⟨dx, hx', hbL, hne, hnd, ?_⟩)
      have e := lookup_more (u := u) nf
      simp only [List.lookup_nil] at e
      rw [← e]
      exact hn'
    · have wd := within_done done
      obtain ⟨oD, _, _, hoD, hdD, _⟩ := hns.count wd
      have hdL : dx ≠ env.locals := Nat.ne_of_gt hbig
      refine set_plain X (ox := { cls := .ref C, dict := some dx, data := .fields fv }) (od := some oD) ⟨hx, rfl, rfl, hoD⟩ sa ?_
      refine PySem.OEX.osa_old X hx hns wd (by rw [List.length_map]; omega) hcd hm hh h4 fun h' tk' k hn' => ?_
      refine go h' tk' (fun b o hb e => k b o (fun z => ?_) (k0 b o hb e)) (keepNs hdL k) (keepK hnd k) (.inr ⟨dx, k _ _ (Ne.symm hdx) hx, hbig, hdx, hnd, ?_⟩)
      · exact absurd (nobig b o e) (by rw [z]; exact Nat.not_lt.mpr (Nat.le_of_lt hbig))
      · rw [← lookup_more nf]
        exact hn'
end
section
open PySem.W
variable {prog : Program} {w : World} {A : Around} {E : Value → Shared → Prop} {R : Result → Shared → Prop} {K : Frag} {C : Addr} {fs : List Str} {mg mb : Str → Option Value}
/-- what __init__ leaves of the fresh exception at x -/
structure InitE (K : Frag) (h h' : Heap) (x C dx t1 : Addr) (fs : List Str) (us : List Value) : Prop where
  keep : ∀ b o, b ≠ x → h.get? b = some o → h'.get? b = some o
  obj : h'.get? x = some { cls := .ref C, dict := some dx, data := .fields #[.ref t1, .none, .none, .none, .bool false, .none] }
  dbig : h.objs.size ≤ dx
  dne : dx ≠ x
  ns : h'.Ns1 dx fun y => (fs.zip us).lookup y
theorem exc_init (T : ExcT prog K C fs) (fI cc cda : Addr) {q : Str} {params : Arguments} {body : List Stmt} {scope : Scope} {dV kV doc pm ct oc : Value} {an od : Option Addr} {osl : Array (Option Value)}
    (ho : K.lookup fI = some ⟨oc, od, .func (ksFn "__init__" q params body scope dV kV doc pm an (.ref cda) ct cc), osl⟩) (hcd : codeIn K (.ref cda) q = true) (hin : InitT fs params body scope)
    (hb : ∀ (s : Shared) (x : Addr) (us : List Value), us.length = fs.length → BindsTo s (ksFn "__init__" q params body scope dV kV doc pm an (.ref cda) ct cc) ⟨.ref x :: us, []⟩ (("self", .ref x) :: fs.zip us))
    (hce : ∃ (cl : Value) (cld : Option Addr) (csl : Array (Option Value)), K.lookup cc = some ⟨cl, cld, .cell (some (.ref C)), csl⟩)
    (hco : ∃ (ccl : Value) (cdd : Option Addr) (vs : Array Value) (ccs : Array (Option Value)) (file : Str) (tf : Tok), K.lookup cda = some ⟨ccl, cdd, .fields vs, ccs⟩ ∧ vs[2]? = some (.str file tf) ∧ ((prog.main.file : Str) == file) = true)
    {s : Shared} {x t0 : Addr} {us : List Value} (hl : us.length = fs.length) (X : K.In s.heap) (hlim : s.heap.NoLimit) (hG : s.heap.Ns mainGlobals mg) (hB : s.heap.Ns builtinsNs mb) (hmb : mb "super" = some (.type "super")) (hmg : mg "super" = none)
    (hx : s.heap.get? x = some (HandSPX.excO C t0)) (hnx : K.lookup x = none) (hroom : A.depth < recursionLimit) (hne : fs ≠ [])
    (hq : ∀ h' tk dx t1, InitE K s.heap h' x C dx t1 fs us → R (.ok (.ret .none)) { s with heap := h', toks := tk }) :
    codeAny (model prog w) A (.call (.ref fI) ⟨.ref x :: us, []⟩) R s := by
  obtain ⟨cl, cld, csl, hcell⟩ := hce
  obtain ⟨ccl, cdd, vs, ccs, file, tf, hcode, hvs, hfile⟩ := hco
  obtain ⟨nm, qn, N, bs, bm, sn, sub, ab, col, dd, k0, k1, k2, k3, k5, hC, hbm⟩ := T.ox.cls
  have hcl : clsIn K C = some { name := nm, bases := bs, mro := .ref C :: bm, ns := N, qualname := qn, hasDict := true, slotNames := sn, subclasses := sub, abstract := ab, collection := col, hasDel := false } := by unfold clsIn; rw [hC] <;> rfl
  obtain ⟨ar, har, hself⟩ := hin.par
  obtain ⟨p0, p1, p2, p3, p4, e, es, ss, rfl, hes, hss, hline⟩ := hin.body
  have hnd := hin.nd
  have hself' : ("self" : Str) ∉ fs := (List.nodup_cons.mp hnd).1
  refine ks_codeAny_call_defAt (binds := ("self", .ref x) :: fs.zip us) hroom (X _ _ ho) rfl hlim (codeRec_of X hcd) rfl (hb s x us hl) hin.hcell (fun y hy => ?_) (fun h₁ hns hk₁ => ?_) hin.co hin.gen hin.kind
  · rcases List.mem_cons.mp hy with rfl | hy
    · exact hin.self
    · exact hin.own _ (List.of_mem_zip hy).1
  have keys : ((("self", .ref x) :: fs.zip us : List (Str × Value)).map (·.1)) = ("self" : Str) :: fs := by rw [List.map_cons, zip_keys hl]
  have hns : h₁.Ns s.heap.objs.size (fun y => ((("self", .ref x) :: fs.zip us : List (Str × Value))).lookup y) := by
    have e : (fun y => ((("self", .ref x) :: fs.zip us : List (Str × Value))).reverse.lookup y) = fun y => ((("self", .ref x) :: fs.zip us : List (Str × Value))).lookup y := by
      funext y
      exact lookup_rev y (by rw [keys]; exact hnd)
    rw [← e]; exact hns
  have X₁ : K.In h₁ := X.keeps hk₁
  have mself : (fun y => ((("self", .ref x) :: fs.zip us : List (Str × Value))).lookup y) "self" = some (.ref x) := by simp [List.lookup]
  have mf : ∀ p ∈ fs.zip us, (fun y => ((("self", .ref x) :: fs.zip us : List (Str × Value))).lookup y) p.1 = some p.2 := fun p hp => by
    have ne : (p.1 == ("self" : Str)) = false := by simpa using fun z => hself' (by rw [← z]; exact (List.of_mem_zip hp).1)
    show List.lookup p.1 ((("self", .ref x) :: fs.zip us : List (Str × Value))) = some p.2
    simp only [List.lookup, ne]
    have ndz : ((fs.zip us).map (·.1)).Nodup := by rw [zip_keys hl]; exact (List.nodup_cons.mp hnd).2
    exact lookup_mem ndz hp
  have hxL : s.heap.objs.size ≠ x := Nat.ne_of_gt (Heap.lt_size hx)
  have hxC : x ≠ C := fun z => by rw [z, hC] at hnx; cases hnx
  have hx₁ := hk₁ _ _ hx
  obtain ⟨oD, hD1, hD2⟩ : ∃ oD, h₁.get? C = some oD ∧ oD.data = .cls _ := ⟨_, X₁ _ _ hC, rfl⟩
  refine ks_wpAt_execs_cons (ks_wpAt_Expr_any (ks_wpAt_MethodCall ?_ (eval_meth (names_form hes hin.few) hline)) (inter_fn hin.kind))
  refine ks_wpAt_super_base (cc := cda) hin.sup hin.cls rfl rfl (X₁ _ _ ho) rfl har rfl (X₁ _ _ hcode) rfl hvs hfile T.top ?_
  refine ks_loadName_global hin.kind hin.sup (Calls.loadGlobal_builtin (hG.keeps hk₁) hmg (hB.keeps hk₁) hmb ⟨rfl, ?_⟩)
  refine wpAny_loadName_free hin.kind hin.cls rfl ⟨_, X₁ _ _ hcell, rfl⟩ ?_
  rw [hself]
  refine wpAny_loadName_local hin.kind hin.self hns mself ?_
  refine ks_wpAny_isType_cls hD1 hD2 ⟨rfl, ?_⟩
  refine ks_wpAny_call_super hD1 hD2 hx₁ rfl (fun c e => by cases e) (looks_mroIn X₁ T.seC) (fun h₂ e₂ k₂ => ?_)
  have X₂ : K.In h₂ := X₁.keeps k₂
  have hI : Looks (model prog w) h₂ (isInstance (.ref x) (.type "ValueError")) true := (InstAt.type (ox := HandSPX.excO C t0) (C := C) (od := none) ⟨k₂ _ _ hx₁, rfl, rfl, trivial⟩).andThen (looks_subIn X₂ T.veC)
  have hsu := T.su
  unfold ks_superIn at hsu
  rw [hcl] at hsu
  refine kxs_getMethod kxs_ValueError e₂ (looks_opaque X₂ T.ho) (l₀ := .ref C :: bm) ?_ rfl X₂ hsu hI hxC rfl ?_
  · exact fun A Q E s k q => wpAny_bind ((looks_clsIn X₂ hcl) A _ E s k (wpAny_pure q))
  have keep2 : ∀ b o, h₁.get? b = some o → (h₂.push (kxs_mw "ValueError.__init__" x)).get? b = some o := fun b o e => Heap.get?_push_of_some _ (k₂ b o e)
  have X₃ : K.In (h₂.push (kxs_mw "ValueError.__init__" x)) := X₁.keeps keep2
  have hns₃ := hns.keeps keep2
  have kf : ∀ f ∈ fs, scope.names.lookup f = some .local := hin.own
  refine kxs_callWith (i := "ValueError.__init__") (x := x) (names_plain hes) ?_
  have evs : wpAny (model prog w) (A.deeper (callEnv (ksFn "__init__" q params (.Expr (.Call (.Attribute (.Call (.Name "super" p0) [] [] p1) "__init__" p2) (e :: es) [] p3) p4 :: ss) scope dV kV doc pm an (.ref cda) ct cc) s.heap.objs.size fI))
      (evalArgs (.ref h₂.objs.size) true (backTo p3 (starEach (e :: es) (callEnv (ksFn "__init__" q params (.Expr (.Call (.Attribute (.Call (.Name "super" p0) [] [] p1) "__init__" p2) (e :: es) [] p3) p4 :: ss) scope dV kV doc pm an (.ref cda) ct cc) s.heap.objs.size fI))) [])
      (fun ar s₁ => ar = ⟨us, []⟩ ∧ s₁ = ⟨h₂.push (kxs_mw "ValueError.__init__" x), s.gens, s.drawn, s.toks + (("self", Value.ref x) :: fs.zip us : List (Str × Value)).length + 1, s.os⟩) (fun _ _ => False)
      ⟨h₂.push (kxs_mw "ValueError.__init__" x), s.gens, s.drawn, s.toks + (("self", Value.ref x) :: fs.zip us : List (Str × Value)).length + 1, s.os⟩ := by
    have sp := @names_eval (E := fun _ _ => False) (s := ⟨h₂.push (kxs_mw "ValueError.__init__" x), s.gens, s.drawn, s.toks + (("self", Value.ref x) :: fs.zip us : List (Str × Value)).length + 1, s.os⟩) (M := model prog w)
      (A := A.deeper (callEnv (ksFn "__init__" q params (.Expr (.Call (.Attribute (.Call (.Name "super" p0) [] [] p1) "__init__" p2) (e :: es) [] p3) p4 :: ss) scope dV kV doc pm an (.ref cda) ct cc) s.heap.objs.size fI))
      (env := callEnv (ksFn "__init__" q params (.Expr (.Call (.Attribute (.Call (.Name "super" p0) [] [] p1) "__init__" p2) (e :: es) [] p3) p4 :: ss) scope dV kV doc pm an (.ref cda) ct cc) s.heap.objs.size fI)
      (m := fun y => ((("self", .ref x) :: fs.zip us : List (Str × Value))).lookup y) hin.kind hns₃ (es := e :: es) (fs := fs) (us := us) (pos := p3) (Q := fun vs s₁ => vs = us ∧ s₁ = ⟨h₂.push (kxs_mw "ValueError.__init__" x), s.gens, s.drawn, s.toks + (("self", Value.ref x) :: fs.zip us : List (Str × Value)).length + 1, s.os⟩)
      hes hl (fun p hp => ⟨mf p hp, kf _ (List.of_mem_zip hp).1, hin.ndb _ (List.of_mem_zip hp).1⟩) ⟨rfl, rfl⟩
    cases hes with
    | cons r => exact Calls.evalArgs_plain (wpAny_mono sp (fun vs s1 hh => ⟨by rw [hh.1], hh.2⟩) fun _ _ z => z)
  refine wpAny_mono evs (fun ar s₁ hh => ?_) fun _ _ z => z.elim
  obtain ⟨rfl, rfl⟩ := hh
  refine ⟨Heap.get?_push_at rfl rfl, ?_⟩
  refine mw_call (X₃ _ _ hC) (keep2 _ _ hx₁) (Heap.get?_push_at rfl rfl) (by show us.length ≤ sizeLine; rw [hl, sizeLine_eq]; have := hin.few; omega) fun h₄ t1 k₄ hx₄ => ?_
  have hCx : ∀ {b o}, h₁.get? b = some o → b ≠ x → h₄.get? b = some o := fun {b o} e nb => k₄ _ _ nb (keep2 _ _ e)
  have X₄ : K.In h₄ := fun b o eb => hCx (X₁ b o eb) fun z => by rw [z, hnx] at eb; cases eb
  have hns₄ : h₄.Ns s.heap.objs.size (fun y => ((("self", .ref x) :: fs.zip us : List (Str × Value))).lookup y) := by
    obtain ⟨o, es', ep, ho', q'⟩ := hns₃
    exact ⟨o, es', ep, k₄ _ _ hxL ho', q'⟩
  refine _root_.PySem.wpAt_of_wpAny ?_
  refine stores_run (env := callEnv (ksFn "__init__" q params (.Expr (.Call (.Attribute (.Call (.Name "super" p0) [] [] p1) "__init__" p2) (e :: es) [] p3) p4 :: ss) scope dV kV doc pm an (.ref cda) ct cc) s.heap.objs.size fI) (K := K) (C := C) (x := x) (m := fun y => ((("self", .ref x) :: fs.zip us : List (Str × Value))).lookup y) (fv := #[.ref t1, .none, .none, .none, .bool false, .none]) hin.kind mself hin.self hcl (show HandSPX.refsVE (.ref C :: bm) = true from hbm) rfl T.ox.sa s.heap hxL hnx (fun b o eb => Heap.lt_size eb)
    (done := []) hss hl (by simpa using (List.nodup_cons.mp hnd).2) (by have := hin.few; simp; omega) (fun p hp => ⟨mf p hp, kf _ (List.of_mem_zip hp).1, hin.ndb _ (List.of_mem_zip hp).1, T.noN _ (List.of_mem_zip hp).1⟩) hns₄ X₄ (.inl ⟨rfl, hx₄⟩) (fun b o nb eb => hCx (hk₁ b o eb) nb) fun h' tk hE hK => ?_
  rcases hE with ⟨z, _⟩ | ⟨dx, e1, e2, e3, e4, e5⟩
  · exfalso
    have z2 := congrArg List.length z
    simp [hl] at z2
    exact hne z2
  · exact hq h' tk dx t1 ⟨hK, e1, Nat.le_of_lt e2, e3, e5⟩
end
section
open PySem.W
variable {prog : Program} {w : World} {A : Around} {E : Value → Shared → Prop} {R : Result → Shared → Prop} {K : Frag} {C : Addr} {fs : List Str} {mg mb : Str → Option Value}
structure ExcMade (h h' : Heap) (e C d : Addr) (fs : List Str) (us : List Value) : Prop where
  keep : ∀ b o, h.get? b = some o → h'.get? b = some o
  new : h.objs.size ≤ e
  obj : ∃ oe vs, h'.get? e = some oe ∧ oe.cls = .ref C ∧ oe.dict = some d ∧ oe.data = .fields vs ∧ vs[1]? = some .none
  dbig : h.objs.size ≤ d
  dne : d ≠ e
  ns : h'.Ns1 d fun y => (fs.zip us).lookup y
theorem exc_made (T : ExcT prog K C fs) {s : Shared} {us : List Value} (hl : us.length = fs.length) (hne : fs ≠ []) (X : K.In s.heap) (hlim : s.heap.NoLimit) (hG : s.heap.Ns mainGlobals mg) (hB : s.heap.Ns builtinsNs mb) (hmb : mb "super" = some (.type "super")) (hmg : mg "super" = none) (hroom : A.depth + 1 < recursionLimit)
    (hq : ∀ h' tk e d, ExcMade s.heap h' e C d fs us → R (.ok (.ret (.ref e))) { s with heap := h', toks := tk }) :
    codeAny (model prog w) A (.call (.ref C) ⟨us, []⟩) R s := by
  obtain ⟨nm, qn, N, bs, bm, sn, sub, ab, col, dd, k0, k1, k2, k3, k5, hC, hbm⟩ := T.ox.cls
  obtain ⟨fI, cc, cda, q, params, body, scope, dV, kV, doc, pm, ct, oc, an, od, osl, iC, tI, ho, hcd, hin, hb, hce, hco⟩ := T.fn
  obtain ⟨hp, g, dr, tk, os⟩ := s
  have k : ∀ b o, hp.get? b = some o → ((hp.push (kdv_tup us)).push (HandSPX.excO C hp.objs.size)).get? b = some o := fun b o e => Heap.get?_push_of_some _ (Heap.get?_push_of_some _ e)
  have hget : ((hp.push (kdv_tup us)).push (HandSPX.excO C hp.objs.size)).get? (hp.objs.size + 1) = some (HandSPX.excO C hp.objs.size) := by heap_get
  have hnx : K.lookup (hp.objs.size + 1) = none := by
    cases e : K.lookup (hp.objs.size + 1) with
    | none => rfl
    | some o =>
      have z : hp.get? (hp.objs.size + 1) = some o := X _ _ e
      exact absurd (Nat.lt_of_succ_lt (Heap.lt_size z)) (Nat.lt_irrefl _)
  have hus : us.length ≤ sizeLine := by rw [hl, sizeLine_eq]; have := hin.few; omega
  refine HandSPX.call_own F.excBase_ValueError (fun X => HandSPX.refsVE_contains X bm hbm) (X _ _ hC) (looks_findIn X iC) (fun self => bind_fn X self tI) hus ?_
  refine exc_init (s := ⟨(hp.push (kdv_tup us)).push (HandSPX.excO C hp.objs.size), g, dr, tk, os⟩) T fI cc cda ho hcd hin hb hce hco hl (X.keeps k) (hlim.keeps k) (hG.keeps k) (hB.keeps k) hmb hmg hget hnx ?_ hne fun h' tk' dx t1 ⟨k', hx, dn, dne, hns⟩ => ?_
  · show A.depth + 1 < recursionLimit
    exact hroom
  · have old : ∀ b o, hp.get? b = some o → h'.get? b = some o := fun b o e => k' b o (Nat.ne_of_lt (Nat.lt_succ_of_lt (Heap.lt_size e))) (k b o e)
    have z : hp.objs.size + 1 + 1 ≤ dx := by
      have q := dn
      first
        | (simpa only [Heap.size_push] using q)
        | exact q
        | (rw [Heap.size_push, Heap.size_push] at q; exact q)
    exact ⟨rfl, hq h' tk' (hp.objs.size + 1) dx ⟨old, Nat.le_succ _, ⟨_, _, hx, rfl, rfl, rfl, rfl⟩, Nat.le_trans (Nat.le_trans (Nat.le_succ _) (Nat.le_succ _)) z, dne, hns⟩⟩
end
theorem relO_zip : ∀ {fs : List Str} {vs : List V} {us : List Value} (f : Str), Vals vs us → RelO ((fs.zip vs).lookup f) ((fs.zip us).lookup f)
  | [], _, _, _, _ => trivial
  | _ :: _, _, _, _, .nil => trivial
  | g :: fs, _, _, f, .cons (a := v) (b := u) r t => by
    by_cases e : f = g
    · subst e
      simp only [List.zip_cons_cons, List.lookup, beq_self_eq_true]
      exact r
    · have n : (f == g) = false := by simpa using e
      simp only [List.zip_cons_cons, List.lookup, n]
      exact relO_zip f t
section
variable {X : Cx} {C : Addr} {fs : List Str} {x : Str} {e : Expr} {es : List Expr} {ta : TA} {p pos : Pos}
def tMkE (C : Addr) (fs : List Str) (ta : TA) : L2.St → Hp → XK → Prop := fun σ H Q => ta σ H fun vs H1 => vs.length = fs.length ∧ ∀ d, H1 d = none → Q (.ref C) (some d) (upd H1 d (.xd (fs.zip vs)))
theorem pmk_exc (T : ExcT X.prog X.K C fs) (hne : fs ≠ []) {k : Nat} (hr : Room k X.A) (hk1 : 1 ≤ k) (hg : Gl X x) (hm : X.mg x = some (.ref C)) (ha : PA X (e :: es) ta) (hdb : (x == ("__debug__" : Str)) = false := by decide)
    (he : starEach (e :: es) X.env = (false, eval e X.env) :: starEach es X.env := by rfl) (hpl : (backTo pos (starEach es X.env)).any (·.1) = false := by rfl) :
    PMk X (.Call (.Name x p) (e :: es) [] pos) (tMkE C fs ta) := by
  intro pins s σ H Q I h
  refine wpAny_Call_Name_kw (ld_glob I hg hm ?_ hdb)
  refine PySem.W.callWith_K (h₀ := X.base) I.ok.mod.kin T.ox.kC (thn (ha.run pos pins s σ H _ I h) fun us s1 hh => ?_) he hpl
  obtain ⟨vs, H1, I1, r1, hl, q1⟩ := hh
  refine ⟨I1.kIn, ?_⟩
  show wpAny _ _ (call (.ref C) us) _ _ _
  have hlu : us.length = fs.length := by rw [← Paired.length r1]; exact hl
  have hlim := I1.nolimit
  obtain ⟨mb, hB, hbb⟩ := I1.ok.mod.blt
  have hG := I1.ok.mod.glob.keeps I1.bk
  have hB := hB.keeps I1.bk
  have hms : X.mg "super" = none := by
    have := T.hs
    exact PySem.W.mg_none_of I1.ok.mod.kin I1.ok.mod.glob this
  have hmb : mb "super" = some (.type "super") := (hbb "super" (by decide)).trans (by decide +kernel)
  obtain ⟨hp, g, dr, tk, os⟩ := s1
  refine wpAny_call (exc_made T hlu hne I1.kIn hlim hG hB hmb hms (by have := hr.dp; omega) fun h' tk' e d M => ?_)
  show MkP X pins σ Q (.ref e) ⟨h', g, dr, tk', os⟩
  obtain ⟨oe, fv, hoe, hc, hd, hdat, h1⟩ := M.obj
  have hns := M.ns
  obtain ⟨G', g1, g2⟩ := restrict h' fun b => decide (b ≠ e)
  have gk : ∀ b, b ≠ e → G'.get? b = h'.get? b := fun b hb => g1 b (decide_eq_true hb)
  have ge : G'.get? e = none := g2 e (by simp)
  have old : ∀ b o, hp.get? b = some o → G'.get? b = some o := fun b o q => (gk b (Nat.ne_of_lt (Nat.lt_of_lt_of_le (Heap.lt_size q) M.new))).trans (M.keep b o q)
  have ob : ObjOk X.prog X.w (upd H1 d (.xd (fs.zip vs))) G' d (.xd (fs.zip vs)) :=
    ⟨_, hns.at (fun o q => (gk d M.dne).trans q), fun f => relO_zip f r1⟩
  have J : Inv X pins σ (upd H1 d (.xd (fs.zip vs))) ⟨G', g, dr, tk', os⟩ := I1.laid (t' := tk') old M.dbig ob
  refine ⟨e, oe, fv, ⟨G', g, dr, tk', os⟩, _, .ref C, some d, rfl, J, fun b o q => ?_, ge, hoe, ⟨hc, hd⟩, hdat, h1, ?_, rfl, I1.bare, raises_own T.ox.exC T.ox.tyC, q1 d (I1.hok.fresh M.dbig)⟩
  · by_cases hb : b = e
    · have q' : G'.get? b = some o := q
      rw [hb, ge] at q'; cases q'
    · exact (gk b hb).symm.trans q
  · rw [upd_ne (Ne.symm M.dne)]
    exact I1.hok.fresh M.new
end
end DL
set_option Elab.async false
set_option linter.all false
set_option maxRecDepth 100000
namespace DL
open PySem PySem.Spec PyProof.Rows L2
section
variable {S : Type} {c : Ct S} {X : Cx} {e : Expr} {es : List Expr} {pos : Pos} {ms : M S (List D)}
def raiseS (k n : Nat) (ms : M S (List D)) : MS S := thenS ms fun ds env s => if ds.length = n then .exc k ds (env, s) else .bad
/-- raise C(e, ..) -/
theorem s_raise {x : Str} {p pos2 : Pos} {k n j : Nat} (T : ExcT X.prog X.K (c.C.cls k) (c.C.flds k)) (o : XO X c j) (hm : X.mg x = some (.ref (c.C.cls k))) (ha : PA X (e :: es) (tA c ms)) (hn : (c.C.flds k).length = n := by rfl) (hn0 : n ≠ 0 := by decide) (hj : 1 ≤ j := by decide) (hg : Gl X x := by rfl)
    (hdb : (x == ("__debug__" : Str)) = false := by decide) (he : starEach (e :: es) X.env = (false, eval e X.env) :: starEach es X.env := by rfl) (hpl : (backTo pos (starEach es X.env)).any (·.1) = false := by rfl) :
    PS X (.Raise (some (.Call (.Name x p) (e :: es) [] pos)) none pos2) (tS c (raiseS k n ms)) := by
  refine PSimp (ps_raise o.cm o.tk (pmk_exc T (fun z => hn0 (by rw [← hn, z]; rfl)) o.rm hj hg hm ha hdb he hpl)) fun D σ H h => ?_
  obtain ⟨F, env, s, T0, h⟩ := h
  refine ⟨F, env, s, T0, h.bind.imp fun ds s1 F1 H1 e1 T1 q vs rvs => ?_⟩
  by_cases hl : ds.length = n
  · rw [if_pos hl] at q
    refine ⟨by rw [rvs.length, hl, hn], fun d nd => ?_⟩
    refine q _ (some d) σ _ _ (same_upd (T1.ff nd)) (T1.new nd fun ps z => by cases z) ⟨rfl, .inr ⟨d, vs, rfl, upd_same, by rw [rvs.length, hl, hn], rvs.mono (same_upd (T1.ff nd))⟩⟩
  · rw [if_neg hl] at q; exact q.elim
end
/-- one clause: the class it names, its name's slot, its suite -/
structure Hd where
  v : Value
  i : Option Nat
  ts : Addr → Value → Option Addr → TS
def Ends.un (D : Ends) (i : Nat) : Ends := { nx := fun σ' H' => D.nx (σ'.set i none) H', rt := D.rt, bk := fun σ' H' => D.bk (σ'.set i none) H', ct := fun σ' H' => D.ct (σ'.set i none) H' }
def wHds (K : PySem.W.Frag) (Wout : WX) (D : Ends) : List Hd → WX
  | [] => Wout
  | ⟨v, i, ts⟩ :: r => fun cls d σ H => ∃ b, PySem.W.exmOne K cls v = some b ∧
      (b = true → ∀ a, H a = none → match i with | none => ts a cls d D σ H | some i => ts a cls d (Ends.un D i) (σ.set i (some (.ref a))) H) ∧ (b = false → wHds K Wout D r cls d σ H)
inductive HdL (X : Cx) : List ExceptHandler → List Hd → Prop
  | nil : HdL X [] []
  | bare {x : Str} {v : Value} {ts : Addr → Value → Option Addr → TS} {b : Stmt} {su : List Stmt} {np p : Pos} {hs : List ExceptHandler} {l : List Hd} (hc : Names X x v)
      (hsu : ∀ (a : Addr) (oe : Obj) (cls : Value) (d : Option Addr) (pn : List (Addr × Obj)), Zc cls d oe → (∃ vs, oe.data = .fields vs) → PSs (X.suite a ((a, oe) :: pn)) (b :: su) (ts a cls d)) (r : HdL X hs l) :
      HdL X (.ExceptHandler (some (.Name x np)) none (b :: su) p :: hs) (⟨v, none, ts⟩ :: l)
  | as {x n : Str} {v : Value} {i : Nat} {ts : Addr → Value → Option Addr → TS} {b : Stmt} {su : List Stmt} {np p : Pos} {hs : List ExceptHandler} {l : List Hd} (hc : Names X x v) (hi : X.N[i]? = some n) (hl : X.env.kindOf n = some .local)
      (hsu : ∀ (a : Addr) (oe : Obj) (cls : Value) (d : Option Addr) (pn : List (Addr × Obj)), Zc cls d oe → (∃ vs, oe.data = .fields vs) → PSs (X.suite a ((a, oe) :: pn)) (b :: su) (ts a cls d)) (r : HdL X hs l) :
      HdL X (.ExceptHandler (some (.Name x np)) (some n) (b :: su) p :: hs) (⟨v, some i, ts⟩ :: l)
section
variable {X : Cx} {body : List Stmt} {h₀ : ExceptHandler} {hds : List ExceptHandler} {l : List Hd} {pos : Pos} {tb : WX → TS} {Wout : WX}
theorem ps_tryL (hst : X.stack = X.env :: X.outer) (hf : X.env.frame = some X.env.locals) (hN : X.N.Nodup) (tk : Takes X Wout)
    (hb : ∀ (W : WX) (pn : List (Addr × Obj)) (xe : Value → Shared → Prop), Takes (X.tr pn xe) W → PassesOwn (model X.prog X.w) X.A X.env xe → PSs (X.tr pn xe) body (tb W))
    (hh : HdL X (h₀ :: hds) l) : PS X (.Try body (h₀ :: hds) [] [] pos) (fun D σ H => tb (wHds X.K Wout D l) D σ H) := by
  refine ⟨fun pins s σ H D I0 hq0 => ?_⟩
  have okX := I0.ok
  have frX : X.A.frames = some (X.env :: X.outer) := by rw [okX.frames, hst]
  refine wpAny_Try_except (wpAny_mono ((hb (wHds X.K Wout D l) (X.pn ++ pins) (fun e s₁ => wpAny (model X.prog X.w) X.A (noteFrame e X.env) (fun _ s₂ => wpAny (model X.prog X.w) X.A (setFlight e none) (fun _ s₃ =>
    wpAny (model X.prog X.w) X.A (handleBy e X.env (h₀ :: hds)) (SP X pins D) X.xe s₃) X.xe s₂) X.xe s₁) (fun u sx xx => ?_) PassesOwn.looking).run [] s σ H D (I0.toTry _) hq0) (fun fl s1 sp => ?_) (fun e s1 he => he))
  · obtain ⟨a, B, sI, pins', σx, Hx, cls, d, rfl, J', nb, up, sky, na, os, ag, w0⟩ := xx
    have J : Inv X pins σx Hx sI := J'.ofTry okX
    have skyX : Sky B (X.env :: X.outer) a (Zc cls d) X.env.locals sx.heap := by rw [← hst]; exact sky
    show wpAny (model X.prog X.w) X.A (noteFrame (.ref a) X.env) _ _ _
    refine Sky.land Zc.steady frX hf skyX fun g3 fl3 up3 => ?_
    have J3 : Inv X pins σx Hx { sx with heap := g3 } := J.landed nb fl3.1 (up.trans up3) os ag
    obtain ⟨o3, v3, at3, z3, dat3⟩ := fl3.there
    have out : a ∉ frs (X.env :: X.outer) := fun hm => by
      obtain ⟨_, o2, e2, no2⟩ := fl3.2.2.1.mem hm
      rw [at3] at e2; cases e2
      exact no2 _ dat3
    have aL : a ≠ X.env.locals := fun z => out (List.mem_filterMap.mpr ⟨X.env, List.mem_cons_self, by rw [hf, z]⟩)
    have aF : a ∉ X.fs := fun hm => by
      obtain ⟨e2, m2, q2⟩ := List.mem_filterMap.mp hm
      exact out (List.mem_filterMap.mpr ⟨e2, List.mem_cons_of_mem _ m2, q2⟩)
    have S3 := J3.suite at3 dat3 na aL aF
    have LT : PySem.W.Looks (model X.prog X.w) g3 (typeOf (.ref a)) cls := fun A Q E s k q => wpAny_typeOf_ref (k _ _ at3) (by rw [z3.1]; exact q)
    -- the test of a clause that names v
    have test : ∀ {x : Str} {v : Value} {np : Pos} {Q : Value → Shared → Prop} {E : Value → Shared → Prop}, Names X x v → Q v { sx with heap := g3 } → wpAny (model X.prog X.w) (X.A.mark (some (.ref a))) (eval (.Name x np) X.env) Q E { sx with heap := g3 } := fun {x v np Q E} hc q => by
      rcases hc with ⟨k1, k2, k3 | ⟨k3, k4, k5⟩⟩
      · exact ld_glob (X := X.suite a ((a, o3) :: (X.pn ++ pins))) S3 k1 k3 q k2
      · exact ld_blt (X := X.suite a ((a, o3) :: (X.pn ++ pins))) S3 k1 k3 k4 q k5 k2
    have run : ∀ {hs : List ExceptHandler} {l : List Hd}, HdL X hs l → wHds X.K Wout D l cls d σx Hx → wpAny (model X.prog X.w) X.A (handleBy (.ref a) X.env hs) (SP X pins D) X.xe { sx with heap := g3 } := by
      intro hs l hk
      induction hk with
      | nil =>
        intro w1
        refine wpAny_handleBy_nil ?_
        obtain ⟨_, _, _, o4, v4, T4, oT4, _, at4, _, dat4, one4, _⟩ := id fl3
        unfold PySem.passOn
        refine wpAny_bind (wpAny_field at4 dat4 one4 ?_)
        rw [if_neg (show ¬ ((Value.ref T4 == Value.none) = true) from by simp)]
        have up4 : wpAny (model X.prog X.w) X.A (setFlight (.ref a) X.env.frame) (fun _ s4 => wpAny (model X.prog X.w) X.A (throw (.ref a) : Sem Flow) (SP X pins D) X.xe s4) X.xe { sx with heap := g3 } := by
          rw [hf]
          exact HandSPX.setFlight_upZ fl3 fun g4 hh4 u4 => wpAny_throw (tk _ _ ⟨a, B, sI, pins, σx, Hx, cls, d, rfl, J, nb, (up.trans up3).trans u4, .inr (.inr (by rw [hst]; exact hh4)), na, os, ag, w1⟩)
        first
          | exact wpAny_bind (wpAny_pure (wpAny_bind up4))
          | exact wpAny_bind up4
      | @bare x v ts b su np p hs2 l2 hc hsu r ih =>
        rintro ⟨ans, hans, yes, no⟩
        refine wpAny_handleBy_cons (codeAny_handlers_test (test hc ((PySem.W.exm_one (M := model X.prog X.w) J3.kIn LT hans).here ?_))) (by intro q; cases q)
        cases ans with
        | false => exact ih (no rfl)
        | true =>
          refine codeAny_handlers_suite (HandSPX.lands_againZ fl3 fun g4 fl4 u4 => ?_)
          obtain ⟨o4, v4, at4, z4, dat4⟩ := fl4.there
          have S4 := (J.landed (s' := { sx with heap := g4 }) nb fl4.1 ((up.trans up3).trans u4) os ag).suite at4 dat4 na aL aF
          refine wpAny_mono ((hsu a o4 cls d (X.pn ++ pins) z4 ⟨_, dat4⟩).run [] _ _ Hx _ S4 (yes rfl a na)) (fun fl s6 sp => ?_) (fun _ _ z => z.elim)
          cases fl with
          | next => obtain ⟨σ6, H6, S6, q6⟩ := sp; exact ⟨_, _, S6.unsuite okX, q6⟩
          | brk => obtain ⟨σ6, H6, S6, q6⟩ := sp; exact ⟨_, _, S6.unsuite okX, q6⟩
          | cont => obtain ⟨σ6, H6, S6, q6⟩ := sp; exact ⟨_, _, S6.unsuite okX, q6⟩
          | ret u => obtain ⟨v6, σ6, H6, S6, r6, q6⟩ := sp; exact ⟨_, _, _, S6.unsuite okX, r6, q6⟩
      | @as x n v i ts b su np p hs2 l2 hc hi hl hsu r ih =>
        rintro ⟨ans, hans, yes, no⟩
        refine wpAny_handleBy_cons (codeAny_handlers_test (test hc ((PySem.W.exm_one (M := model X.prog X.w) J3.kIn LT hans).here ?_))) (by intro q; cases q)
        cases ans with
        | false => exact ih (no rfl)
        | true =>
          refine codeAny_handlers_suite_as (HandSPX.lands_againZ fl3 fun g4 fl4 u4 => ?_)
          obtain ⟨o4, v4, at4, z4, dat4⟩ := fl4.there
          have S4 := (J.landed (s' := { sx with heap := g4 }) nb fl4.1 ((up.trans up3).trans u4) os ag).suite at4 dat4 na aL aF
          refine store_ok (X := X.suite a ((a, o4) :: (X.pn ++ pins))) (v := .ref a) S4 hN hi (.inl hl) rfl (fun s5 S5 => ?_) (.inr hl)
          refine wpAny_mono ((hsu a o4 cls d (X.pn ++ pins) z4 ⟨_, dat4⟩).run [] s5 _ Hx _ S5 (yes rfl a na)) (fun fl s6 sp => ?_) (fun _ _ z => z.elim)
          cases fl with
          | next => obtain ⟨σ6, H6, S6, q6⟩ := sp; exact gone_ok (S6.unsuite okX) hN hi hl fun s7 J7 => ⟨_, _, J7, q6⟩
          | brk => obtain ⟨σ6, H6, S6, q6⟩ := sp; exact gone_ok (S6.unsuite okX) hN hi hl fun s7 J7 => ⟨_, _, J7, q6⟩
          | cont => obtain ⟨σ6, H6, S6, q6⟩ := sp; exact gone_ok (S6.unsuite okX) hN hi hl fun s7 J7 => ⟨_, _, J7, q6⟩
          | ret u => obtain ⟨v6, σ6, H6, S6, r6, q6⟩ := sp; exact gone_ok (S6.unsuite okX) hN hi hl fun s7 J7 => ⟨_, _, _, J7, r6, q6⟩
    exact run hh w0
  · cases fl with
    | next => obtain ⟨σ1, H1, J1, q1⟩ := sp; exact wpAny_execs_nil ⟨σ1, H1, J1.ofTry okX, q1⟩
    | brk => obtain ⟨σ1, H1, J1, q1⟩ := sp; exact ⟨σ1, H1, J1.ofTry okX, q1⟩
    | cont => obtain ⟨σ1, H1, J1, q1⟩ := sp; exact ⟨σ1, H1, J1.ofTry okX, q1⟩
    | ret u => obtain ⟨v1, σ1, H1, J1, r1, q1⟩ := sp; exact ⟨v1, σ1, H1, J1.ofTry okX, r1, q1⟩
end
structure HC (S : Type) where
  test : Nat → Option Bool
  i : Option Nat
  m : MS S
def plainSlot : Slot → Bool
  | .ins _ _ => false
  | .exc _ _ => false
  | .fn => false
  | _ => true
def plainE (env : Env) : Bool := env.all plainSlot
def endS {S : Type} (i : Option Nat) (r : R (Out × S) (Env × S)) : R (Out × S) (Env × S) :=
  let un : Env → Env := fun e => match i with | none => e | some i => e.set i .no
  match r with
  | .ok (.nx e, s) => if plainE (un e) = true then .ok (.nx (un e), s) else .bad
  | .ok (.bk e, s) => if plainE (un e) = true then .ok (.bk (un e), s) else .bad
  | .ok (.ct e, s) => if plainE (un e) = true then .ok (.ct (un e), s) else .bad
  | .ok (.rt d, s) => .ok (.rt d, s)
  | .exc _ _ _ => .bad
  | .bad => .bad
/-- what a suite keeps of the names -/
def plainF (env : Env) : Env := env.map fun x => if plainSlot x = true then x else .no
def excSlot (k : Nat) : List D → Slot
  | [] => .no
  | f :: fs => .exc k (f :: fs)
def handleS {S : Type} (k : Nat) (fs : List D) : List (HC S) → Env → S → R (Out × S) (Env × S)
  | [], env, s => .exc k fs (env, s)
  | h :: r, env, s => match h.test k with
    | none => .bad
    | some false => handleS k fs r env s
    | some true => endS h.i (h.m (match h.i with | none => plainF env | some i => (plainF env).set i (excSlot k fs)) s)
def tryS {S : Type} (mb : MS S) (hs : List (HC S)) : MS S := fun env s => match mb env s with
  | .exc k fs p => handleS k fs hs p.1 p.2
  | r => r
abbrev Ct.withW {S : Type} (c : Ct S) (W : WX) : Ct S := ⟨c.C, c.I, c.B, W⟩
/-- within a suite: the exception at a, of the class cls, its dict d -/
abbrev Ct.su {S : Type} (c : Ct S) (a : Addr) (cls : Value) (d : Option Addr) : Ct S := ⟨c.C, c.I, ⟨c.B.F0, c.B.H0, c.B.ex, some (a, cls, d)⟩, fun _ _ _ _ => False⟩
section
variable {S : Type} {C : DC} {I : SI S} {B : En} {F H : Hp} {σ : L2.St} {env : Env} {s : S}
theorem SlotOk.other {me me' : Me} {u : Option (Option V)} {x : Slot} (h : SlotOk C me F H u x) (p : plainSlot x = true) : SlotOk C me' F H u x := by
  cases x with
  | no => trivial
  | d _ => exact h
  | own _ => exact h
  | ins _ _ => cases p
  | exc _ _ => cases p
  | fn => cases p
theorem Stt.withMe {me : Me} (T : Stt C I B F H σ env s) (hp : plainE env = true) : Stt C I ⟨B.F0, B.H0, B.ex, me⟩ F H σ env s :=
  { T with sl := fun i x e => (T.sl i x e).other (List.all_eq_true.mp hp x (List.mem_of_getElem? e)) }
theorem Stt.ofMe {me : Me} (T : Stt C I ⟨B.F0, B.H0, B.ex, me⟩ F H σ env s) (hp : plainE env = true) : Stt C I B F H σ env s :=
  { T with sl := fun i x e => (T.sl i x e).other (List.all_eq_true.mp hp x (List.mem_of_getElem? e)) }
theorem plainF_ok {env : Env} : plainE (plainF env) = true := List.all_eq_true.mpr fun x hx => by
  obtain ⟨y, _, rfl⟩ := List.mem_map.mp hx
  by_cases p : plainSlot y = true
  · rw [if_pos p]; exact p
  · rw [if_neg p]; rfl
/-- slots forgotten -/
theorem Stt.fewer {f : Slot → Slot} (T : Stt C I B F H σ env s) (hf : ∀ x, f x = x ∨ f x = .no) : Stt C I B F H σ (env.map f) s := by
  have own : ∀ j b, OwnAt (env.map f) σ j b → OwnAt env σ j b := fun j b ⟨x, e1, e2, e3⟩ => by
    rw [List.getElem?_map] at e1
    cases q : env[j]? with
    | none => rw [q] at e1; cases e1
    | some y =>
      rw [q] at e1; cases e1
      rcases hf y with z | z
      · rw [z] at e2; exact ⟨y, q, e2, e3⟩
      · rw [z] at e2; cases e2
  have slN : ∀ (i : Nat) x, (env.map f)[i]? = some x → SlotOk C B.me F H σ[i]? x := fun i x e => by
    rw [List.getElem?_map] at e
    cases q : env[i]? with
    | none => rw [q] at e; cases e
    | some y =>
      rw [q] at e; cases e
      rcases hf y with z | z
      · rw [z]; exact T.sl i y q
      · rw [z]; trivial
  have lenN : (env.map f).length = σ.length := by rw [List.length_map]; exact T.len
  exact { T with len := lenN, sl := slN, dj := fun j l b n o1 o2 => T.dj j l b n (own j b o1) (own l b o2), ni := fun j b o1 => T.ni j b (own j b o1), oe := fun j b o1 => T.oe j b (own j b o1) }
theorem Stt.plain (T : Stt C I B F H σ env s) : Stt C I B F H σ (plainF env) s := T.fewer fun x => by
  by_cases p : plainSlot x = true
  · exact .inl (if_pos p)
  · exact .inr (if_neg p)
/-- a name is bound to the exception that the suite holds -/
theorem Stt.setX (T : Stt C I B F H σ env s) {i k : Nat} {a dd : Addr} {fs : List D} {vs : List V} (hm : B.me = some (a, .ref (C.cls k), some dd)) (hd : F dd = some (.xd ((C.flds k).zip vs))) (hl : vs.length = (C.flds k).length) (r : Reps C F fs vs) :
    Stt C I B F H (σ.set i (some (.ref a))) (env.set i (.exc k fs)) s := by
  have Tw := T.wipe (i := i) (v := some (.ref a))
  have own : ∀ j b, OwnAt (env.set i (.exc k fs)) (σ.set i (some (.ref a))) j b → OwnAt (env.set i .no) (σ.set i (some (.ref a))) j b := fun j b ⟨x, e1, e2, e3⟩ => by
    by_cases z : j = i
    · subst z
      have h1 : j < env.length := by
        have := (List.getElem?_eq_some_iff.mp e1).1
        simpa using this
      rw [List.getElem?_set_self h1] at e1
      cases e1; cases e2
    · rw [List.getElem?_set_ne (Ne.symm z)] at e1
      exact ⟨x, by rw [List.getElem?_set_ne (Ne.symm z)]; exact e1, e2, e3⟩
  exact { sub := T.sub, nt := T.nt, inv := T.inv, len := (by rw [List.length_set, List.length_set]; exact T.len),
          sl := fun j x e => (by
            by_cases z : j = i
            · subst z
              have h1 : j < env.length := by
                have := (List.getElem?_eq_some_iff.mp e).1
                simpa using this
              rw [List.getElem?_set_self h1] at e
              cases e
              rw [List.getElem?_set_self (by rw [← T.len]; exact h1)]
              exact ⟨a, dd, vs, rfl, hm, hd, hl, r⟩
            · rw [List.getElem?_set_ne (Ne.symm z)] at e ⊢
              exact T.sl j x e),
          dj := fun j l b n o1 o2 => Tw.dj j l b n (own j b o1) (own l b o2), ni := fun j b o1 => Tw.ni j b (own j b o1), fr := T.fr, f0 := T.f0, nw := T.nw, tb := T.tb, al := T.al, ie := T.ie, oe := fun j b o1 => Tw.oe j b (own j b o1) }
end
section
variable {S : Type} {c : Ct S} {X : Cx} {pos : Pos}
/-- the clauses' readings, by what mirrors them -/
inductive HdD (K : PySem.W.Frag) (c : Ct S) : List Hd → List (HC S) → Prop
  | nil : HdD K c [] []
  | cons {v : Value} {i : Option Nat} {h : HC S} {l : List Hd} {r : List (HC S)} (hi : h.i = i) (ht : ∀ k b, h.test k = some b → PySem.W.exmOne K (.ref (c.C.cls k)) v = some b) (q : HdD K c l r) :
      HdD K c (⟨v, i, fun a cls d => tS (c.su a cls d) h.m⟩ :: l) (h :: r)
theorem fin_end {D : Ends} {F : Hp} {a : Addr} {cls : Value} {d : Option Addr} {r : R (Out × S) (Env × S)} {i : Option Nat} (h : FinS c F (endS i r) D) : FinS (c.su a cls d) F r (match i with | none => D | some i => Ends.un D i) := by
  cases r with
  | bad => exact h
  | exc _ _ _ => exact h.elim
  | ok p =>
    obtain ⟨o, s'⟩ := p
    cases i with
    | none =>
      cases o with
      | rt x => exact fun v σ' env' F' H' e T rv => h v [] [] F' H' e (T.drop.ofMe rfl) rv
      | nx e1 =>
        unfold endS at h; dsimp only at h
        by_cases hp : plainE e1 = true
        · rw [if_pos hp] at h
          exact fun σ' F' H' e T => h σ' F' H' e (T.ofMe hp)
        · rw [if_neg hp] at h; exact h.elim
      | bk e1 =>
        unfold endS at h; dsimp only at h
        by_cases hp : plainE e1 = true
        · rw [if_pos hp] at h
          exact fun σ' F' H' e T => h σ' F' H' e (T.ofMe hp)
        · rw [if_neg hp] at h; exact h.elim
      | ct e1 =>
        unfold endS at h; dsimp only at h
        by_cases hp : plainE e1 = true
        · rw [if_pos hp] at h
          exact fun σ' F' H' e T => h σ' F' H' e (T.ofMe hp)
        · rw [if_neg hp] at h; exact h.elim
    | some i =>
      cases o with
      | rt x => exact fun v σ' env' F' H' e T rv => h v [] [] F' H' e (T.drop.ofMe rfl) rv
      | nx e1 =>
        unfold endS at h; dsimp only at h
        by_cases hp : plainE (e1.set i .no) = true
        · rw [if_pos hp] at h
          exact fun σ' F' H' e T => h (σ'.set i none) F' H' e (T.wipe.ofMe hp)
        · rw [if_neg hp] at h; exact h.elim
      | bk e1 =>
        unfold endS at h; dsimp only at h
        by_cases hp : plainE (e1.set i .no) = true
        · rw [if_pos hp] at h
          exact fun σ' F' H' e T => h (σ'.set i none) F' H' e (T.wipe.ofMe hp)
        · rw [if_neg hp] at h; exact h.elim
      | ct e1 =>
        unfold endS at h; dsimp only at h
        by_cases hp : plainE (e1.set i .no) = true
        · rw [if_pos hp] at h
          exact fun σ' F' H' e T => h (σ'.set i none) F' H' e (T.wipe.ofMe hp)
        · rw [if_neg hp] at h; exact h.elim
theorem wHds_of {K : PySem.W.Frag} {De : Ends} {k : Nat} {fs : List D} {cls : Value} {d : Option Addr} : ∀ {l : List Hd} {hs : List (HC S)}, HdD K c l hs → ∀ {F H : Hp} {σ : L2.St} {env : Env} {s : S}, Stt c.C c.I c.B F H σ env s → ExR c.C F H k fs cls d → FinS c F (handleS k fs hs env s) De → wHds K c.W De l cls d σ H
  | _, _, .nil, F, H, σ, env, s, T, x, h => h cls d σ F H (Same.refl _) T x
  | _, _, .cons (v := v) (i := i) (h := hc) (l := l) (r := r) hi ht q, F, H, σ, env, s, T, x, h => by
    obtain ⟨rfl, hx⟩ := x
    unfold handleS at h
    cases z : hc.test k with
    | none => rw [z] at h; exact h.elim
    | some b =>
      rw [z] at h
      refine ⟨b, ht k b z, fun hb a na => ?_, fun hb => ?_⟩
      · subst hb
        dsimp only at h
        have T1 := T.plain.withMe (me := some (a, .ref (c.C.cls k), d)) plainF_ok
        rw [hi] at h
        cases i with
        | none => exact ⟨F, _, s, T1, fin_end h⟩
        | some i =>
          rcases hx with ⟨rfl, rfl⟩ | ⟨dd, vs, rfl, hd, hl, rv⟩
          · exact ⟨F, _, s, T1.wipe, fin_end h⟩
          · cases fs with
            | nil => exact ⟨F, _, s, T1.wipe, fin_end h⟩
            | cons f1 fs => exact ⟨F, _, s, T1.setX rfl hd hl rv, fin_end h⟩
      · subst hb
        exact wHds_of q T ⟨rfl, hx⟩ h
/-- try: body / except C as e: suite / .. -/
theorem s_try {body : List Stmt} {h₀ : ExceptHandler} {hds : List ExceptHandler} {l : List Hd} {hs : List (HC S)} {mb : MS S} {j : Nat} (o : XO X c j) (hN : X.N.Nodup)
    (hb : ∀ (W : WX) (pn : List (Addr × Obj)) (xe : Value → Shared → Prop), XO (X.tr pn xe) (c.withW W) j → PSs (X.tr pn xe) body (tS (c.withW W) mb))
    (hh : HdL X (h₀ :: hds) l) (hd : HdD X.K c l hs) (hst : X.stack = X.env :: X.outer := by rfl) (hf : X.env.frame = some X.env.locals := by rfl) : PS X (.Try body (h₀ :: hds) [] [] pos) (tS c (tryS mb hs)) := by
  refine PSimp (ps_tryL (tb := fun W => tS (c.withW W) mb) hst hf hN o.tk (fun W pn xe tk ps => hb W pn xe ⟨o.hk, o.rm, o.gd, tk, o.cm, ps⟩) hh) fun De σ H h => ?_
  obtain ⟨F, env, s, T, h⟩ := h
  refine ⟨F, env, s, T, ?_⟩
  unfold tryS at h
  cases z : mb env s with
  | bad => rw [z] at h; exact h.elim
  | ok p =>
    rw [z] at h
    obtain ⟨o, s'⟩ := p
    cases o <;> exact h
  | exc k fs p =>
    rw [z] at h
    exact fun cls d σ' F' H' e T' x => wHds_of hd T' x (FinS.same h e)
/-- e.f in a suite, e the exception that it holds -/
def xfM (i q jx : Nat) : M S D := fun env s => match env[i]? with
  | some (.exc k fs) => if k = q then (match fs[jx]? with | some x => .ok (x, s) | none => .bad) else .bad
  | _ => .bad
theorem d_xf {a : Addr} {oe : Obj} {cls : Value} {d : Option Addr} {pn : List (Addr × Obj)} {f y : Str} {p : Pos} {i q jx : Nat} {fl : List Str} (T : ExcT X.prog X.K (c.C.cls q) fl) (hfl : c.C.flds q = fl) (hk : c.C.K = X.K) (hz : Zc cls d oe) (hf : ∃ vs, oe.data = .fields vs) (hf2 : fl[jx]? = some f := by rfl) (hnd : fl.Nodup := by decide)
    (hN : X.N[i]? = some y := by rfl) (hv : Vis X.env.scope y := by first | exact Or.inl rfl | exact Or.inr (Or.inl rfl) | exact Or.inr (Or.inr rfl)) (hd : (y == ("__debug__" : Str)) = false := by decide)
    (hcd : (y == ("__classdict__" : Str)) = false := by decide) (hb : attributeBase (.Name y p) f X.env (eval (.Name y p) X.env) = eval (.Name y p) X.env := by rfl) :
    PE (X.suite a ((a, oe) :: pn)) (.Attribute (.Name y p) f pos) (tM (c.su a cls d) (xfM i q jx)) := by
  refine PEimp (pe_xf T.ga (T.noN f (List.mem_of_getElem? hf2)) hz hf (pe_var (X := X.suite a ((a, oe) :: pn)) hN hv hd hcd) hb) fun σ H Q h => ?_
  obtain ⟨F, env, s, T0, h⟩ := h
  unfold xfM at h
  cases z : env[i]? with
  | none => rw [z] at h; exact h.elim
  | some w =>
    rw [z] at h
    cases w with
    | exc k fs =>
      dsimp only at h
      by_cases hkq : k = q
      · subst hkq
        rw [if_pos rfl] at h
        cases z2 : fs[jx]? with
        | none => rw [z2] at h; exact h.elim
        | some x =>
          rw [z2] at h
          obtain ⟨a', dd, vs, h1, hm, h2, hl, r⟩ := T0.sl i _ z
          have hm : some (a, cls, d) = some (a', Value.ref (c.C.cls k), some dd) := hm
          cases hm
          obtain ⟨v, e1, rv⟩ := r.get z2
          refine ⟨.ref a, h1, rfl, rfl, dd, _, v, rfl, T0.sub _ _ h2, ?_, h F H (Same.refl _) T0 v rv⟩
          rw [hfl] at hl ⊢
          have hj : jx < fl.length := (List.getElem?_eq_some_iff.mp hf2).1
          have mem : (f, v) ∈ fl.zip vs := by
            refine List.mem_of_getElem? (i := jx) ?_
            rw [List.getElem?_zip_eq_some]
            exact ⟨hf2, e1⟩
          have key : ∀ {l : List (Str × V)} {p : Str × V}, (l.map (·.1)).Nodup → p ∈ l → l.lookup p.1 = some p.2 := fun nd m => lookup_mem nd m
          exact key (p := (f, v)) (by rw [zip_keys hl]; exact hnd) mem
      · rw [if_neg hkq] at h; exact h.elim
    | no => exact h.elim
    | d _ => exact h.elim
    | own _ => exact h.elim
    | ins _ _ => exact h.elim
    | fn => exact h.elim
end
end DL
set_option Elab.async false
set_option linter.all false
set_option maxRecDepth 100000
set_option maxHeartbeats 2000000
namespace DL
open PySem PySem.Spec PyProof.Rows L2
section
variable {X : Cx} {pins : List (Addr × Obj)} {σ : L2.St} {H : Hp} {s : Shared}
/-- the lambda is made; what became of the abstract heap -/
theorem lam_new {T : List (Addr × Str)} {c P : Addr} {q : Str} {params : Arguments} {body : Expr} {scope : Scope} {pos : Pos} {E : Value → Shared → Prop} {Q : Value → Shared → Prop} (I : Inv X pins σ H s) (TB : LamX.TabB X.base X.mg c P) (hcode : X.env.code = .ref c) (hq : q = X.env.qual ++ "<lambda>")
    (hm : (P, q) ∈ T) (hu : ∀ p ∈ T, p.1 = P → p.2 = q) (hT : LamX.Tabs T H) (hdef : defaultsOf params X.env = ([], [])) (hfree : ∀ y ∈ scope.names, y.2 = .free → ∃ c, X.env.cells.lookup y.1 = some c)
    (h : ∀ (f c' : Addr) (pm ctv : Value) (H1 : Hp) (s' : Shared), Inv X pins σ H1 s' → (H1 = H ∨ ∃ ps more, H P = some (.tbl ps) ∧ H c' = none ∧ H1 = upd (upd H P (.tbl (ps ++ more))) c' (LamX.CodeO c' q)) → LamX.Tabs T H1 →
      s'.heap.get? f = some (PySem.W.kla_obj "<lambda>" q params body scope (cloFrom X.env.cells scope.names []) pm c' ctv) → H1 f = none → f ∉ frs X.stack → H1 c' = some (LamX.CodeO c' q) → Q (.ref f) s') :
    wpAny (model X.prog X.w) X.A (eval (.Lambda params body scope pos) X.env) Q E s := by
  subst hq
  obtain ⟨ps, hP, ht, ha⟩ := hT _ hm
  have bP := TB.bm.keeps I.bk
  have tabP : s.heap.get? P = some { cls := .none, data := .fields ps } := I.hok P _ hP
  have away : ∀ f, s.heap.objs.size ≤ f → f ∉ frs X.stack := fun f hf z => (List.mem_cons.mp (I.stkSub _ z)).elim (fun e => Nat.lt_irrefl _ (Nat.lt_of_lt_of_le (by have := I.lt; rw [← e] at this; exact this) hf)) (I.nofs hf)
  refine PySem.W.kla_eval hdef ?_
  cases hc : codeAmong pos ps.toList with
  | some cv =>
    obtain ⟨c', rfl, hco⟩ := ha pos cv hc
    refine PySem.W.kla_makeFunctionHit (mg := X.mg) (c := c) (P := P) (ps := ps) (closure_ok hfree) I.ok.glob (I.mod.glob.keeps I.bk) hcode (TB.code.keeps I.bk) tabP ht hc bP fun ctv h' tk hx hsz => ?_
    exact h h'.objs.size c' _ ctv H _ (I.kept (t' := tk) fun b o e => Heap.get?_push_of_some _ (hx b o e)) (.inl rfl) hT (Heap.get?_push_size _ rfl) (I.hok.fresh hsz) (away _ hsz) hco
  | none =>
    refine PySem.W.kla_makeFunction (mg := X.mg) (c := c) (P := P) (ps := ps) (closure_ok hfree) I.ok.glob (I.mod.glob.keeps I.bk) hcode (TB.code.keeps I.bk) tabP ht hc TB.gP bP fun c' ctv h' tk hx hge hlt hrec htb => ?_
    obtain ⟨c2, oc, vs, t, e2, hoc, hd, hv⟩ := hrec
    cases e2
    have nC : H c' = none := I.hok.fresh hge
    have sz : s.heap.objs.size ≤ h'.objs.size := Nat.le_trans hge (Nat.le_of_lt hlt)
    have eL : (ps ++ #[rawInt pos.line, rawInt pos.col, .ref c']).toList = ps.toList ++ [rawInt pos.line, rawInt pos.col, .ref c'] := by simp
    have J := LamX.inv_table (t' := tk) (more := #[rawInt pos.line, rawInt pos.col, .ref c']) (h' := h'.push (PySem.W.kla_obj "<lambda>" (X.env.qual ++ "<lambda>") params body scope (cloFrom X.env.cells scope.names []) ((X.mg "__name__").getD .none) c' ctv)) I hP
      (fun b o hb e => Heap.get?_push_of_some _ (hx b o hb e)) (Heap.get?_push_of_some _ htb) hge ⟨oc, vs, t, Heap.get?_push_of_some _ hoc, hd, hv⟩
    have up : ∀ b o, H b = some o → (∀ q, o ≠ .tbl q) → upd (upd H P (.tbl (ps ++ #[rawInt pos.line, rawInt pos.col, .ref c']))) c' (LamX.CodeO c' (X.env.qual ++ "<lambda>")) b = some o := fun b o e n => by
      rw [upd_ne (ne_of_none e nC), upd_ne (fun z => n ps (Option.some.inj (e.symm.trans (by rw [z]; exact hP)))), e]
    refine h h'.objs.size c' ((X.mg "__name__").getD .none) ctv _ _ J (.inr ⟨ps, _, hP, nC, rfl⟩) (fun p hp => ?_) (Heap.get?_push_size _ rfl) ?_ (away _ sz) upd_same
    · by_cases hb : p.1 = P
      · rw [hu p hp hb, hb]
        refine ⟨_, by rw [upd_ne (ne_of_none hP nC), upd_same], by rw [eL]; exact PySem.TriplesOk_snoc _ _ _ _ ht, fun p' cv hcv => ?_⟩
        rw [eL] at hcv
        rcases LamX.among_app _ ht hcv with z | z
        · obtain ⟨c0, k1, k2⟩ := ha p' cv z
          exact ⟨c0, k1, up _ _ k2 LamX.codeO_ne⟩
        · exact ⟨c', z, upd_same⟩
      · obtain ⟨ps', k1, k2, k3⟩ := hT p hp
        refine ⟨ps', by rw [upd_ne (ne_of_none k1 nC), upd_ne hb]; exact k1, k2, fun p' cv hcv => ?_⟩
        obtain ⟨c0, k4, k5⟩ := k3 p' cv hcv
        exact ⟨c0, k4, up _ _ k5 LamX.codeO_ne⟩
    · rw [upd_ne (Nat.ne_of_gt hlt), upd_ne (Nat.ne_of_gt (Nat.lt_of_lt_of_le (Heap.lt_size tabP) sz))]
      exact I.hok.fresh sz
end
section
variable {S : Type} {C : DC} {I : SI S} {B : En} {F H : Hp} {σ : L2.St} {env : Env} {s : S}
/-- a table grew by a new code object -/
theorem Stt.tabs (T : Stt C I B F H σ env s) {P c' : Addr} {q : Str} {H1 : Hp} (h : H1 = H ∨ ∃ ps more, H P = some (.tbl ps) ∧ H c' = none ∧ H1 = upd (upd H P (.tbl (ps ++ more))) c' (LamX.CodeO c' q)) (hT : LamX.Tabs C.T H1) : Stt C I B F H1 σ env s := by
  rcases h with rfl | ⟨ps, more, hP, hc, rfl⟩
  · exact T
  have at_ : ∀ a, a ≠ P → a ≠ c' → upd (upd H P (.tbl (ps ++ more))) c' (LamX.CodeO c' q) a = H a := fun a h1 h2 => by rw [upd_ne h2, upd_ne h1]
  have nP : ∀ a o, H a = some o → (∀ ps, o ≠ .tbl ps) → a ≠ P := fun a o e n z => by rw [z, hP] at e; exact n ps (Option.some.inj e).symm
  have keep : ∀ a o, H a = some o → (∀ ps, o ≠ .tbl ps) → upd (upd H P (.tbl (ps ++ more))) c' (LamX.CodeO c' q) a = some o := fun a o e n => by rw [at_ a (nP a o e n) (ne_of_none e hc)]; exact e
  have exK : ∀ a, I.ex a → upd (upd H P (.tbl (ps ++ more))) c' (LamX.CodeO c' q) a = H a := fun a ha => by
    obtain ⟨kvs, e⟩ := I.kind T.inv ha
    rw [keep a _ e (fun ps z => by cases z), e]
  have slN : ∀ (i : Nat) x, env[i]? = some x → SlotOk C B.me F (upd (upd H P (.tbl (ps ++ more))) c' (LamX.CodeO c' q)) σ[i]? x := fun i x e => (T.sl i x e).keep (Same.refl _) fun a k1 k2 => by
    obtain ⟨f1, f2, f3⟩ := T.own_there ⟨x, e, k2, k1⟩
    cases w : H a with
    | none => exact absurd w f2
    | some o => exact ⟨f1, keep a o w fun ps z => f3 ps (by rw [w, z])⟩
  have alN : ∀ a, B.H0 a ≠ none → upd (upd H P (.tbl (ps ++ more))) c' (LamX.CodeO c' q) a ≠ none := fun a n => by
    by_cases h1 : a = c'
    · subst h1; rw [upd_same]; simp
    · rw [upd_ne h1]
      by_cases h2 : a = P
      · subst h2; rw [upd_same]; simp
      · rw [upd_ne h2]; exact T.al a n
  exact { T with sub := fun a o e => keep a o (T.sub a o e) fun ps z => T.nt a ps (by rw [e, z]), inv := I.mono T.inv (Same.refl _) fun a ha => ⟨rfl, exK a ha⟩, sl := slN, fr := fun a o e n1 n2 => keep a o (T.fr a o e n1 n2) n2, tb := hT, al := alN }
end
def dOnly : Slot → Slot
  | .d x => .d x
  | _ => .no
theorem dOnly_ok (x : Slot) : dOnly x = x ∨ dOnly x = .no := by cases x <;> first | exact .inl rfl | exact .inr rfl
theorem dOnly_own (x : Slot) : isOwn (dOnly x) = false := by cases x <;> rfl
/-- a(), a the function that the def was handed -/
def actM {S : Type} (thunk : S → R (D × S) S) : M S D := fun env s => match env[0]? with
  | some Slot.fn => thunk s
  | _ => .bad
def runT {S : Type} (n : Nat) (m : MS S) (s : S) : R (D × S) S := match m (Slot.fn :: List.replicate (n - 1) .no) s with
  | .ok (.nx _, s') => .ok (.non, s')
  | .ok (.rt d, s') => .ok (d, s')
  | .ok (.bk _, _) => .bad
  | .ok (.ct _, _) => .bad
  | .exc k fs p => .exc k fs p.2
  | .bad => .bad
def lamM {S : Type} (n : Nat) (mb : (S → R (D × S) S) → MS S) (me : M S D) : M S D := fun env s => runT n (mb fun s => me (env.map dOnly) s) s
section
variable {S : Type} {C : DC} {I : SI S} {B : En} {F H : Hp} {σ : L2.St} {env : Env} {s : S}
theorem Stt.startF {k : Nat} {f : Addr} (T : Stt C I B F H σ env s) : Stt C I ⟨F, H, I.ex, some (f, .bool true, none)⟩ F H (some (.ref f) :: List.replicate k none) (Slot.fn :: List.replicate k .no) s := by
  have own : ∀ i a, ¬ OwnAt (Slot.fn :: List.replicate k .no) (some (V.ref f) :: List.replicate k none) i a := fun i a ⟨x, e1, e2, e3⟩ => by
    cases i with
    | zero => simp at e1; subst e1; cases e2
    | succ i =>
      rw [List.getElem?_cons_succ, List.getElem?_replicate] at e1
      split at e1
      · cases e1; cases e2
      · cases e1
  have sl : ∀ (i : Nat) x, (Slot.fn :: List.replicate k .no)[i]? = some x → SlotOk C (some (f, .bool true, none)) F H (some (V.ref f) :: List.replicate k none)[i]? x := fun i x e => by
    cases i with
    | zero => simp at e; subst e; exact ⟨f, rfl, rfl⟩
    | succ i =>
      rw [List.getElem?_cons_succ, List.getElem?_replicate] at e
      split at e
      · cases e; trivial
      · cases e
  exact { sub := T.sub, nt := T.nt, inv := T.inv, len := by simp, sl := sl, dj := fun i j a _ h => (own i a h).elim, ni := fun i a h => (own i a h).elim, fr := fun _ _ e _ _ => e, f0 := Same.refl _, nw := fun a o e n => (by rw [show F a = none from n] at e; cases e), tb := T.tb, al := fun _ n => n, ie := fun _ z => z, oe := fun i a h => (own i a h).elim }
end
section
variable {S : Type} {X : Cx} {pins : List (Addr × Obj)} {σ : L2.St} {H1 : Hp} {s1 : Shared}
abbrev cxG (X : Cx) (N : List Str) (q : Str) (sg : Scope) (g : Addr) (cdg : Value) (s : Shared) (H : Hp) (E : XK) : Cx := cxOf (L2.CX X.prog X.w) X.prog X.w X.K X.mg X.base N q sg g cdg X.A X.stack s H E
theorem act_run {c : Ct S} {F1 : Hp} {env : Env} {s0 : S} {me : M S D} {N : List Str} {q : Str} {sg : Scope} {g f c' : Addr} {cdg pm ctv : Value} {params : Arguments} {body : Expr} {scope : Scope} {k : Nat} {a : Str} {pn : List (Addr × Obj)} {xe : Value → Shared → Prop} {W : WX} {E : XK} {p1 p2 : Pos}
    (I : Inv X pins σ H1 s1) (L : LamX.LamS X.env.scope scope) (hf : s1.heap.get? f = some (PySem.W.kla_obj "<lambda>" (X.env.qual ++ "<lambda>") params body scope (cloFrom X.env.cells scope.names []) pm c' ctv)) (hfn : H1 f = none) (hfr : f ∉ frs X.stack) (hco : H1 c' = some (LamX.CodeO c' (X.env.qual ++ "<lambda>")))
    (hbind : bindArgs (PySem.W.kla_fn "<lambda>" (X.env.qual ++ "<lambda>") params body scope (cloFrom X.env.cells scope.names []) pm (.ref c') ctv) ⟨[], []⟩ = pure [])
    (T : Stt c.C c.I c.B F1 H1 σ env s0) (tk : Takes ((cxG X N q sg g cdg s1 H1 E).tr pn xe) W) (hr : Room (k + 1) (X.A.deeper (envOfC q sg s1.heap.objs.size g cdg)))
    (hbody : ∀ (A : Around) (outer : List PySem.Env) (s : Shared) (H : Hp) (E : XK) (B : En), Room k (A.deeper (LamX.lamEnv X scope s.heap.objs.size f c')) → A.guards = X.A.guards → PE (LamX.lamCx X A outer s H E scope f c') body (tM ⟨c.C, c.I, B, fun cls dd _ H' => E cls dd H'⟩ me))
    (hN : N[0]? = some a) (hv : Vis sg a) (hd : (a == ("__debug__" : Str)) = false := by decide) (hcd : (a == ("__classdict__" : Str)) = false := by decide) :
    PE ((cxG X N q sg g cdg s1 H1 E).tr pn xe) (.Call (.Name a p1) [] [] p2) (tM ⟨c.C, c.I, ⟨F1, H1, c.I.ex, some (f, .bool true, none)⟩, W⟩ (actM fun s => me (env.map dOnly) s)) := by
  refine ⟨fun pinsZ sZ σZ HZ Q IZ h => ?_⟩
  obtain ⟨FZ, envZ, s2, TZ, h⟩ := h
  unfold actM at h
  cases z : envZ[0]? with
  | none => rw [z] at h; exact h.elim
  | some y =>
    rw [z] at h
    cases y with
    | no => exact h.elim
    | d _ => exact h.elim
    | own _ => exact h.elim
    | ins _ _ => exact h.elim
    | exc _ _ => exact h.elim
    | fn =>
      obtain ⟨f', hs, em⟩ := TZ.sl 0 _ z
      cases (show some (f, Value.bool true, (none : Option Addr)) = some (f', .bool true, none) from em)
      have hc : HZ c' = some (LamX.CodeO c' (X.env.qual ++ "<lambda>")) := TZ.fr c' _ hco (fun ex => by
        obtain ⟨kvs, e⟩ := c.I.kind T.inv ex
        rw [hco] at e; cases e) LamX.codeO_ne
      have noOwn' : ∀ i a, ¬ OwnAt (env.map dOnly) σ i a := fun i a ⟨x, e1, e2, _⟩ => by
        rw [List.getElem?_map] at e1
        cases w : env[i]? with
        | none => rw [w] at e1; cases e1
        | some y => rw [w] at e1; cases e1; rw [dOnly_own] at e2; cases e2
      have T2 := ((T.after (fun a z => .inl z) TZ.drop).fewer dOnly_ok).rebase
      have back : ∀ {F' H' : Hp} {s' : S}, Stt c.C c.I (c.B.at c.I FZ HZ σ (env.map dOnly)) F' H' σ (env.map dOnly) s' → Stt c.C c.I ⟨F1, H1, c.I.ex, some (f, .bool true, Option.none)⟩ F' H' σZ envZ s' := fun {F' H' s'} U =>
        TZ.after (fun a z => z.elim .inl fun ⟨i, w⟩ => (noOwn' i a w).elim) U.drop
      have ht : tM ⟨c.C, c.I, c.B.at c.I FZ HZ σ (env.map dOnly), fun cls dd _ H' => W cls dd σZ H'⟩ me σ HZ Q := by
        refine ⟨FZ, _, s2, T2, ?_⟩
        have h : Fin ⟨c.C, c.I, ⟨F1, H1, c.I.ex, some (f, .bool true, Option.none)⟩, W⟩ FZ σZ envZ (me (env.map dOnly) s2) fun d _ F' H' => ∀ v, Rep c.C F' d v → Q v H' := h
        cases w : me (env.map dOnly) s2 with
        | bad => rw [w] at h; exact h
        | ok p => obtain ⟨d, s3⟩ := p; rw [w] at h; exact fun F' H' e U => h F' H' e (back U)
        | exc k fs s3 => rw [w] at h; exact fun cls dd F' H' e U x => h cls dd F' H' e (back U) x
      refine wpAny_Call_Name_kw (thn ((pe_var (pos := p1) (i := 0) hN hv hd hcd).run pinsZ sZ σZ HZ (fun v H2 => v = .ref f ∧ H2 = HZ) IZ ⟨.ref f, hs, rfl, rfl⟩) fun u s3 ⟨v, H2, I2, r2, ev, eH⟩ => ?_)
      subst ev
      subst eH
      obtain rfl : u = Value.ref f := r2
      have of1 := I2.base.keep f _ hf hfn hfr (fun z => nomatch (show f ∈ ([] : List Addr) from z))
      refine PySem.W.callWith_F0 ⟨_, _, _, _, of1⟩ ?_
      obtain ⟨⟨oc, vs, t, hoc, hdc, hvc⟩, _, _⟩ := I2.hok c' _ hc
      have lim := I2.nolimit
      have rc : codeAny (model X.prog X.w) (X.A.deeper (envOfC q sg s1.heap.objs.size g cdg)) (.call (.ref f) ⟨[], []⟩) (CR (L2.CX X.prog X.w) (envOfC q sg s1.heap.objs.size g cdg :: X.stack) X.prog X.w H2 s3 Q fun cls dd H' => W cls dd σZ H') s3 := by
        refine PySem.W.kla_callFunE hr.depth of1 rfl L.co L.gen rfl ⟨c', oc, vs, t, rfl, hoc, hdc, hvc⟩ ?_
        rw [hbind]
        refine wpAny_pure (wpAny_newFunctionEnv (fun y hy => (L.own y hy).2) (fun y hy => absurd hy (by simp)) (fun h₁ hns hsb => ⟨lim.fresh _ hsb, ?_⟩) L.kind)
        show codeAny _ _ (.expr body (LamX.lamEnv X scope s3.heap.objs.size f c')) _ _
        have J := LamX.lam_start2 (A := X.A.deeper (envOfC q sg s1.heap.objs.size g cdg)) (outer := envOfC q sg s1.heap.objs.size g cdg :: X.stack) (E := fun cls dd H' => W cls dd σZ H') (f := f) (c' := c') (tk := s3.toks + ([] : List (Str × Value)).length) I L I2.env0 hr.hd I2.base hns
          fun b o e => hsb.extBut b o (Nat.ne_of_lt (Heap.lt_size e)) (Heap.get?_push_of_some _ e)
        refine PySem.W.kla_codeExpr (wpAny_mono ((hbody _ _ s3 H2 _ _ (hr.deeper _) rfl).run [] _ _ H2 Q J ht) (fun v s' hq => ?_) fun e s' hq => hq)
        obtain ⟨w', H', J', rv, q'⟩ := hq
        exact ⟨w', H', J'.os, J'.bare, J'.base, J'.hok, rv, q'⟩
      refine wpAny_call (codeAny_mono rc fun r s' hq => ?_)
      match r, hq with
      | .error e, hq => exact tk e s' (XE.of_call I2 (fun _ _ _ z => z) hq)
      | .ok (.ret u), hq => exact I2.after hq
end
/-- what calls the handed function, in a body -/
def ActOk {S : Type} (X : Cx) (c : Ct S) (a : Str) (k : Nat) (thunk : S → R (D × S) S) : Prop := ∀ (W : WX) (pn : List (Addr × Obj)) (xe : Value → Shared → Prop) (p1 p2 : Pos), XO (X.tr pn xe) (c.withW W) k → PE (X.tr pn xe) (.Call (.Name a p1) [] [] p2) (tM (c.withW W) (actM thunk))
/-- a def of one parameter, which it calls -/
structure GT {S : Type} (P : Program) (w : World) (K : PySem.W.Frag) (mg : Str → Option Value) (base : Heap) (dc : Option Addr → DC) (J : Option Addr → SI S) (k : Nat) (x : Str) (n : Nat) (mb : (S → R (D × S) S) → MS S) : Prop where
  ex : ∃ (g : Addr) (st : Stmt) (fd : FuncData) (N : List Str) (a : Str), mg x = some (.ref g) ∧ PySem.W.keepIn K (.ref g) = true ∧ Fun K x x st g fd ∧ FnScope N [a] (defScope st) ∧ N.length = n ∧ N[0]? = some a ∧ Vis (defScope st) a ∧ ((a == ("__debug__" : Str)) = false ∧ (a == ("__classdict__" : Str)) = false) ∧ Binds K fd [a] [] ∧
    ∀ {cd : Value} {A : Around} {outer : List PySem.Env} {s : Shared} {H : Hp} {E : XK} {so : Option Addr} {B : En} {thunk : S → R (D × S) S}, XO (cxD P w K mg base N x st g cd A outer s H E) (ctD dc J so B E) k → ActOk (cxD P w K mg base N x st g cd A outer s H E) (ctD dc J so B E) a k thunk →
      PSs (cxD P w K mg base N x st g cd A outer s H E) (defBody st) (tS (ctD dc J so B E) (mb thunk))
section
variable {S : Type} {c : Ct S} {X : Cx} {dc : Option Addr → DC} {J : Option Addr → SI S} {so : Option Addr} {k kg j n : Nat} {x : Str} {p lpos pos : Pos} {params : Arguments} {body : Expr} {scope : Scope} {mb : (S → R (D × S) S) → MS S} {me : M S D}
theorem guards_deeper {A : Around} {env : PySem.Env} (h : A.guards = some []) : (A.deeper env).guards = some [] := h
theorem d_lam {cA PA : Addr} (G : GT X.prog X.w X.K X.mg X.base dc J kg x n mb) (o : XO X c j) (hk : k + 2 ≤ j) (hkg : kg + 1 ≤ j) (TB : LamX.TabB X.base X.mg cA PA) (hcode : X.env.code = .ref cA) (hT : (PA, X.env.qual ++ "<lambda>") ∈ c.C.T) (hu : ∀ p ∈ c.C.T, p.1 = PA → p.2 = X.env.qual ++ "<lambda>")
    (L : LamX.LamS X.env.scope scope) (hK : ∀ so, (dc so).K = X.K)
    (hbody : ∀ (A : Around) (outer : List PySem.Env) (s : Shared) (H : Hp) (E : XK) (f c' : Addr) (B : En), XO (LamX.lamCx X A outer s H E scope f c') ⟨c.C, c.I, B, fun cls dd _ H' => E cls dd H'⟩ k → PE (LamX.lamCx X A outer s H E scope f c') body (tM ⟨c.C, c.I, B, fun cls dd _ H' => E cls dd H'⟩ me))
    (hC : c.C = dc so := by rfl) (hI : c.I = J so := by rfl) (hg : Gl X x := by rfl) (hdef : defaultsOf params X.env = ([], []) := by rfl)
    (hbind : ∀ (q : Str) (cl : List (Str × Addr)) (pm cv ctv : Value), bindArgs (PySem.W.kla_fn "<lambda>" q params body scope cl pm cv ctv) ⟨[], []⟩ = pure [] := by intros; rfl) (hdb : (x == ("__debug__" : Str)) = false := by decide) :
    PE X (.Call (.Name x p) [.Lambda params body scope lpos] [] pos) (tM c (lamM n mb me)) := by
  obtain ⟨g, st, fd, N, a, hm, hkp, Fu, Sc, rfl, hN, hv, ⟨hd1, hd2⟩, hb, hgb⟩ := G.ex
  obtain ⟨oc, od, kV, doc, pmg, an, cdv, ct, osl, rfl, lk, hcd⟩ := Fu.ex
  refine ⟨fun pins s σ H Q I h => ?_⟩
  obtain ⟨F, env, s0, T0, h⟩ := h
  refine wpAny_Call_Name_kw (ld_glob I hg hm ?_ hdb)
  refine PySem.W.callWith_K (h₀ := X.base) I.ok.mod.kin hkp ?_ (by rfl) (by rfl)
  show wpAny _ _ (spliced ((false, eval (.Lambda params body scope lpos) X.env) :: backTo pos (starEach [] X.env))) _ _ s
  refine Calls.spliced_cons (lam_new I TB hcode rfl hT hu T0.tb hdef (L.has I.ok) fun f c' pm' ctv H1 s' I1 hH T1 hf hfn hfr hco => ?_)
  refine Calls.spliced_nil ⟨I1.kIn, ?_⟩
  have T1 := T0.tabs hH T1
  have rm1 : Room (kg + 1) X.A := o.rm.mono hkg
  have rc : codeAny (model X.prog X.w) X.A (.call (.ref g) ⟨[.ref f], []⟩) (CR (L2.CX X.prog X.w) X.stack X.prog X.w H1 s' Q fun cls dd H' => c.W cls dd σ H') s' := by
    refine LamX.run_ofS (N := N) (ps := [a]) (us := [.ref f]) (vs := [.ref f]) lk hcd Sc rm1 I1.env0 (hb s' [.ref f] I1.kIn rfl) (.cons rfl .nil) rfl fun hr' => ?_
    have eC : c.C = dc so := hC
    have xo : XO (cxG X N x (defScope st) g cdv s' H1 fun cls dd H' => c.W cls dd σ H') (⟨c.C, c.I, ⟨F, H1, c.I.ex, some (f, .bool true, none)⟩, fun cls dd _ H' => c.W cls dd σ H'⟩ : Ct S) kg :=
      ⟨by rw [eC]; exact hK so, hr', guards_deeper o.gd, takes_of rfl rfl rfl rfl, rfl, passes_of (K := fun e s'' => L2.CX X.prog X.w X.stack H1 s' (fun cls dd H' => c.W cls dd σ H') e s'') rfl⟩
    have hrl : Room (k + 1) (X.A.deeper (envOfC x (defScope st) s'.heap.objs.size g cdv)) := Room.deeper (o.rm.mono (show k + 2 ≤ j from hk)) _
    have act : ActOk (cxG X N x (defScope st) g cdv s' H1 fun cls dd H' => c.W cls dd σ H') (⟨c.C, c.I, ⟨F, H1, c.I.ex, some (f, .bool true, none)⟩, fun cls dd _ H' => c.W cls dd σ H'⟩ : Ct S) a kg (fun s => me (env.map dOnly) s) := fun W pn xe p1 p2 xo2 =>
      act_run (c := c) I1 L hf hfn hfr hco (hbind _ _ _ _ _) T1 xo2.tk hrl (fun A outer s H E B hr2 hgA => hbody A outer s H E f c' B ⟨o.hk, hr2, by rw [show (LamX.lamCx X A outer s H E scope f c').A.guards = A.guards from rfl, hgA]; exact o.gd, takes_of rfl rfl rfl rfl, rfl, passes_of (K := fun e s'' => L2.CX X.prog X.w outer H s E e s'') rfl⟩) hN hv hd1 hd2
    obtain ⟨C, I', B', W'⟩ := c
    dsimp only at hC hI
    subst hC
    subst hI
    refine ⟨_, hgb (so := so) (B := ⟨F, H1, (J so).ex, some (f, .bool true, none)⟩) xo act, F, Slot.fn :: List.replicate (N.length - 1) .no, s0, T1.startF, ?_⟩
    unfold lamM runT at h
    cases z : mb (fun s => me (env.map dOnly) s) (Slot.fn :: List.replicate (N.length - 1) .no) s0 with
    | bad => rw [z] at h; exact h
    | exc q fs p =>
      rw [z] at h
      exact fun cls dd σ' F' H' e U r => h cls dd F' H' e (T1.after (fun a z => .inl z) U.drop) r
    | ok p2 =>
      obtain ⟨o2, s2⟩ := p2
      rw [z] at h
      cases o2 with
      | nx env' => exact fun σ' F' H' e U => h F' H' e (T1.after (fun a z => .inl z) U.drop) .non rfl
      | rt d => exact fun v σ' env' F' H' e U r => h F' H' e (T1.after (fun a z => .inl z) U.drop) v r
      | bk _ => exact h.elim
      | ct _ => exact h.elim
  refine wpAny_call (codeAny_mono rc fun r s2 hq => ?_)
  match r, hq with
  | .error e, hq => exact o.tk e s2 (XE.of_call I1 (fun _ _ _ z => z) hq)
  | .ok (.ret u), hq => exact I1.after hq
end
end DL
set_option Elab.async false
set_option linter.all false
set_option maxRecDepth 100000
set_option maxHeartbeats 1000000
namespace DL
open PySem PySem.Spec PyProof.Rows L2
structure Pen where
  cells : List Int
  at_ : Int
  digits : Int
  count : Int
  fold : Int
def penKV (p : Pen) (l : Addr) : List (Key × V) := [(.inr "cells", .ref l), (.inr "at", .int p.at_), (.inr "digits", .int p.digits), (.inr "count", .int p.count), (.inr "fold", .int p.fold)]
def penKeys : List Str := ["cells", "at", "digits", "count", "fold"]
def Pen.get (p : Pen) : Nat → Option D
  | 0 => some (.lst (p.cells.map .int))
  | 1 => some (.int p.at_)
  | 2 => some (.int p.digits)
  | 3 => some (.int p.count)
  | 4 => some (.int p.fold)
  | _ => none
def Pen.put (p : Pen) : Nat → Int → Option Pen
  | 1, z => some { p with at_ := z }
  | 2, z => some { p with digits := z }
  | 3, z => some { p with count := z }
  | 4, z => some { p with fold := z }
  | _, _ => none
def penI (K : PySem.W.Frag) (a : Addr) : SI Pen where
  ex := fun b => b = a
  inv := fun s F H => F a = none ∧ ∃ l, H a = some (.dK (penKV s l)) ∧ SqL K F l (s.cells.map V.int)
  mono := fun {s F H F' H'} h e k => by
    obtain ⟨h1, l, h2, h3⟩ := h
    obtain ⟨k1, k2⟩ := k a rfl
    exact ⟨k1.trans h1, l, k2.trans h2, e.seq h3⟩
  kind := fun {s F H b} h e => by
    subst e
    obtain ⟨_, l, h2, _⟩ := h
    exact ⟨_, h2⟩
  free := fun {s F H b} h e => by
    subst e
    exact h.1
def penN : SI Pen := ⟨fun _ => False, fun _ _ _ => False, fun h _ _ => h.elim, fun _ h => h.elim, fun _ h => h.elim⟩
def penJ (K : PySem.W.Frag) : Option Addr → SI Pen
  | some a => penI K a
  | none => penN
theorem pen_val {p : Pen} {l : Addr} {i : Nat} {key : Str} {d : D} (hk : penKeys[i]? = some key) (hd : p.get i = some d) : ∃ v, valV (penKV p l) (.inr key) = some v ∧ ((i = 0 ∧ v = .ref l) ∨ ∃ z, d = .int z ∧ v = .int z) := by
  match i with
  | 0 => cases hk; exact ⟨_, rfl, .inl ⟨rfl, rfl⟩⟩
  | 1 => cases hk; cases hd; exact ⟨_, rfl, .inr ⟨_, rfl, rfl⟩⟩
  | 2 => cases hk; cases hd; exact ⟨_, rfl, .inr ⟨_, rfl, rfl⟩⟩
  | 3 => cases hk; cases hd; exact ⟨_, rfl, .inr ⟨_, rfl, rfl⟩⟩
  | 4 => cases hk; cases hd; exact ⟨_, rfl, .inr ⟨_, rfl, rfl⟩⟩
  | i + 5 => cases hd
theorem pen_put {p p' : Pen} {l : Addr} {i : Nat} {key : Str} {z : Int} (hk : penKeys[i]? = some key) (hd : p.put i z = some p') : putK (penKV p l) (.inr key) (.int z) = penKV p' l ∧ p'.cells = p.cells := by
  match i with
  | 0 => cases hd
  | 1 => cases hk; cases hd; exact ⟨rfl, rfl⟩
  | 2 => cases hk; cases hd; exact ⟨rfl, rfl⟩
  | 3 => cases hk; cases hd; exact ⟨rfl, rfl⟩
  | 4 => cases hk; cases hd; exact ⟨rfl, rfl⟩
  | i + 5 => cases hd
/-- pen[key] -/
def penGet (i : Nat) (mo : M Pen D) : M Pen D := bindM mo fun x => fun _ s => match x with
  | .st => match s.get i with | some d => .ok (d, s) | none => .bad
  | _ => .bad
/-- pen[key] = e -/
def penPut (i : Nat) (mo mv : M Pen D) : MS Pen := thenS mv fun v => thenS mo fun x => fun env s => match x, v with
  | .st, .int z => match s.put i z with | some s' => .ok (.nx env, s') | none => .bad
  | _, _ => .bad
section
variable {c : Ct Pen} {X : Cx} {o e : Expr} {pos pos' p : Pos} {mo mv : M Pen D}
theorem Stt.penWrite {C : DC} {K : PySem.W.Frag} {B : En} {F H : Hp} {σ : L2.St} {env : Env} {s s' : Pen} {a l : Addr} (T : Stt C (penI K a) B F H σ env s) (h2 : SqL K F l (s.cells.map V.int)) (hc : s'.cells = s.cells) : Stt C (penI K a) B F (upd H a (.dK (penKV s' l))) σ env s' := by
  obtain ⟨fa, l0, ha, _⟩ := T.inv
  have ea : (penI K a).ex a := rfl
  have nslot : ∀ i b, OwnAt env σ i b → b ≠ a := fun i b h z => T.ni i b h z
  have slN : ∀ (i : Nat) x, env[i]? = some x → SlotOk C B.me F (upd H a (.dK (penKV s' l))) σ[i]? x := fun i x e => (T.sl i x e).keep (Same.refl _) fun b k1 k2 => by
    have q : OwnAt env σ i b := ⟨x, e, k2, k1⟩
    exact ⟨(T.own_there q).1, upd_ne (nslot i b q)⟩
  have tbN : LamX.Tabs C.T (upd H a (.dK (penKV s' l))) := fun q hq => by
    obtain ⟨ps, k1, k2, k3⟩ := T.tb q hq
    refine ⟨ps, by rw [upd_ne (fun z => by rw [z, ha] at k1; cases k1)]; exact k1, k2, fun pos cv hcv => ?_⟩
    obtain ⟨u, e1, e2⟩ := k3 pos cv hcv
    exact ⟨u, e1, by rw [upd_ne (fun z => by rw [z, ha] at e2; unfold LamX.CodeO at e2; cases e2)]; exact e2⟩
  have alN : ∀ b, B.H0 b ≠ none → upd H a (.dK (penKV s' l)) b ≠ none := fun b n => by
    by_cases z : b = a
    · subst z; rw [upd_same]; simp
    · rw [upd_ne z]; exact T.al b n
  exact { sub := fun b u e => (by rw [upd_ne (fun z => by subst z; rw [fa] at e; cases e)]; exact T.sub b u e), nt := T.nt, inv := ⟨fa, l, upd_same, by rw [hc]; exact h2⟩, len := T.len, sl := slN, dj := T.dj, ni := T.ni, fr := fun b u e n1 n2 => (by rw [upd_ne (fun z => n1 (T.ie b z))]; exact T.fr b u e n1 n2), f0 := T.f0, nw := T.nw, tb := tbN, al := alN, ie := T.ie, oe := T.oe }
theorem d_pget {i j : Nat} {key : Str} (hI : c.I = penJ c.C.K c.C.st) (hu : X.A.units + 64 < cLine) (ho : PE X o (tM c mo)) (hkey : penKeys[i]? = some key := by rfl) : PE X (.Subscript o (.Constant (.str key) j p) pos) (tM c (penGet i mo)) := by
  refine PEimp (pe_dget (by omega) ho pe_str (fun _ _ => rfl)) fun σ H Q h => ?_
  refine tM_bind h fun dx s1 F1 H1 x env T1 rx q => ?_
  cases dx with
  | st =>
    obtain ⟨a, h1, rfl⟩ := rx
    dsimp only at q
    cases z : s1.get i with
    | none => rw [z] at q; exact q.elim
    | some d =>
      rw [z] at q
      have inv := T1.inv
      rw [hI, h1] at inv
      obtain ⟨_, l, ha, hl⟩ := inv
      obtain ⟨v, e, hv⟩ := pen_val (l := l) hkey z
      refine ⟨a, v, rfl, by have := DGet.k (k := .inr key) ha; rw [e] at this; exact this, q F1 H1 (Same.refl _) T1 v ?_⟩
      rcases hv with ⟨rfl, rfl⟩ | ⟨z', rfl, rfl⟩
      · cases z
        refine ⟨l, _, rfl, hl, ?_⟩
        exact Reps.ints
      · rfl
  | _ => exact q.elim
theorem s_pput {i j : Nat} {key : Str} (hI : c.I = penJ c.C.K c.C.st) (hu : X.A.units + 64 < cLine) (ho : PE X o (tM c mo)) (hv : PE X e (tM c mv)) (hkey : penKeys[i]? = some key := by rfl) (hs : swapsWith e (some (.Subscript o (.Constant (.str key) j p) pos')) pos.line X.env = pure false := by rfl) :
    PS X (.Assign [.Subscript o (.Constant (.str key) j p) pos'] e pos) (tS c (penPut i mo mv)) := by
  refine PSimp (ps_dput (by omega) ho pe_str hv hs) fun De σ H h => ?_
  obtain ⟨F, env, s, T, h⟩ := h
  refine ⟨F, env, s, T, h.bind.imp fun dv s1 F1 H1 e1 T1 q v rv => ?_⟩
  refine ⟨F1, env, s1, T1, q.bind.imp fun dx s2 F2 H2 e2 T2 q2 x rx => ?_⟩
  cases dx with
  | st =>
    cases dv with
    | int z =>
      cases rep_int rv
      dsimp only at q2
      cases w : s2.put i z with
      | none => rw [w] at q2; exact q2.elim
      | some s3 =>
        rw [w] at q2
        obtain ⟨a, h1, rfl⟩ := rx
        obtain ⟨C, I, B, W⟩ := c
        dsimp only at hI h1
        subst hI
        have inv := T2.inv
        dsimp only at T2 inv q2
        rw [h1] at inv T2 q2
        obtain ⟨fa, l, ha, hl⟩ := inv
        obtain ⟨k1, k2⟩ := pen_put (l := l) hkey w
        refine ⟨a, _, rfl, DPut.k (k := .inr key) ha (by rw [sizeLine_eq]; show 5 < _; decide), ?_⟩
        rw [k1]
        exact q2 σ F2 _ (Same.refl _) (Stt.penWrite T2 hl k2)
    | _ => exact q2.elim
  | _ => exact q2.elim
end
end DL
set_option Elab.async false
set_option linter.all false
set_option maxRecDepth 100000
set_option maxHeartbeats 1000000
namespace DL
open PySem PySem.Spec PyProof.Rows L2
def foldOf (cells : List Int) : Int := cells.foldl (fun f c => (f * 47 + c).fmod 1000000007) 0
def pen0 (cells : List Int) : Pen := ⟨cells, 0, 0, 0, foldOf cells⟩
/-- what the maker of the pen promises -/
def spPen (C : DC) : Sp := fun vs H Q _ => ∃ F cells l0, vs = [.ref l0] ∧ Same F H ∧ NoTbl F ∧ LamX.Tabs C.T H ∧ SqL C.K F l0 (cells.map V.int) ∧
  ∀ F' H' a l, Stt C SI.pure ⟨F, H, fun _ => False, none⟩ F' H' [] [] () → H a = none → F' a = none → H' a = some (.dK (penKV (pen0 cells) l)) → SqL C.K F' l (cells.map V.int) → Q (.ref a) H'
/-- return {'cells': list(script), 'at': 0, .. } -/
def tPenRet (c : Ct Unit) : TS := fun De σ H => ∃ F env, Stt c.C c.I c.B F H σ env () ∧ ∃ cells fold, env[0]? = some (.d (.lst (cells.map .int))) ∧ env[1]? = some (.d (.int fold)) ∧
  ∀ F' H' a l, Same F F' → Stt c.C c.I c.B F' H' σ env () → H a = none → F' a = none → H' a = some (.dK (penKV ⟨cells, 0, 0, 0, fold⟩ l)) → SqL c.C.K F' l (cells.map V.int) → De.rt (.ref a) H'
section
variable {c : Ct Unit} {X : Cx}
theorem Stt.noF {S : Type} {C : DC} {I : SI S} {B : En} {F H F' H' : Hp} {σ σ' : L2.St} {env env' : Env} {s s' : S} (T : Stt C I B F H σ env s) (U : Stt C I (B.at I F H σ env) F' H' σ' env' s') {p : Addr} {o : HO} (hp : H p = some o) (hf : F p = none) (ho : ∀ ps, o ≠ .tbl ps) (hi : ¬ I.ex p) (hn : ∀ i, ¬ OwnAt env σ i p) : H' p = some o ∧ F' p = none := by
  refine ⟨U.fr p o hp (fun z => z.elim hi fun ⟨i, w⟩ => hn i w) ho, ?_⟩
  cases q : F' p with
  | none => rfl
  | some u =>
    have z : H p = none := U.nw p u q hf
    rw [hp] at z; cases z
/-- a dict that no slot holds is written -/
theorem Stt.writeD {S : Type} {C : DC} {I : SI S} {B : En} {F H : Hp} {σ : L2.St} {env : Env} {s : S} (T : Stt C I B F H σ env s) {p : Addr} {kvs : List (Key × V)} {o : HO} (hp : H p = some (.dK kvs)) (hf : F p = none) (hi : ¬ I.ex p) (hn : ∀ i, ¬ OwnAt env σ i p) (h0 : B.H0 p = none) : Stt C I B F (upd H p o) σ env s := by
  have slN : ∀ (i : Nat) x, env[i]? = some x → SlotOk C B.me F (upd H p o) σ[i]? x := fun i x e => (T.sl i x e).keep (Same.refl _) fun b k1 k2 => by
    have q : OwnAt env σ i b := ⟨x, e, k2, k1⟩
    exact ⟨(T.own_there q).1, upd_ne fun z => hn i (z ▸ q)⟩
  have tbN : LamX.Tabs C.T (upd H p o) := fun q hq => by
    obtain ⟨ps, k1, k2, k3⟩ := T.tb q hq
    refine ⟨ps, by rw [upd_ne (fun z => by rw [z, hp] at k1; cases k1)]; exact k1, k2, fun pos cv hcv => ?_⟩
    obtain ⟨u, e1, e2⟩ := k3 pos cv hcv
    exact ⟨u, e1, by rw [upd_ne (fun z => by rw [z, hp] at e2; unfold LamX.CodeO at e2; cases e2)]; exact e2⟩
  have alN : ∀ b, B.H0 b ≠ none → upd H p o b ≠ none := fun b n => by
    by_cases z : b = p
    · subst z; rw [upd_same]; simp
    · rw [upd_ne z]; exact T.al b n
  exact { sub := fun b u e => (by rw [upd_ne (fun z => by subst z; rw [hf] at e; cases e)]; exact T.sub b u e), nt := T.nt, inv := I.mono T.inv (Same.refl _) fun a ha => ⟨rfl, upd_ne fun z => hi (z ▸ ha)⟩, len := T.len, sl := slN, dj := T.dj, ni := T.ni, fr := fun b u e n1 n2 => (by rw [upd_ne (fun z => by subst z; rw [h0] at e; cases e)]; exact T.fr b u e n1 n2), f0 := T.f0, nw := T.nw, tb := tbN, al := alN, ie := T.ie, oe := T.oe }
theorem s_penRet {k1 k2 k3 k4 k5 j1 j2 j3 : Nat} {p1 p2 p3 p4 p5 p6 p7 p8 p9 p10 p11 pos pos2 : Pos} {pf : Pos} {xs xf : Str} (hk : c.C.K = X.K) (hm : X.mg "list" = none)
    (hx : X.N[0]? = some xs := by rfl) (hvx : Vis X.env.scope xs := by first | exact Or.inl rfl | exact Or.inr (Or.inl rfl) | exact Or.inr (Or.inr rfl)) (hdx : (xs == ("__debug__" : Str)) = false := by decide) (hcx : (xs == ("__classdict__" : Str)) = false := by decide)
    (hy : X.N[1]? = some xf := by rfl) (hvy : Vis X.env.scope xf := by first | exact Or.inl rfl | exact Or.inr (Or.inl rfl) | exact Or.inr (Or.inr rfl)) (hdy : (xf == ("__debug__" : Str)) = false := by decide) (hcy : (xf == ("__classdict__" : Str)) = false := by decide) (hg : Gl X "list" := by rfl) :
    PS X (.Return (some (.Dict [some (.Constant (.str "cells") k1 p1), some (.Constant (.str "at") k2 p2), some (.Constant (.str "digits") k3 p3), some (.Constant (.str "count") k4 p4), some (.Constant (.str "fold") k5 p5)]
      [.Call (.Name "list" p6) [.Name xs p7] [] p8, .Constant (.int 0) j1 p9, .Constant (.int 0) j2 p10, .Constant (.int 0) j3 p11, .Name xf pf] pos)) pos2) (tPenRet c) := by
  have dl : ∀ B, PE X (.Call (.Name "list" p6) [.Name xs p7] [] p8) (tM (c.sub B) (callM listD (consM (mVar 0) (retM [])))) := fun B => d_listC (c := c.sub B) hk hm (d_var 0 hx hvx hdx hcx) rfl hg
  refine PSimp (ps_ret (pe_disp (pps_cons pe_str (PEex dl) (pps_cons pe_str pe_int (pps_cons pe_str pe_int (pps_cons pe_str pe_int (pps_cons pe_str (pe_var hy hvy hdy hcy) pps_nil))))) rfl rfl (by simp) (by simp))) fun De σ H h => ?_
  obtain ⟨F, env, T, cells, fold, e0, e1, h⟩ := h
  intro p np
  have T1 := T.newM (o := .dK []) np
  have ownp : ∀ i, ¬ OwnAt env σ i p := fun i z => (T.own_there z).2.1 np
  refine ⟨c.B.at c.I F (upd H p (.dK [])) σ env, F, env, (), T1.rebase, ?_⟩
  have em : callM listD (consM (mVar 0) (retM [])) env () = .ok (.lst (cells.map .int), ()) := by
    unfold callM consM bindM mVar retM
    rw [e0]
    rfl
  rw [em]
  intro F' H' e U v rv
  obtain ⟨k1, k2⟩ := T1.noF U upd_same (T.ff np) (fun ps z => by cases z) (T.exfree np) ownp
  obtain ⟨l, vs, rfl, hl, hr⟩ := rv
  have ev := Reps.of_ints hr
  subst ev
  obtain ⟨v1, h1, h2⟩ := T.sl 1 _ e1
  cases rep_int h2
  refine ⟨_, h1, ?_⟩
  refine ⟨k1, [(.inr "cells", .ref l), (.inr "at", .int 0), (.inr "digits", .int 0), (.inr "count", .int 0), (.inr "fold", .int fold)], rfl, by simp, ?_⟩
  have TU := T1.back U (fun i a z => T.oe i a z)
  have TW : Stt c.C c.I c.B F' (upd H' p (.dK (penKV ⟨cells, 0, 0, 0, fold⟩ l))) σ env () := by
    exact TU.writeD k1 k2 (fun z => T.exfree np z) ownp (T.h0 np)
  exact h F' _ p l e TW np k2 upd_same hl
/-- the body of the pen's maker -/
def tPenBody (c : Ct Unit) (m : MS Unit) : TS := fun De σ H => ∃ F env, Stt c.C c.I c.B F H σ env () ∧ FinS c F (m env ()) { De with nx := tPenRet c De }
def keepsPen (m : MS Unit) (n : Nat) : Prop := ∀ cells : List Int, ∃ env', m (.d (.lst (cells.map .int)) :: List.replicate n .no) () = .ok (.nx env', ()) ∧ env'[0]? = some (.d (.lst (cells.map .int))) ∧ env'[1]? = some (.d (.int (foldOf cells)))
end
section
variable {P : Program} {w : World} {K : PySem.W.Frag} {mg : Str → Option Value} {base : Heap}
abbrev mkDC (K : PySem.W.Frag) (cls : Nat → Addr) (flds : Nat → List Str) (T : List (Addr × Str)) (so : Option Addr) : DC := ⟨K, cls, flds, so, T⟩
theorem pen_three {c : Ct Unit} {X : Cx} {s1 s2 s3 : Stmt} {m1 m2 : MS Unit} (h1 : PS X s1 (tS c m1)) (h2 : PS X s2 (tS c m2)) (h3 : PS X s3 (tPenRet c)) : PSs X [s1, s2, s3] (tPenBody c (seqS m1 m2)) := by
  refine PSsimp (pss_cons h1 (pss_cons h2 (pss_one h3))) fun De σ H h => ?_
  obtain ⟨F, env, T, h⟩ := h
  refine ⟨F, env, (), T, ?_⟩
  unfold seqS at h
  cases q : m1 env () with
  | bad => rw [q] at h; exact h
  | exc k fs p => rw [q] at h; exact h
  | ok a =>
    obtain ⟨o, s'⟩ := a
    rw [q] at h
    cases o with
    | nx env' =>
      refine fun σ' F' H' x T' => ⟨F', env', (), T', ?_⟩
      have h2 : FinS c F' (m2 env' ()) { De with nx := tPenRet c De } := FinS.same h x
      exact h2
    | rt d => exact h
    | bk env' => exact h
    | ct env' => exact h
/-- the maker of the pen keeps its promise -/
theorem fnPen_of {cls : Nat → Addr} {flds : Nat → List Str} {T : List (Addr × Str)} {x : Str} {st : Stmt} {f : Addr} {fd : FuncData} {N : List Str} {p0 : Str} {k : Nat} {m1 m2 : MS Unit} {s1 s2 s3 : Stmt} (Fu : Fun K x x st f fd) (Sc : FnScope N [p0] (defScope st)) (hb : defBody st = [s1, s2, s3]) (hm : keepsPen (seqS m1 m2) (N.length - 1))
    (hbody : ∀ {cd : Value} {A : Around} {outer : List PySem.Env} {s : Shared} {H : Hp} {E : XK} {B : En}, XO (cxD P w K mg base N x st f cd A outer s H E) (⟨mkDC K cls flds T none, SI.pure, B, fun cls dd _ H' => E cls dd H'⟩ : Ct Unit) k →
      PS (cxD P w K mg base N x st f cd A outer s H E) s1 (tS (⟨mkDC K cls flds T none, SI.pure, B, fun cls dd _ H' => E cls dd H'⟩ : Ct Unit) m1) ∧ PS (cxD P w K mg base N x st f cd A outer s H E) s2 (tS (⟨mkDC K cls flds T none, SI.pure, B, fun cls dd _ H' => E cls dd H'⟩ : Ct Unit) m2) ∧
      PS (cxD P w K mg base N x st f cd A outer s H E) s3 (tPenRet (⟨mkDC K cls flds T none, SI.pure, B, fun cls dd _ H' => E cls dd H'⟩ : Ct Unit))) :
    FnD P w K mg base (k + 1) f fd [p0] (spPen (mkDC K cls flds T none)) := by
  obtain ⟨oc, od, kV, doc, pm, an, cdv, ct, osl, rfl, lk, hcd⟩ := Fu.ex
  refine ⟨fun {vs H Q E} h => by obtain ⟨_, _, _, e, _⟩ := h; rw [e]; rfl, fun {A outer s H args us vs Q E} hr hg e0 hbd r h => ?_⟩
  have hl : vs.length = ([p0] : List Str).length := by obtain ⟨_, _, _, e, _⟩ := h; rw [e]; rfl
  refine LamX.run_ofS (N := N) (ps := [p0]) lk hcd Sc hr e0 hbd r hl fun hr' => ?_
  obtain ⟨F, cells, l0, rfl, hs, nt, ht, hS, hq⟩ := h
  have xo : XO (cxD P w K mg base N x st f cdv A outer s H E) (⟨mkDC K cls flds T none, SI.pure, ⟨F, H, fun _ => False, none⟩, fun cls dd _ H' => E cls dd H'⟩ : Ct Unit) k := ⟨rfl, hr', guards_deeper hg, takes_of rfl rfl rfl rfl, rfl, passes_of (K := fun e s'' => L2.CX P w outer H s E e s'') rfl⟩
  obtain ⟨b1, b2, b3⟩ := hbody xo
  refine ⟨tPenBody (⟨mkDC K cls flds T none, SI.pure, ⟨F, H, fun _ => False, none⟩, fun cls dd _ H' => E cls dd H'⟩ : Ct Unit) (seqS m1 m2), ?_, F, .d (.lst (cells.map .int)) :: List.replicate (N.length - 1) .no, ?_, ?_⟩
  · rw [hb]
    exact pen_three b1 b2 b3
  · have T0 := Stt.start (C := mkDC K cls flds T none) (I := SI.pure) (s := ()) (me := none) (ex := fun _ => False) (k := N.length - 1) (ds := [.lst (cells.map .int)]) (vs := [.ref l0]) hs nt trivial ht (Reps.one ⟨l0, _, rfl, hS, Reps.ints⟩) fun a z => z
    exact T0
  · obtain ⟨env', e1, e2, e3⟩ := hm cells
    rw [e1]
    exact fun σ' F' H' e U => ⟨F', env', U, cells, foldOf cells, e2, e3, fun F2 H2 a l e4 U2 na fa ha hl => hq F2 H2 a l U2.drop (by
      cases q : H a with
      | none => rfl
      | some o => exact absurd na (U.al a (by show H a ≠ none; rw [q]; simp))) fa ha hl⟩
end
end DL
set_option Elab.async false
set_option linter.all false
set_option maxRecDepth 100000
set_option maxHeartbeats 2000000
namespace DL
open PySem PySem.Spec PyProof.Rows L2
/-- the maker of the pen, by its name -/
structure GPen (P : Program) (w : World) (K : PySem.W.Frag) (mg : Str → Option Value) (base : Heap) (C : DC) (k : Nat) (x : Str) : Prop where
  ex : ∃ (f : Addr) (fd : FuncData) (p0 : Str), FnD P w K mg base k f fd [p0] (spPen C) ∧ mg x = some (.ref f) ∧ PySem.W.keepIn K (.ref f) = true ∧ Binds K fd [p0] []
/-- a law's promise: true -/
def spLaw (K : PySem.W.Frag) (T : List (Addr × Str)) (good : List Int → Prop) : Sp := fun vs H Q _ => ∃ F cells l0, vs = [.ref l0] ∧ Same F H ∧ NoTbl F ∧ LamX.Tabs T H ∧ SqL K F l0 (cells.map V.int) ∧ good cells ∧ ∀ H', Q (.bl true) H'
/-- a def whose code object is known -/
structure FunA (K : PySem.W.Frag) (x qual : Str) (st : Stmt) (cd : Value) (f : Addr) (fd : FuncData) : Prop where
  ex : ∃ (oc : Value) (od : Option Addr) (kV doc pm : Value) (an : Option Addr) (ct : Value) (osl : Array (Option Value)),
    fd = PySem.W.fnOf x qual (defArgs st) (defBody st) (defScope st) .none kV doc pm an cd ct ∧ K.lookup f = some ⟨oc, od, .func fd, osl⟩ ∧ PySem.W.codeIn K cd qual = true
/-- what a law's body must come to -/
def lawTrue (n i : Nat) (m : MS Pen) (cells : List Int) : Prop := ∃ s', m ((Slot.d (.lst (cells.map .int)) :: List.replicate n .no).set i (.d .st)) (pen0 cells) = .ok (.rt (.bl true), s')
section
variable {P : Program} {w : World} {K : PySem.W.Frag} {mg : Str → Option Value} {base : Heap}
theorem fnLaw_of {cls : Nat → Addr} {flds : Nat → List Str} {T : List (Addr × Str)} {x xp : Str} {st : Stmt} {f : Addr} {fd : FuncData} {N : List Str} {cd : Value} {p0 y : Str} {k kp i : Nat} {m : MS Pen} {rest : List Stmt} {pa pb pc pd pe : Pos} {good : List Int → Prop}
    (Fu : FunA K x x st cd f fd) (Sc : FnScope N [p0] (defScope st)) (hb : defBody st = .Assign [.Name y pa] (.Call (.Name xp pb) [.Name p0 pc] [] pd) pe :: rest) (G : GPen P w K mg base (mkDC K cls flds T none) kp xp) (hkp : kp ≤ k) (hm : ∀ cells, good cells → lawTrue (N.length - 1) i m cells)
    (hy : N[i]? = some y) (hyl : (defScope st).names.lookup y = some .local) (hg1 : (defScope st).names.lookup xp = some .globalImplicit) (h0 : N[0]? = some p0) (hl0 : (defScope st).names.lookup p0 = some .local) (d1 : (xp == ("__debug__" : Str)) = false) (d2 : (p0 == ("__debug__" : Str)) = false) (d3 : (p0 == ("__classdict__" : Str)) = false)
    (hbody : ∀ {A : Around} {outer : List PySem.Env} {s : Shared} {H : Hp} {E : XK} {so : Option Addr} {B : En}, XO (cxD P w K mg base N x st f cd A outer s H E) (⟨mkDC K cls flds T so, penJ K so, B, fun cls dd _ H' => E cls dd H'⟩ : Ct Pen) k →
      PSs (cxD P w K mg base N x st f cd A outer s H E) rest (tS (⟨mkDC K cls flds T so, penJ K so, B, fun cls dd _ H' => E cls dd H'⟩ : Ct Pen) m)) :
    FnD P w K mg base (k + 1) f fd [p0] (spLaw K T good) := by
  obtain ⟨oc, od, kV, doc, pm, an, ct, osl, rfl, lk, hcd⟩ := Fu.ex
  refine ⟨fun {vs H Q E} h => by obtain ⟨_, _, _, e, _⟩ := h; rw [e]; rfl, fun {A outer s H args us vs Q E} hr hg e0 hbd r h => ?_⟩
  have hl : vs.length = ([p0] : List Str).length := by obtain ⟨_, _, _, e, _⟩ := h; rw [e]; rfl
  refine LamX.run_ofS (N := N) (ps := [p0]) lk hcd Sc hr e0 hbd r hl fun hr' => ?_
  obtain ⟨F, cells, l0, rfl, hs, nt, ht, hS, hgood, hq⟩ := h
  have xo : ∀ so B, XO (cxD P w K mg base N x st f cd A outer s H E) (⟨mkDC K cls flds T so, penJ K so, B, fun cls dd _ H' => E cls dd H'⟩ : Ct Pen) k := fun so B => ⟨rfl, hr', guards_deeper hg, takes_of rfl rfl rfl rfl, rfl, passes_of (K := fun e s'' => L2.CX P w outer H s E e s'') rfl⟩
  have restR : PSs (cxD P w K mg base N x st f cd A outer s H E) rest (fun De σ H' => ∃ so B, tS (⟨mkDC K cls flds T so, penJ K so, B, fun cls dd _ H' => E cls dd H'⟩ : Ct Pen) m De σ H') := ⟨fun pins s2 σ H2 D I ⟨so, B, q⟩ => (hbody (xo so B)).run pins s2 σ H2 D I q⟩
  obtain ⟨fp, fdp, p1, Dp, hmp, hkpp, bp⟩ := G.ex
  have call : PE (cxD P w K mg base N x st f cd A outer s H E) (.Call (.Name xp pb) [.Name p0 pc] [] pd) (fun σ H2 Q2 => ∃ v, σ[0]? = some (some v) ∧ spPen (mkDC K cls flds T none) [v] H2 Q2 fun cls dd H' => E cls dd H') := by
    refine ⟨fun pins s2 σ H2 Q2 I h => ?_⟩
    obtain ⟨v, e1, e2⟩ := h
    refine wpAny_Call_Name_kw (ld_glob I hg1 hmp ?_ d1)
    refine PySem.W.callWith_K (h₀ := base) I.ok.mod.kin hkpp (thn ((L2.pa_cons (pe_var (i := 0) h0 (.inl hl0) d2 d3) L2.pa_nil).run pd pins s2 σ H2 (fun vs H3 => spPen (mkDC K cls flds T none) vs H3 Q2 fun cls dd H' => E cls dd H') I ⟨v, e1, e2⟩) fun us s3 ⟨vs, H3, I3, r3, q3⟩ => ⟨I3.kIn, ?_⟩) rfl rfl
    exact Dp.call (c := (⟨mkDC K cls flds T none, penJ K none, ⟨F, H, fun _ => False, none⟩, fun cls dd _ H' => E cls dd H'⟩ : Ct Pen)) (xo none _) hkp bp .nil I3 r3 (by rw [List.append_nil]; exact q3)
  have first := ps_set (X := cxD P w K mg base N x st f cd A outer s H E) (i := i) Sc.nd hy (.inl hyl) call (pos' := pa) (pos := pe) (by rfl) (.inl rfl)
  have body := pss_cons first restR
  rw [← hb] at body
  refine ⟨_, body, .ref l0, by first | rfl | simp [L2.start], F, cells, l0, rfl, hs, nt, ht, hS, fun F' H' a l U na fa ha hl => ?_⟩
  have rep : Rep (mkDC K cls flds T (some a)) F' (.lst (cells.map .int)) (.ref l0) := ⟨l0, _, rfl, U.f0.seq hS, Reps.ints⟩
  have T0 := Stt.start (C := mkDC K cls flds T (some a)) (I := penI K a) (s := pen0 cells) (me := none) (ex := fun b => b = a) (k := N.length - 1) (ds := [.lst (cells.map .int)]) (vs := [.ref l0]) U.sub U.nt ⟨fa, l, ha, hl⟩ U.tb (Reps.one rep) fun a z => z
  have T1 := T0.setD (i := i) (d := .st) (v := .ref a) ⟨a, rfl, rfl⟩
  obtain ⟨s', e⟩ := hm cells hgood
  refine ⟨some a, ⟨F', H', fun b => b = a, none⟩, F', _, pen0 cells, T1, ?_⟩
  have e : m (([D.lst (cells.map .int)].map Slot.d ++ List.replicate (N.length - 1) Slot.no).set i (.d .st)) (pen0 cells) = .ok (.rt (.bl true), s') := e
  rw [e]
  exact fun v σ' env' F2 H2 e2 T2 rv => by
    cases rep_bl rv
    exact hq H2
end
section
/-- what is known of the law's promise at the head's heap h -/
def LawD (l : PySem.W.OpenLaw) (w : World) (K : PySem.W.Frag) (k : Nat) (x : Str) (mg : Str → Option Value) (fa : Addr) (h : Heap) (good : List Int → Prop) : Prop :=
  ∃ (fd : FuncData) (cs : List (Addr × Addr)) (T : List (Addr × Str)), (∀ p ∈ cs, h.get? p.2 = some { cls := .none, data := .fields #[] }) ∧ (∀ p ∈ cs, K.lookup p.2 = none) ∧ (∀ p ∈ cs, PySem.W.CodeHd h p.1 p.2) ∧ (∀ q ∈ T, ∃ p ∈ cs, p.2 = q.1) ∧
    (∀ (s : Shared) (u : Value), BindsTo s fd ⟨[u], []⟩ [(x, u)]) ∧ ∀ base : Heap, K.In base → base.Ns mainGlobals mg → (∀ p ∈ cs, LamX.TabB base mg p.1 p.2) → FnD l.prog w K mg base k fa fd [x] (spLaw K T good)
theorem law_end {P : Program} {w : World} {K : PySem.W.Frag} {mg mb : Str → Option Value} {k : Nat} {fa a : Addr} {cs : List (Addr × Addr)} {T : List (Addr × Str)} {fd : FuncData} {x : Str} {s₁ : Shared} {vs : List Value} {ns : List Int} {good : List Int → Prop}
    (KX : K.In s₁.heap) (hns : s₁.heap.Ns mainGlobals mg) (hb : s₁.heap.Ns builtinsNs mb) (hbb : ∀ x : Str, x ≠ "__name__" → mb x = bootBuiltins x) (hlim : s₁.heap.NoLimit) (hgn : s₁.gens = #[])
    (hT : ∀ p ∈ cs, s₁.heap.get? p.2 = some { cls := .none, data := .fields #[] }) (nT : ∀ p ∈ cs, K.lookup p.2 = none) (hC : ∀ p ∈ cs, PySem.W.CodeHd s₁.heap p.1 p.2) (hTc : ∀ q ∈ T, ∃ p ∈ cs, p.2 = q.1)
    (hbm : ∃ (bm : Addr) (ob : Obj), mg "__builtins__" = some (.ref bm) ∧ bm ≠ builtinsNs ∧ s₁.heap.get? bm = some ob ∧ ob.cls = .type "module" ∧ ob.dict = some builtinsNs ∧ ob.data = .plain)
    (ha : s₁.heap.get? a = some { cls := .type "list", data := .seq vs.toArray }) (hi : IntsAre vs ns) (hl : ns.length ≤ sizeLine) (hr : Room k callerA) (hgood : good ns)
    (F : ∀ base : Heap, K.In base → base.Ns mainGlobals mg → (∀ p ∈ cs, LamX.TabB base mg p.1 p.2) → FnD P w K mg base k fa fd [x] (spLaw K T good)) (hbind : ∀ (s : Shared) (u : Value), BindsTo s fd ⟨[u], []⟩ [(x, u)]) :
    codeAny (model P w) callerA (.call (.ref fa) ⟨[.ref a], []⟩) (fun r s' => r = .ok (.ret (.bool true)) ∧ OldK s₁.heap s'.heap ∧ s'.os = s₁.os ∧ AllBare s'.gens) s₁ := by
  have rv := vals_ints hi
  have lenV := hi.length
  let tb : Addr → Bool := fun b => decide (b ∈ cs.map (·.2))
  have isT : ∀ b : Addr, tb b = true → s₁.heap.get? b = some { cls := .none, data := .fields #[] } := fun b hb => by
    obtain ⟨p, hp, e⟩ := List.mem_map.mp (of_decide_eq_true hb)
    rw [← e]; exact hT p hp
  have memT : ∀ p ∈ cs, tb p.2 = true := fun p hp => decide_eq_true (List.mem_map.mpr ⟨p, hp, rfl⟩)
  have aT : tb a = false := by
    cases z : tb a with
    | false => rfl
    | true =>
      have q := isT a z
      rw [ha] at q
      cases (show Data.seq vs.toArray _ = Data.fields #[] from congrArg Obj.data (Option.some.inj q))
  -- the script is tracked where the written part does not know it
  let scr : Addr → Bool := fun b => decide (b = a) && (K.lookup a).isNone
  let H : Hp := fun b => if scr b = true then some (.frz { cls := .type "list", data := .seq vs.toArray } (.lst (ns.map V.int))) else if tb b = true then some (.tbl #[]) else none
  let F0 : Hp := fun b => if scr b = true then some (.frz { cls := .type "list", data := .seq vs.toArray } (.lst (ns.map V.int))) else none
  have scrA : ∀ b, scr b = true → b = a ∧ K.lookup a = none := fun b h => by
    obtain ⟨h1, h2⟩ := Bool.and_eq_true_iff.mp h
    exact ⟨of_decide_eq_true h1, Option.isNone_iff_eq_none.mp h2⟩
  have Hs : ∀ b, scr b = true → H b = some (.frz { cls := .type "list", data := .seq vs.toArray } (.lst (ns.map V.int))) := fun b h => if_pos h
  have Ht : ∀ b, tb b = true → H b = some (.tbl #[]) := fun b h => by
    have n : ¬ scr b = true := fun z => by rw [(scrA b z).1, aT] at h; cases h
    exact (if_neg n).trans (if_pos h)
  have Hn : ∀ b, ¬ scr b = true → ¬ tb b = true → H b = none := fun b h1 h2 => (if_neg h1).trans (if_neg h2)
  have cases3 : ∀ b o, H b = some o → (scr b = true ∧ o = .frz { cls := .type "list", data := .seq vs.toArray } (.lst (ns.map V.int))) ∨ (tb b = true ∧ o = .tbl #[]) := fun b o e => by
    by_cases h1 : scr b = true
    · rw [Hs b h1] at e; cases e; exact .inl ⟨h1, rfl⟩
    · by_cases h2 : tb b = true
      · rw [Ht b h2] at e; cases e; exact .inr ⟨h2, rfl⟩
      · rw [Hn b h1 h2] at e; cases e
  have hS : SqL K F0 a (ns.map V.int) := by
    cases hk : K.lookup a with
    | some o =>
      have e := KX a o hk
      rw [ha] at e; cases e
      exact .inr ⟨_, vs.toArray, _, hk, rfl, rfl, rfl, by rw [List.size_toArray, lenV]; exact hl, by simpa using rv⟩
    | none => exact .inl (.inr ⟨{ cls := .type "list", data := .seq vs.toArray }, if_pos (by show (decide (a = a) && (K.lookup a).isNone) = true; rw [hk]; simp)⟩)
  have hok : HOk P w H s₁.heap := fun b o e => by
    rcases cases3 b o e with ⟨h1, rfl⟩ | ⟨h1, rfl⟩
    · obtain ⟨rfl, _⟩ := scrA b h1
      exact ⟨ha, by rw [List.length_map]; exact hl, vs, _, rv, ha⟩
    · exact isT b h1
  have low : ∀ {b : Addr} {o : Obj}, s₁.heap.get? b = some o → (∀ vs n, o.data ≠ .seq vs n) → o.data ≠ .fields #[] → H b = none := fun {b o} e n1 n2 => by
    refine Hn b (fun z => ?_) fun z => ?_
    · rw [(scrA b z).1, ha] at e; cases e; exact n1 _ _ rfl
    · rw [isT b z] at e; cases e; exact n2 rfl
  have lowD : ∀ {b : Addr} {o : Obj} {es : Array DictEntry} {ep : Nat}, s₁.heap.get? b = some o → o.data = .dict es ep → H b = none := fun {b o es ep} e d => low e (fun vs n z => by rw [d] at z; cases z) fun z => by rw [d] at z; cases z
  have nsH : ∀ {b : Addr} {m : Str → Option Value}, s₁.heap.Ns b m → (hidT s₁.heap H).Ns b m := fun {b m} ⟨o, es, ep, e, d, r⟩ => ⟨o, es, ep, hidT_get e (lowD e d), d, r⟩
  have hKb : K.In (hidT s₁.heap H) := fun b o e => hidT_get (KX b o e) (Hn b (fun z => by obtain ⟨rfl, h⟩ := scrA b z; rw [h] at e; cases e) fun z => by
    obtain ⟨p, hp, ep⟩ := List.mem_map.mp (of_decide_eq_true z)
    rw [← ep, nT p hp] at e; cases e)
  have hM : L2.Mod K mg (hidT s₁.heap H) := ⟨hKb, nsH hns, ⟨mb, nsH hb, hbb⟩, let ⟨mc, h1, h2⟩ := hlim; ⟨mc, nsH h1, h2⟩⟩
  have TB : ∀ p ∈ cs, LamX.TabB (hidT s₁.heap H) mg p.1 p.2 := fun p hp => by
    have hTp := hT p hp
    refine ⟨?_, ?_, fun z => ?_⟩
    · obtain ⟨o, us, file, tf, flags, tg, inF, text, tt, e1, r1, r2, r3, r4⟩ := hC p hp
      exact ⟨o, us, file, tf, flags, tg, inF, text, tt, hidT_get e1 (low e1 (fun vs n z => by rw [r2] at z; cases z) fun z => by rw [r2] at z; cases z; simp at r3), r1, r2, r3, r4⟩
    · obtain ⟨bm, ob, b1, b2, b3, b4, b5, b6⟩ := hbm
      have nG : bm ≠ mainGlobals := fun q => by
        obtain ⟨o, es, ep, e, hd, _⟩ := hns
        rw [q, e] at b3; cases b3
        rw [hd] at b6; cases b6
      have nP : bm ≠ p.2 := fun q => by rw [q, hTp] at b3; cases b3; cases b6
      exact ⟨bm, ob, b1, b2, nG, nP, hidT_get b3 (low b3 (fun vs n z => by rw [b6] at z; cases z) fun z => by rw [b6] at z; cases z), b4, b5, b6⟩
    · obtain ⟨o, es, ep, e, hd, _⟩ := hns
      rw [z, hTp] at e; cases e; cases hd
  have e0 : Env0 P w K mg (hidT s₁.heap H) callerA [] s₁ H := ⟨rfl, hM, fun b o e => of_hidT e, Nat.le_of_eq (hidT_size _ _), trivial, fun b hb => absurd (show b ∈ ([] : List Addr) from hb) (by simp), hok, .of_eq hgn⟩
  have sub : Same F0 H := fun b o e => by
    by_cases h1 : scr b = true
    · rw [Hs b h1, ← e]; exact (if_pos h1).symm
    · have e' : (none : Option HO) = some o := (if_neg h1).symm.trans e
      cases e'
  have ntF : NoTbl F0 := fun b ps e => by
    by_cases h1 : scr b = true
    · have z := (if_pos h1).symm.trans e; cases z
    · have z : (none : Option HO) = some _ := (if_neg h1).symm.trans e
      cases z
  have tabs : LamX.Tabs T H := fun q hq => by
    obtain ⟨p, hp, e⟩ := hTc q hq
    exact LamX.TabS.nil (by rw [← e]; exact Ht _ (memT p hp))
  refine codeAny_mono ((F _ hKb (nsH hns) TB).goes (A := callerA) (outer := []) (s := s₁) (H := H) (args := ⟨[.ref a], []⟩) (us := [.ref a]) (vs := [.ref a]) (Q := fun v _ => v = .bl true) (E := fun _ _ _ => False) hr rfl e0 (hbind s₁ (.ref a)) (.cons rfl .nil) ⟨F0, ns, a, rfl, sub, ntF, tabs, hS, hgood, fun _ => rfl⟩) fun r s' h => ?_
  cases r with
  | error e =>
    obtain ⟨_, _, _, _, _, _, _, _, _, _, _, _, z⟩ := h
    exact z.elim
  | ok fl =>
    cases fl with
    | next => exact False.elim h
    | brk => exact False.elim h
    | cont => exact False.elim h
    | ret u =>
      obtain ⟨v, H', os, bare, un, hok', r', q⟩ := h
      have q' : v = .bl true := q
      subst q'
      obtain rfl : u = Value.bool true := r'
      have keyN : ∀ b o, ¬ tb b = true → s₁.heap.get? b = some o → s'.heap.get? b = some o := fun b o nb e => by
        by_cases h1 : scr b = true
        · have z1 := hok b _ (Hs b h1)
          have z2 := hok' b _ (un.frzs b _ _ (Hs b h1))
          obtain ⟨e1, _⟩ := z1
          obtain ⟨e2, _⟩ := z2
          rw [e] at e1; cases e1
          exact e2
        · exact un.keep b o e (Hn b h1 nb) (fun z => absurd (show b ∈ ([] : List Addr) from z) (by simp)) (by simp)
      have grown : ∀ p ∈ cs, ∃ more : Array Value, s'.heap.get? p.2 = some { cls := .none, data := .fields more } := fun p hp => by
        obtain ⟨more, z⟩ := un.tbls p.2 #[] (Ht _ (memT p hp))
        exact ⟨_, hok' p.2 _ z⟩
      refine ⟨rfl, ⟨fun b o e => ?_, fun b o e => ?_⟩, os, bare⟩
      · by_cases hb2 : tb b = true
        · obtain ⟨p, hp, ep⟩ := List.mem_map.mp (of_decide_eq_true hb2)
          obtain ⟨more, hm⟩ := grown p hp
          rw [← ep] at e ⊢
          rw [hT p hp] at e
          cases e
          exact .inr (.inl ⟨((hC p hp).tab (hT p hp)).isCodeTable, rfl, #[], more, rfl, by rw [Array.empty_append]; exact hm⟩)
        · exact .inl (keyN b o hb2 e)
      · by_cases hb2 : tb b = true
        · obtain ⟨p, hp, ep⟩ := List.mem_map.mp (of_decide_eq_true hb2)
          obtain ⟨more, hm⟩ := grown p hp
          rw [← ep]
          exact ⟨_, hm⟩
        · exact ⟨o, keyN b o hb2 e⟩
/-- the row's walk, by the law's promise -/
theorem walk_law {l : PySem.W.OpenLaw} {n k : Nat} {q : Program} {loose : List Str} {XP : (Str → Option Value) → Heap → Prop} {YP : World → Heap → Prop} {d : DefRec} {K : Params → PySem.W.Frag} {x : Str} {good : List Int → Prop}
    (hn : l.most = some n) (hn2 : n ≤ sizeLine) (hdf : d.params.defaults = []) (hr : Room k callerA) (hgood : ∀ ns : List Int, ns.length ≤ n → (∀ z ∈ ns, Builtin.Int.intBits z ≤ 1048576) → good ns) (hY : ∀ (w : World) (h : Heap), YP w h → (K w.params).In h)
    (F : ∀ (w : World) (mg : Str → Option Value) (fa : Addr) (h : Heap), YP w h → (K w.params).In h → h.Ns mainGlobals mg → mg d.name = some (.ref fa) → LawD l w (K w.params) k x mg fa h good) :
    PySem.W.WalkO q loose XP YP l.row.toRowW d [] (fun f vs => PySem.call f vs) := by
  refine Att.attach_callB hn hdf fun w s₀ s₁ mg mb fa o pm cd doc a vs ns G Y ho hd hcd hmg hobj hints hlen hbits hg => ?_
  have KX := hY w _ Y
  obtain ⟨fd, cs, T, hT, nT, C, hTc, hb, hF⟩ := F w mg fa _ Y KX G.T.g hmg
  exact law_end KX G.T.g G.T.b G.T.builtins G.T.nolimit hg hT nT C hTc G.T.bmain hobj hints (Nat.le_trans hlen hn2) hr (hgood ns hlen hbits) hF hb
end
end DL
set_option Elab.async false
set_option linter.all false
set_option maxRecDepth 100000
namespace DL
open PySem PySem.Spec PyProof.Rows L2
section
variable {S : Type} {c : Ct S} {X : Cx} {a b e o : Expr} {pos : Pos} {ma mb : M S D}
def inD : D → D → Option D
  | .str x, .str y => match x.cps.toList with
    | [k] => some (.bl (decide (k ∈ y.cps.toList)))
    | _ => none
  | _, _ => none
def notInD (x y : D) : Option D := match inD x y with
  | some (.bl b) => some (.bl (!b))
  | _ => none
theorem str_one {x : Str} {k : Nat} (h : x.cps.toList = [k]) : x = ⟨#[k]⟩ := by
  obtain ⟨cps⟩ := x
  congr
  apply Array.toList_inj.mp
  simpa using h
theorem inD_str {x y d : D} (h : inD x y = some d) : ∃ u w b, x = .str u ∧ y = .str w ∧ d = .bl b ∧ (!(Builtin.Str.occurrences w u 0 w.length 1).isEmpty) = b := by
  unfold inD at h
  split at h
  · split at h
    · rename_i u w k hk
      cases h
      refine ⟨_, _, _, rfl, rfl, rfl, ?_⟩
      rw [str_one hk]
      exact PySem.StrLaws.found_one _ k
    · cases h
  · cases h
theorem d_in (ha : PE X a (tM c ma)) (hb : PE X b (tM c mb)) (hm : behindInMarks .In b = false := by rfl) : PE X (.Compare a [.In] [b] pos) (tM c (m2 inD ma mb)) :=
  d_cmp op_in_str (Op2.flat fun F x y dx dy d rx ry e => by
    obtain ⟨u, w, k, rfl, rfl, rfl, h⟩ := inD_str e
    cases rep_str rx; cases rep_str ry
    exact ⟨_, fun _ => rfl, fun H Q q => ⟨_, _, rfl, rfl, by rw [h]; exact q⟩⟩) ha hb hm
theorem d_notin (ha : PE X a (tM c ma)) (hb : PE X b (tM c mb)) (hm : behindInMarks .NotIn b = false := by rfl) : PE X (.Compare a [.NotIn] [b] pos) (tM c (m2 notInD ma mb)) :=
  d_cmp L2.op_notIn_str (Op2.flat fun F x y dx dy d rx ry e => by
    unfold notInD at e
    cases z : inD dx dy with
    | none => rw [z] at e; cases e
    | some d2 =>
      obtain ⟨u, w, k, rfl, rfl, rfl, h⟩ := inD_str z
      rw [z] at e
      cases e
      cases rep_str rx; cases rep_str ry
      exact ⟨_, fun _ => rfl, fun H Q q => ⟨_, _, rfl, rfl, by rw [h]; exact q⟩⟩) ha hb hm
end
end DL
set_option Elab.async false
set_option linter.all false
set_option maxRecDepth 100000
namespace DL
open PySem PySem.Spec PyProof.Rows L2
section
variable {S : Type} {c : Ct S} {X : Cx} {a b e o : Expr} {pos : Pos} {ma mb : M S D}
theorem tT_op2 {r : R2} {f : D → D → Option D} (h2 : Op2 c r f) (hf : ∀ x y d, f x y = some d → ∃ b, d = .bl b) {σ : L2.St} {H : Hp} {Q : Bool → Hp → Prop} (h : tT c (truM (m2 f ma mb)) σ H Q) : tOp r (tM c ma) (tM c mb) σ H fun x H' => ∃ k, x = .bl k ∧ Q k H' := by
  obtain ⟨F, env, s, T, h⟩ := h
  refine ⟨F, env, s, T, h.bind.bind.imp fun dx s1 F1 H1 e1 T1 q x rx => ?_⟩
  refine ⟨F1, env, s1, T1, q.bind.imp fun dy s2 F2 H2 e2 T2 q2 y ry => ?_⟩
  obtain ⟨d, e, q3⟩ := q2.opt T2
  obtain ⟨b, rfl⟩ := hf dx dy d e
  refine h2 σ F2 H2 env s2 x y dx dy _ _ T2 (rx.mono e2) ry e fun F' H' v e' T' rv => ?_
  have q4 := q3 F' H' e' T'
  obtain ⟨k, ek, q5⟩ := q4.opt T'
  cases ek
  exact ⟨b, rep_bl rv, q5 F' H' (Same.refl _) T'⟩
theorem t_cmpR {op : CmpOp} {r : R2} {f : D → D → Option D} (ho : OpR X (compareOp op) r) (h2 : Op2 c r f) (hf : ∀ x y d, f x y = some d → ∃ b, d = .bl b) (ha : PE X a (tM c ma)) (hb : PE X b (tM c mb)) (hm : behindInMarks op b = false) : PT X (.Compare a [op] [b] pos) (tT c (truM (m2 f ma mb))) :=
  PTimp (pt_cmpR ho ha hb hm) fun σ H Q h => tT_op2 h2 hf h
theorem eqD_bl (x y d : D) (h : eqD x y = some d) : ∃ b, d = .bl b := by
  unfold eqD at h
  cases z : eqvD x y with
  | none => rw [z] at h; cases h
  | some b => rw [z] at h; cases h; exact ⟨_, rfl⟩
theorem neD_bl (x y d : D) (h : neD x y = some d) : ∃ b, d = .bl b := by
  unfold neD at h
  cases z : eqvD x y with
  | none => rw [z] at h; cases h
  | some b => rw [z] at h; cases h; exact ⟨_, rfl⟩
theorem inD_bl (x y d : D) (h : inD x y = some d) : ∃ b, d = .bl b := by
  obtain ⟨_, _, b, _, _, rfl, _⟩ := inD_str h
  exact ⟨b, rfl⟩
theorem notInD_bl (x y d : D) (h : notInD x y = some d) : ∃ b, d = .bl b := by
  unfold notInD at h
  split at h
  · cases h; exact ⟨_, rfl⟩
  · cases h
theorem t_eq (hk : c.C.K = X.K) (hu : X.A.units + 64 < cLine) (ha : PE X a (tM c ma)) (hb : PE X b (tM c mb)) : PT X (.Compare a [.Eq] [b] pos) (tT c (truM (m2 eqD ma mb))) := t_cmpR (op_eqD hu) (hk ▸ op2_eq) eqD_bl ha hb (nomark _)
theorem t_ne (hk : c.C.K = X.K) (hu : X.A.units + 64 < cLine) (ha : PE X a (tM c ma)) (hb : PE X b (tM c mb)) : PT X (.Compare a [.NotEq] [b] pos) (tT c (truM (m2 neD ma mb))) := t_cmpR (op_neD hu) (hk ▸ op2_ne) neD_bl ha hb (nomark _)
theorem op2_in : Op2 c (fun x y H Q => ∃ i j, x = .str i ∧ y = .str j ∧ Q (.bl (!(Builtin.Str.occurrences j i 0 j.length 1).isEmpty)) H) inD := Op2.flat fun F x y dx dy d rx ry e => by
  obtain ⟨u, w, k, rfl, rfl, rfl, h⟩ := inD_str e
  cases rep_str rx; cases rep_str ry
  exact ⟨_, fun _ => rfl, fun H Q q => ⟨_, _, rfl, rfl, by rw [h]; exact q⟩⟩
theorem op2_notIn : Op2 c (fun x y H Q => ∃ i j, x = .str i ∧ y = .str j ∧ Q (.bl (!(!(Builtin.Str.occurrences j i 0 j.length 1).isEmpty))) H) notInD := Op2.flat fun F x y dx dy d rx ry e => by
  unfold notInD at e
  cases z : inD dx dy with
  | none => rw [z] at e; cases e
  | some d2 =>
    obtain ⟨u, w, k, rfl, rfl, rfl, h⟩ := inD_str z
    rw [z] at e; cases e
    cases rep_str rx; cases rep_str ry
    exact ⟨_, fun _ => rfl, fun H Q q => ⟨_, _, rfl, rfl, by rw [h]; exact q⟩⟩
theorem t_in (ha : PE X a (tM c ma)) (hb : PE X b (tM c mb)) (hm : behindInMarks .In b = false := by rfl) : PT X (.Compare a [.In] [b] pos) (tT c (truM (m2 inD ma mb))) := t_cmpR op_in_str op2_in inD_bl ha hb hm
theorem t_notin (ha : PE X a (tM c ma)) (hb : PE X b (tM c mb)) (hm : behindInMarks .NotIn b = false := by rfl) : PT X (.Compare a [.NotIn] [b] pos) (tT c (truM (m2 notInD ma mb))) := t_cmpR L2.op_notIn_str op2_notIn notInD_bl ha hb hm
theorem t_int {op : CmpOp} {p : Int → Int → Bool} {f : D → D → Option D} (ho : ∀ {ta tb : TE}, PE X a ta → PE X b tb → PC X op a b (tCmp p ta tb)) (hf : ∀ x y d, f x y = some d → ∃ i j, x = .int i ∧ y = .int j ∧ d = .bl (p i j))
    (ha : PE X a (tM c ma)) (hb : PE X b (tM c mb)) (hm : behindInMarks op b = false) : PT X (.Compare a [op] [b] pos) (tT c (truM (m2 f ma mb))) := by
  refine PTimp (pt_cmp (ho ha hb) hm) fun σ H Q h => ?_
  have z := tT_op2 (r := fun x y H Q => ∃ i j, x = .int i ∧ y = .int j ∧ Q (.bl (p i j)) H) (Op2.flat fun F x y dx dy d rx ry e => by
    obtain ⟨i, j, rfl, rfl, rfl⟩ := hf dx dy d e
    cases rep_int rx; cases rep_int ry
    exact ⟨_, fun _ => rfl, fun H Q q => ⟨_, _, rfl, rfl, q⟩⟩) (fun x y d e => by obtain ⟨i, j, _, _, rfl⟩ := hf x y d e; exact ⟨_, rfl⟩) h
  exact z
theorem t_lt (ha : PE X a (tM c ma)) (hb : PE X b (tM c mb)) : PT X (.Compare a [.Lt] [b] pos) (tT c (truM (m2 ltD ma mb))) :=
  t_int pc_lt (fun x y d e => by unfold ltD at e; split at e <;> first | (cases e; exact ⟨_, _, rfl, rfl, rfl⟩) | cases e) ha hb (nomark _)
theorem t_le (ha : PE X a (tM c ma)) (hb : PE X b (tM c mb)) : PT X (.Compare a [.LtE] [b] pos) (tT c (truM (m2 leD ma mb))) :=
  t_int pc_le (fun x y d e => by unfold leD at e; split at e <;> first | (cases e; exact ⟨_, _, rfl, rfl, rfl⟩) | cases e) ha hb (nomark _)
theorem t_gt (ha : PE X a (tM c ma)) (hb : PE X b (tM c mb)) : PT X (.Compare a [.Gt] [b] pos) (tT c (truM (m2 gtD ma mb))) :=
  t_int pc_gt (fun x y d e => by unfold gtD at e; split at e <;> first | (cases e; exact ⟨_, _, rfl, rfl, rfl⟩) | cases e) ha hb (nomark _)
theorem t_ge (ha : PE X a (tM c ma)) (hb : PE X b (tM c mb)) : PT X (.Compare a [.GtE] [b] pos) (tT c (truM (m2 geD ma mb))) :=
  t_int pc_ge (fun x y d e => by unfold geD at e; split at e <;> first | (cases e; exact ⟨_, _, rfl, rfl, rfl⟩) | cases e) ha hb (nomark _)
theorem tT_un {r : V → Hp → (Bool → Hp → Prop) → Prop} {f : D → Bool} (k : ∀ F x dx, Rep c.C F dx x → ∀ H (Q : Bool → Hp → Prop), Q (f dx) H → r x H Q) {σ : L2.St} {H : Hp} {Q : Bool → Hp → Prop} (h : tT c (truM (m1 (fun x => some (.bl (f x))) ma)) σ H Q) : tM c ma σ H fun x H1 => r x H1 Q := by
  obtain ⟨F, env, s, T, h⟩ := h
  refine ⟨F, env, s, T, h.bind.bind.imp fun dx s1 F1 H1 e1 T1 q x rx => ?_⟩
  obtain ⟨d, e, q2⟩ := q.opt T1
  cases e
  have q4 := q2 F1 H1 (Same.refl _) T1
  obtain ⟨b, eb, q3⟩ := q4.opt T1
  cases eb
  exact k F1 x dx rx H1 Q (q3 F1 H1 (Same.refl _) T1)
theorem t_isN {j : Nat} {p : Pos} (ha : PE X a (tM c ma)) : PT X (.Compare a [.Is] [.Constant .none j p] pos) (tT c (truM (m1 (fun x => some (.bl (isNon x))) ma))) :=
  PTimp (pt_cmp (pc_isN ha)) fun σ H Q h => tT_un (r := fun x H Q => ∃ d, V.bl (decide (x = .non)) = .bl d ∧ Q d H) (fun F x dx rx H Q q => ⟨_, rfl, by rw [rep_isNon rx]; exact q⟩) h
theorem t_notN {j : Nat} {p : Pos} (ha : PE X a (tM c ma)) : PT X (.Compare a [.IsNot] [.Constant .none j p] pos) (tT c (truM (m1 (fun x => some (.bl (!isNon x))) ma))) :=
  PTimp (pt_cmp (pc_notN ha)) fun σ H Q h => tT_un (f := fun x => !isNon x) (r := fun x H Q => ∃ d, V.bl (!decide (x = .non)) = .bl d ∧ Q d H) (fun F x dx rx H Q q => ⟨_, rfl, by rw [rep_isNon rx]; exact q⟩) h
end
end DL
set_option Elab.async false
set_option linter.all false
set_option maxRecDepth 100000
namespace DL
open PySem PySem.Spec PyProof.Rows L2
def clsBody (s : Stmt) : List Stmt := match s with
  | .ClassDef _ _ _ b _ _ _ _ _ _ _ => b
  | _ => []
/-- the name of a def's lambdas -/
def lamQ (x : Str) : Str := (x ++ ".<locals>.") ++ "<lambda>"
def tupM {S : Type} (ms : M S (List D)) : M S D := bindM ms fun ds => optM (tupD ds)
def lstM {S : Type} (ms : M S (List D)) : M S D := bindM ms fun ds => optM (lstD ds)
def partM {S : Type} (m : M S D) : M S (Option Int) := bindM m fun x => optM (partD x)
theorem tab_hu {T : List (Addr × Str)} {P : Addr} {q : Str} (nd : (T.map (·.1)).Nodup) (hm : (P, q) ∈ T) : ∀ p ∈ T, p.1 = P → p.2 = q := by
  induction T with
  | nil => cases hm
  | cons a T ih =>
    obtain ⟨h1, h2⟩ := List.nodup_cons.mp (show (a.1 :: T.map (·.1)).Nodup from nd)
    intro p hp e
    rcases List.mem_cons.mp hm with e1 | hm
    · rcases List.mem_cons.mp hp with e2 | hp
      · rw [e2, ← e1]
      · exact absurd (List.mem_map_of_mem (f := (·.1)) hp) (by rw [e, ← show a.1 = P by rw [← e1]]; exact h1)
    · rcases List.mem_cons.mp hp with e2 | hp
      · exact absurd (List.mem_map_of_mem (f := (·.1)) hm) (by rw [show (P, q).1 = a.1 by rw [← e2]; exact e.symm]; exact h1)
      · exact ih h2 hm p hp e
/-- which exceptions a clause takes -/
def exT (l : List (Nat × Bool)) (k : Nat) : Option Bool := l.lookup k
def ExL (K : PySem.W.Frag) (cls : Nat → Addr) (v : Value) : List (Nat × Bool) → Prop
  | [] => True
  | (k, b) :: r => PySem.W.exmOne K (.ref (cls k)) v = some b ∧ ExL K cls v r
theorem exT_ok {K : PySem.W.Frag} {cls : Nat → Addr} {v : Value} : ∀ {l : List (Nat × Bool)}, ExL K cls v l → ∀ k b, exT l k = some b → PySem.W.exmOne K (.ref (cls k)) v = some b
  | (k', b') :: r, h, k, b, e => by
    unfold exT at e
    simp only [List.lookup] at e
    split at e
    · rename_i z
      cases e
      rw [beq_iff_eq.mp z]
      exact h.1
    · exact exT_ok h.2 k b e
section
variable {S : Type} {P : Program} {w : World} {K : PySem.W.Frag} {mg : Str → Option Value} {base : Heap} {dc : Option Addr → DC} {J : Option Addr → SI S}
theorem fnDc_of {x qual : Str} {st : Stmt} {cd : Value} {f : Addr} {fd : FuncData} {N ps : List Str} {k : Nat} {mb : MS S} {n : Nat} (Fu : FunA K x qual st cd f fd) (Sc : FnScope N ps (defScope st)) (hK : ∀ so, (dc so).K = K) (hn : ps.length = n)
    (hbody : ∀ {A : Around} {outer : List PySem.Env} {s : Shared} {H : Hp} {E : XK} {so : Option Addr} {B : En}, XO (cxD P w K mg base N qual st f cd A outer s H E) (ctD dc J so B E) k → PSs (cxD P w K mg base N qual st f cd A outer s H E) (defBody st) (tS (ctD dc J so B E) mb)) :
    FnD P w K mg base (k + 1) f fd ps (spD dc J n (runF N.length mb)) := by
  obtain ⟨oc, od, kV, doc, pm, an, ct, osl, rfl, lk, hcd⟩ := Fu.ex
  refine ⟨fun h => h.1.trans hn.symm, fun {A outer s H args us vs Q E} hr hg e0 hb r h => ?_⟩
  refine LamX.run_ofS (N := N) (ps := ps) lk hcd Sc hr e0 hb r (h.1.trans hn.symm) fun hr' => ?_
  obtain ⟨hlen, so, F, ds, s0, hs, nt, hi, ht, hrep, hfin⟩ := h
  refine ⟨_, hbody (so := so) (B := ⟨F, H, (J so).ex, none⟩) (xo_def hK hr' hg), F, ds.map Slot.d ++ List.replicate (N.length - ds.length) Slot.no, s0, ?_, ?_⟩
  · have e : L2.start N vs = vs.map some ++ List.replicate (N.length - ds.length) none := by
      unfold L2.start
      rw [hrep.length]
    rw [e]
    exact Stt.start hs nt hi ht hrep fun _ z => z
  · unfold runF at hfin
    cases z : mb (ds.map Slot.d ++ List.replicate (N.length - ds.length) Slot.no) s0 with
    | bad => rw [z] at hfin; exact hfin
    | exc q fs p =>
      rw [z] at hfin
      exact fun cls dd σ' F' H' e T r => hfin cls dd F' H' e T.drop r
    | ok p =>
      obtain ⟨o, s'⟩ := p
      rw [z] at hfin
      cases o with
      | nx env' => exact fun σ' F' H' e T => hfin F' H' e T.drop .non rfl
      | rt d => exact fun v σ' env' F' H' e T r => hfin F' H' e T.drop v r
      | bk _ => exact hfin.elim
      | ct _ => exact hfin.elim
end
def penM1 : MS Unit := (setS 1 (retM (.int 0)))
def penM2 : MS Unit := (forS (.nm 2) (itM lstOf (mVar 0)) (setS 1 (m2 modD (callM intD (consM (m2 addD (m2 mulD (mVar 1) (retM (.int 47))) (mVar 2)) (retM []))) (retM (.int 1000000007)))))
theorem forLoop_nx {S : Type} {tg : Tg} {mb : MS S} {d : D} {r : List D} {env env1 e : Env} {s s' : S} (h1 : assignT tg d env = some env1) (h2 : mb env1 s = .ok (.nx e, s')) : forLoop tg mb (d :: r) env s = forLoop tg mb r e s' := by
  conv => lhs; unfold forLoop
  rw [h1]
  dsimp only
  rw [h2]
theorem forLoop_rt {S : Type} {tg : Tg} {mb : MS S} {d x : D} {r : List D} {env env1 : Env} {s s' : S} (h1 : assignT tg d env = some env1) (h2 : mb env1 s = .ok (.rt x, s')) : forLoop tg mb (d :: r) env s = .ok (.rt x, s') := by
  conv => lhs; unfold forLoop
  rw [h1]
  dsimp only
  rw [h2]
theorem pen_keeps : keepsPen (seqS penM1 penM2) 2 := fun cells => by
  have loop : ∀ (cs : List Int) (f : Int) (x : Slot), 0 ≤ f → f < 1000000007 → ∃ env', forLoop (.nm 2) (setS 1 (m2 modD (callM intD (consM (m2 addD (m2 mulD (mVar 1) (retM (.int 47))) (mVar 2)) (retM []))) (retM (.int 1000000007)))) (cs.map D.int) [.d (.lst (cells.map .int)), .d (.int f), x] () = .ok (.nx env', ()) ∧ env'[0]? = some (.d (.lst (cells.map .int))) ∧ env'[1]? = some (.d (.int (cs.foldl (fun f c => (f * 47 + c).fmod 1000000007) f))) := by
    intro cs
    induction cs with
    | nil => intro f x h1 h2; exact ⟨_, rfl, rfl, rfl⟩
    | cons z cs ih =>
      intro f x h1 h2
      have hm : mulOk f 47 := by
        have : f.natAbs < 2 ^ 30 := by omega
        have := Nat.log2_lt (by decide : (1 : Nat) ≠ 0) |>.mp (by decide : Nat.log2 1 < 1)
        unfold mulOk
        have h3 : f.natAbs.log2 < 30 ∨ f.natAbs = 0 := by
          by_cases e : f.natAbs = 0
          · exact .inr e
          · exact .inl ((Nat.log2_lt e).mpr (by omega))
        have h4 : (47 : Int).natAbs.log2 ≤ 10 := by decide
        rcases h3 with h3 | h3
        · omega
        · rw [h3]; have : Nat.log2 0 = 0 := by decide
          omega
      obtain ⟨env', e1, e2, e3⟩ := ih ((f * 47 + z).fmod 1000000007) (.d (.int z)) (Int.fmod_nonneg_of_pos _ (by decide)) (Int.fmod_lt_of_pos _ (by decide))
      have hb : (setS 1 (m2 modD (callM intD (consM (m2 addD (m2 mulD (mVar 1) (retM (.int 47))) (mVar 2)) (retM []))) (retM (.int 1000000007))) : MS Unit) [.d (.lst (cells.map .int)), .d (.int f), .d (.int z)] () = .ok (.nx [.d (.lst (cells.map .int)), .d (.int ((f * 47 + z).fmod 1000000007)), .d (.int z)], ()) := by
        simp only [setS, thenS, m2, callM, consM, bindM, mVar, retM, optM, addD, mulD, modD, intD, if_pos hm, List.set_cons_succ, List.set_cons_zero, List.getElem?_cons_succ, List.getElem?_cons_zero]
        rw [if_pos (by decide)]
      refine ⟨env', ?_, e2, e3⟩
      rw [← e1]
      exact forLoop_nx rfl hb
  obtain ⟨env', e1, e2, e3⟩ := loop cells 0 .no (by decide) (by decide)
  exact ⟨env', e1, e2, e3⟩
end DL
set_option Elab.async false
set_option linter.all false
set_option maxRecDepth 100000
namespace DL
open PySem PySem.Spec PyProof.Rows L2
def clsL (l : List Addr) (n : Nat) : Addr := l.getD n 0
theorem funD_of {K : PySem.W.Frag} {x qual : Str} {st : Stmt} {f : Addr} {fd : FuncData} (F : Fun K x qual st f fd) : FunD K x qual (defArgs st) (defBody st) (defScope st) [] [] f fd := by
  obtain ⟨oc, od, kV, doc, pm, an, cdv, ct, osl, rfl, lk, hcd⟩ := F.ex
  exact ⟨⟨oc, od, .none, kV, doc, pm, an, cdv, ct, osl, rfl, lk, hcd, .inl ⟨rfl, rfl⟩, .inl rfl⟩, F.kp⟩
/-- a tuple of defaults -/
theorem funD_dfl {K : PySem.W.Frag} {x qual : Str} {st : Stmt} {f tD : Addr} {oc kV doc pm cdv ct : Value} {od an odT : Option Addr} {osl slT : Array (Option Value)} {cT : Value} {its : Array Value} {nT : Nat} {dvs : List V}
    (l : K.lookup f = some ⟨oc, od, .func (PySem.W.fnOf x qual (defArgs st) (defBody st) (defScope st) (.ref tD) kV doc pm an cdv ct), osl⟩) (hc : PySem.W.codeIn K cdv qual = true) (hk : PySem.W.keepIn K (.ref f) = true) (lt : K.lookup tD = some ⟨cT, odT, .seq its nT, slT⟩) (hv : Vals dvs its.toList) (hne : dvs ≠ []) :
    FunD K x qual (defArgs st) (defBody st) (defScope st) dvs [] f (PySem.W.fnOf x qual (defArgs st) (defBody st) (defScope st) (.ref tD) kV doc pm an cdv ct) :=
  ⟨⟨oc, od, .ref tD, kV, doc, pm, an, cdv, ct, osl, rfl, l, hc, .inr ⟨hne, tD, _, its.toList, nT, rfl, lt, by simp, hv⟩, .inl rfl⟩, hk⟩
theorem funA_mk {K : PySem.W.Frag} {x qual : Str} {st : Stmt} {f : Addr} {oc : Value} {od an : Option Addr} {osl : Array (Option Value)} {kV doc pm cdv ct : Value} (l : K.lookup f = some ⟨oc, od, .func (PySem.W.fnOf x qual (defArgs st) (defBody st) (defScope st) .none kV doc pm an cdv ct), osl⟩)
    (c : PySem.W.codeIn K cdv qual = true) : FunA K x qual st cdv f (PySem.W.fnOf x qual (defArgs st) (defBody st) (defScope st) .none kV doc pm an cdv ct) := ⟨_, _, _, _, _, _, _, _, rfl, l, c⟩
theorem FunA.fun {K : PySem.W.Frag} {x qual : Str} {st : Stmt} {cd : Value} {f : Addr} {fd : FuncData} (F : FunA K x qual st cd f fd) (k : PySem.W.keepIn K (.ref f) = true) : Fun K x qual st f fd := by
  obtain ⟨oc, od, kV, doc, pm, an, ct, osl, rfl, lk, hcd⟩ := F.ex
  exact ⟨⟨oc, od, kV, doc, pm, an, cd, ct, osl, rfl, lk, hcd⟩, k⟩
end DL
set_option Elab.async false
set_option linter.all false
set_option maxRecDepth 100000
set_option maxHeartbeats 1000000
namespace DL
open PySem PySem.Spec PyProof.Rows L2
theorem eqD_int (i j : Int) : eqD (.int i) (.int j) = some (.bl (i == j)) := by
  unfold eqD eqvD toPy
  dsimp only
  rw [if_pos ⟨by simp [PyData.depth], by simp [PyData.depth]⟩]
  rfl
theorem neD_int (i j : Int) : neD (.int i) (.int j) = some (.bl (!(i == j))) := by
  unfold neD eqvD toPy
  dsimp only
  rw [if_pos ⟨by simp [PyData.depth], by simp [PyData.depth]⟩]
  rfl
theorem mulD_ok {i j : Int} (h : mulOk i j) : mulD (.int i) (.int j) = some (.int (i * j)) := by unfold mulD; exact if_pos h
theorem powD_ok {i j : Int} (h : 0 ≤ j ∧ j ≤ 1000000 ∧ i.natAbs < 2 ^ 64) : powD (.int i) (.int j) = some (.int (i ^ j.toNat)) := by unfold powD; exact if_pos h
theorem modD_ok {i j : Int} (h : j ≠ 0) : modD (.int i) (.int j) = some (.int (i.fmod j)) := by unfold modD; exact if_pos h
theorem fdivD_ok {i j : Int} (h : j ≠ 0) (hl : j.natAbs.log2 < 9000) : fdivD (.int i) (.int j) = some (.int (i.fdiv j)) := by unfold fdivD; exact if_pos ⟨h, hl⟩
theorem seqS_nx {S : Type} {m1 m2 : MS S} {env env' : Env} {s s' : S} (h : m1 env s = .ok (.nx env', s')) : seqS m1 m2 env s = m2 env' s' := by unfold seqS; rw [h]
theorem seqS_rt {S : Type} {m1 m2 : MS S} {env : Env} {d : D} {s s' : S} (h : m1 env s = .ok (.rt d, s')) : seqS m1 m2 env s = .ok (.rt d, s') := by unfold seqS; rw [h]
structure PenOk (n : Nat) (p : Pen) : Prop where
  at0 : 0 ≤ p.at_
  dg : 0 ≤ p.digits
  f0 : 0 ≤ p.fold
  f1 : p.fold < 2147483587
  c0 : 0 ≤ p.count
  c1 : p.count ≤ n
theorem PenOk.mono {n m : Nat} {p : Pen} (h : PenOk n p) (k : n ≤ m) : PenOk m p := ⟨h.at0, h.dg, h.f0, h.f1, h.c0, by have := h.c1; omega⟩
theorem pen0_ok (cells : List Int) : PenOk 0 (pen0 cells) := by
  have h : ∀ (cs : List Int) (f : Int), 0 ≤ f → f < 1000000007 → 0 ≤ cs.foldl (fun f c => (f * 47 + c).fmod 1000000007) f ∧ cs.foldl (fun f c => (f * 47 + c).fmod 1000000007) f < 1000000007 := by
    intro cs
    induction cs with
    | nil => intro f h1 h2; exact ⟨h1, h2⟩
    | cons z cs ih => intro f _ _; exact ih _ (Int.fmod_nonneg_of_pos _ (by decide)) (Int.fmod_lt_of_pos _ (by decide))
  obtain ⟨h1, h2⟩ := h cells 0 (by decide) (by decide)
  exact ⟨by show (0 : Int) ≤ 0; decide, by show (0 : Int) ≤ 0; decide, h1, by show foldOf cells < _; have : foldOf cells < 1000000007 := h2; omega, by show (0 : Int) ≤ 0; decide, by show (0 : Int) ≤ 0; decide⟩
theorem log2_small {i : Int} {k : Nat} (h : i.natAbs < 2 ^ k) (hk : 0 < k) : i.natAbs.log2 < k := by
  by_cases e : i.natAbs = 0
  · rw [e]; have : Nat.log2 0 = 0 := by decide
    omega
  · exact (Nat.log2_lt e).mpr h
def drawM : MS Pen :=
    (seqS (penPut 3 (mVar 0) (m2 addD (penGet 3 (mVar 0)) (retM (.int 1))))
    (seqS (ifS (andT (truM (m2 eqD (penGet 2 (mVar 0)) (retM (.int 0)))) (truM (m2 ltD (penGet 1 (mVar 0)) (callM lenD (consM (penGet 0 (mVar 0)) (retM [])))))) (seqS (setS 2 (m2 ixD (penGet 0 (mVar 0)) (penGet 1 (mVar 0))))
    (seqS (penPut 1 (mVar 0) (m2 addD (penGet 1 (mVar 0)) (retM (.int 1))))
    (ifS (truM (m2 geD (mVar 2) (m2 powD (retM (.int 10)) (retM (.int 18))))) (penPut 2 (mVar 0) (m2 subD (mVar 2) (m2 powD (retM (.int 10)) (retM (.int 18))))) (penPut 4 (mVar 0) (m2 modD (callM intD (consM (m2 addD (m2 mulD (penGet 4 (mVar 0)) (retM (.int 69069))) (mVar 2)) (retM []))) (retM (.int 2147483587))))))) nextS)
    (seqS (ifS (truM (m2 gtD (penGet 2 (mVar 0)) (retM (.int 0)))) (seqS (setS 3 (m2 modD (callM intD (consM (penGet 2 (mVar 0)) (retM []))) (mVar 1)))
    (seqS (penPut 2 (mVar 0) (m2 fdivD (penGet 2 (mVar 0)) (mVar 1)))
    (retS (mVar 3)))) nextS)
    (seqS (setS 4 (m2 addD (m2 addD (penGet 4 (mVar 0)) (m2 mulD (penGet 3 (mVar 0)) (retM (.int 7907)))) (retM (.int 37))))
    (retS (m2 modD (m2 fdivD (callM intD (consM (m2 modD (m2 powD (mVar 4) (retM (.int 17))) (retM (.int 2305843009213693951))) (retM []))) (retM (.int 128))) (mVar 1)))))))
theorem atI_int (cells : List Int) {i : Int} (h0 : 0 ≤ i) (h1 : i < (cells.length : Int)) : ∃ z, atI (cells.map D.int) i = some (.int z) := by
  unfold atI ixN
  rw [List.length_map, if_pos h0, if_pos h1]
  have : i.toNat < cells.length := by omega
  exact ⟨cells[i.toNat], by simp [List.getElem?_map, List.getElem?_eq_getElem this]⟩
/-- a cell is read, where there is need -/
theorem draw_cell {n : Nat} {p : Pen} (h : PenOk n p) (many : Int) (x2 x3 x4 : Slot) : ∃ y2 p', (ifS (andT (truM (m2 eqD (penGet 2 (mVar 0)) (retM (.int 0)))) (truM (m2 ltD (penGet 1 (mVar 0)) (callM lenD (consM (penGet 0 (mVar 0)) (retM [])))))) (seqS (setS 2 (m2 ixD (penGet 0 (mVar 0)) (penGet 1 (mVar 0))))
    (seqS (penPut 1 (mVar 0) (m2 addD (penGet 1 (mVar 0)) (retM (.int 1))))
    (ifS (truM (m2 geD (mVar 2) (m2 powD (retM (.int 10)) (retM (.int 18))))) (penPut 2 (mVar 0) (m2 subD (mVar 2) (m2 powD (retM (.int 10)) (retM (.int 18))))) (penPut 4 (mVar 0) (m2 modD (callM intD (consM (m2 addD (m2 mulD (penGet 4 (mVar 0)) (retM (.int 69069))) (mVar 2)) (retM []))) (retM (.int 2147483587))))))) nextS : MS Pen)
    [.d .st, .d (.int many), x2, x3, x4] p = .ok (.nx [.d .st, .d (.int many), y2, x3, x4], p') ∧ PenOk n p' := by
  by_cases hd : p.digits = 0
  · have e1 : (p.digits == 0) = true := by rw [hd]; rfl
    by_cases ha : p.at_ < (p.cells.length : Int)
    · obtain ⟨z, hz⟩ := atI_int p.cells h.at0 ha
      have e2 : powD (.int 10) (.int 18) = some (.int 1000000000000000000) := by
        exact powD_ok ⟨by decide, by decide, by decide⟩
      by_cases hg : (1000000000000000000 : Int) ≤ z
      · simp only [seqS, setS, retS, exprS, nextS, ifS, thenS, bindM, retM, optM, m1, m2, mVar, consM, callM, truM, andT, orT, notT, andV, orV, notV, ifM, penGet, penPut, parS, asgS, tupM, lstM, partM, addD, subD, ltD, gtD, geD, leD, negD, intD, absD, lenD, truD, isNon, strCD, List.getElem?_cons_succ, List.getElem?_cons_zero, List.set_cons_succ, List.set_cons_zero, if_true, Bool.false_eq_true, if_false, Bool.not_true, Bool.not_false, Pen.get, Pen.put, eqD_int, List.length_map, e1, decide_eq_true ha, ixD, hz, e2, decide_eq_true hg]
        exact ⟨_, _, rfl, by have := h.at0; show (0 : Int) ≤ p.at_ + 1; omega, by show (0 : Int) ≤ z - 1000000000000000000; omega, h.f0, h.f1, h.c0, h.c1⟩
      · have hm : mulOk p.fold 69069 := by
          have h1 := log2_small (i := p.fold) (k := 32) (by have := h.f0; have := h.f1; omega) (by decide)
          have h2 : (69069 : Int).natAbs.log2 ≤ 20 := by decide
          unfold mulOk; omega
        have e3 := mulD_ok hm
        have e4 : ∀ i, modD (.int i) (.int 2147483587) = some (.int (i.fmod 2147483587)) := fun i => modD_ok (by decide)
        simp only [seqS, setS, retS, exprS, nextS, ifS, thenS, bindM, retM, optM, m1, m2, mVar, consM, callM, truM, andT, orT, notT, andV, orV, notV, ifM, penGet, penPut, parS, asgS, tupM, lstM, partM, addD, subD, ltD, gtD, geD, leD, negD, intD, absD, lenD, truD, isNon, strCD, List.getElem?_cons_succ, List.getElem?_cons_zero, List.set_cons_succ, List.set_cons_zero, if_true, Bool.false_eq_true, if_false, Bool.not_true, Bool.not_false, Pen.get, Pen.put, eqD_int, List.length_map, e1, decide_eq_true ha, ixD, hz, e2, decide_eq_false hg, e3, e4]
        exact ⟨_, _, rfl, by have := h.at0; show (0 : Int) ≤ p.at_ + 1; omega, h.dg, Int.fmod_nonneg_of_pos _ (by decide), Int.fmod_lt_of_pos _ (by decide), h.c0, h.c1⟩
    · simp only [seqS, setS, retS, exprS, nextS, ifS, thenS, bindM, retM, optM, m1, m2, mVar, consM, callM, truM, andT, orT, notT, andV, orV, notV, ifM, penGet, penPut, parS, asgS, tupM, lstM, partM, addD, subD, ltD, gtD, geD, leD, negD, intD, absD, lenD, truD, isNon, strCD, List.getElem?_cons_succ, List.getElem?_cons_zero, List.set_cons_succ, List.set_cons_zero, if_true, Bool.false_eq_true, if_false, Bool.not_true, Bool.not_false, Pen.get, Pen.put, eqD_int, List.length_map, e1, decide_eq_false ha]
      exact ⟨_, _, rfl, h⟩
  · have e1 : (p.digits == 0) = false := beq_eq_false_iff_ne.mpr hd
    simp only [seqS, setS, retS, exprS, nextS, ifS, thenS, bindM, retM, optM, m1, m2, mVar, consM, callM, truM, andT, orT, notT, andV, orV, notV, ifM, penGet, penPut, parS, asgS, tupM, lstM, partM, addD, subD, ltD, gtD, geD, leD, negD, intD, absD, lenD, truD, isNon, strCD, List.getElem?_cons_succ, List.getElem?_cons_zero, List.set_cons_succ, List.set_cons_zero, if_true, Bool.false_eq_true, if_false, Bool.not_true, Bool.not_false, Pen.get, Pen.put, eqD_int, e1]
    exact ⟨_, _, rfl, h⟩
theorem draw_ok {n : Nat} {p : Pen} (h : PenOk n p) (hn : n < 1000000000000) {many : Int} (hm : 0 < many) (hl : many.natAbs.log2 < 9000) : ∃ r p', runF 5 drawM [.st, .int many] p = .ok (.int r, p') ∧ 0 ≤ r ∧ r < many ∧ PenOk (n + 1) p' := by
  have h1 : PenOk (n + 1) { p with count := p.count + 1 } := ⟨h.at0, h.dg, h.f0, h.f1, by have := h.c0; show (0 : Int) ≤ p.count + 1; omega, by have := h.c1; show p.count + 1 ≤ ((n + 1 : Nat) : Int); omega⟩
  obtain ⟨y2, p2, e1, h2⟩ := draw_cell h1 many .no .no .no
  have hf : ∀ i, modD (.int i) (.int many) = some (.int (i.fmod many)) := fun i => modD_ok (by omega)
  have hd : ∀ i, fdivD (.int i) (.int many) = some (.int (i.fdiv many)) := fun i => fdivD_ok (by omega) hl
  have first : (penPut 3 (mVar 0) (m2 addD (penGet 3 (mVar 0)) (retM (.int 1))) : MS Pen) [.d .st, .d (.int many), .no, .no, .no] p = .ok (.nx [.d .st, .d (.int many), .no, .no, .no], { p with count := p.count + 1 }) := by
    simp only [seqS, setS, retS, exprS, nextS, ifS, thenS, bindM, retM, optM, m1, m2, mVar, consM, callM, truM, andT, orT, notT, andV, orV, notV, ifM, penGet, penPut, parS, asgS, tupM, lstM, partM, addD, subD, ltD, gtD, geD, leD, negD, intD, absD, lenD, truD, isNon, strCD, List.getElem?_cons_succ, List.getElem?_cons_zero, List.set_cons_succ, List.set_cons_zero, if_true, Bool.false_eq_true, if_false, Bool.not_true, Bool.not_false, Pen.get, Pen.put]
  suffices q : ∃ r p', drawM [.d .st, .d (.int many), .no, .no, .no] p = .ok (.rt (.int r), p') ∧ 0 ≤ r ∧ r < many ∧ PenOk (n + 1) p' by
    obtain ⟨r, p', e, k⟩ := q
    refine ⟨r, p', ?_, k⟩
    unfold runF
    rw [show drawM (([D.st, .int many] : List D).map Slot.d ++ List.replicate (5 - ([D.st, .int many] : List D).length) Slot.no) p = _ from e]
  unfold drawM
  rw [seqS_nx first, seqS_nx e1]
  by_cases hg : 0 < p2.digits
  · simp only [seqS, setS, retS, exprS, nextS, ifS, thenS, bindM, retM, optM, m1, m2, mVar, consM, callM, truM, andT, orT, notT, andV, orV, notV, ifM, penGet, penPut, parS, asgS, tupM, lstM, partM, addD, subD, ltD, gtD, geD, leD, negD, intD, absD, lenD, truD, isNon, strCD, List.getElem?_cons_succ, List.getElem?_cons_zero, List.set_cons_succ, List.set_cons_zero, if_true, Bool.false_eq_true, if_false, Bool.not_true, Bool.not_false, Pen.get, Pen.put, decide_eq_true hg, hf, hd]
    exact ⟨_, _, rfl, Int.fmod_nonneg_of_pos _ hm, Int.fmod_lt_of_pos _ hm, h2.at0, Int.fdiv_nonneg h2.dg (by omega), h2.f0, h2.f1, h2.c0, h2.c1⟩
  · have hmul : mulD (.int p2.count) (.int 7907) = some (.int (p2.count * 7907)) := mulD_ok (by
      have h1 := log2_small (i := p2.count) (k := 64) (by have := h2.c0; have := h2.c1; omega) (by decide)
      have h2 : (7907 : Int).natAbs.log2 ≤ 20 := by decide
      unfold mulOk; omega)
    have hpow : powD (.int (p2.fold + p2.count * 7907 + 37)) (.int 17) = some (.int ((p2.fold + p2.count * 7907 + 37) ^ 17)) := by
      exact powD_ok ⟨by decide, by decide, by have := h2.f0; have := h2.f1; have := h2.c0; have := h2.c1; omega⟩
    have hmod : ∀ i, modD (.int i) (.int 2305843009213693951) = some (.int (i.fmod 2305843009213693951)) := fun i => modD_ok (by decide)
    have hdiv : ∀ i, fdivD (.int i) (.int 128) = some (.int (i.fdiv 128)) := fun i => fdivD_ok (by decide) (by decide)
    simp only [seqS, setS, retS, exprS, nextS, ifS, thenS, bindM, retM, optM, m1, m2, mVar, consM, callM, truM, andT, orT, notT, andV, orV, notV, ifM, penGet, penPut, parS, asgS, tupM, lstM, partM, addD, subD, ltD, gtD, geD, leD, negD, intD, absD, lenD, truD, isNon, strCD, List.getElem?_cons_succ, List.getElem?_cons_zero, List.set_cons_succ, List.set_cons_zero, if_true, Bool.false_eq_true, if_false, Bool.not_true, Bool.not_false, Pen.get, Pen.put, decide_eq_false hg, hf, hmul, hpow, hmod, hdiv]
    exact ⟨_, _, rfl, Int.fmod_nonneg_of_pos _ hm, Int.fmod_lt_of_pos _ hm, h2⟩
end DL
set_option Elab.async false
set_option linter.all false
set_option maxRecDepth 100000
set_option maxHeartbeats 1000000
namespace DL
open PySem PySem.Spec PyProof.Rows L2
def pickM : MS Pen :=
    (retS (m2 ixD (mVar 1) (callF 2 (runF 5 drawM) [] (consM (mVar 0) (consM (callM lenD (consM (mVar 1) (retM []))) (retM []))))))
theorem runF_rt {S : Type} {n : Nat} {mb : MS S} {ds : List D} {env : Env} {s s' : S} {d : D} (he : env = ds.map Slot.d ++ List.replicate (n - ds.length) Slot.no) (h : mb env s = .ok (.rt d, s')) : runF n mb ds s = .ok (d, s') := by
  subst he; unfold runF; rw [h]
theorem runF_exc {S : Type} {n : Nat} {mb : MS S} {ds : List D} {env env' : Env} {s s' : S} {k : Nat} {fs : List D} (he : env = ds.map Slot.d ++ List.replicate (n - ds.length) Slot.no) (h : mb env s = .exc k fs (env', s')) : runF n mb ds s = .exc k fs s' := by
  subst he; unfold runF; rw [h]
theorem whileN_go {S : Type} {t : M S Bool} {mb : MS S} {n : Nat} {env e : Env} {s s1 s2 : S} (h1 : t env s = .ok (true, s1)) (h2 : mb env s1 = .ok (.nx e, s2)) : whileN t mb (n + 1) env s = whileN t mb n e s2 := by
  conv => lhs; unfold whileN
  rw [h1]
  dsimp only
  rw [h2]
theorem whileN_end {S : Type} {t : M S Bool} {mb : MS S} {n : Nat} {env : Env} {s s1 : S} (h1 : t env s = .ok (false, s1)) : whileN t mb (n + 1) env s = .ok (.nx env, s1) := by
  conv => lhs; unfold whileN
  rw [h1]
theorem atI_at {α : Type} {xs : List α} {i : Int} (h0 : 0 ≤ i) (h1 : i < (xs.length : Int)) : ∃ x, atI xs i = some x ∧ x ∈ xs := by
  unfold atI ixN
  rw [if_pos h0, if_pos h1]
  have h : i.toNat < xs.length := by omega
  exact ⟨xs[i.toNat], by simp [List.getElem?_eq_getElem h], List.getElem_mem h⟩
theorem pick_lst {n : Nat} {p : Pen} (h : PenOk n p) (hn : n < 1000000000000) {xs : List D} (h0 : xs ≠ []) (h1 : xs.length < 1000000) : ∃ x p', runF 2 pickM [.st, .lst xs] p = .ok (x, p') ∧ x ∈ xs ∧ PenOk (n + 1) p' := by
  have hp : 0 < xs.length := List.length_pos_iff.mpr h0
  obtain ⟨r, p', e, r0, r1, ok⟩ := draw_ok h hn (many := (xs.length : Int)) (by omega) (by have := log2_small (i := (xs.length : Int)) (k := 30) (by omega) (by decide); omega)
  obtain ⟨x, hx, hm⟩ := atI_at r0 r1
  refine ⟨x, p', ?_, hm, ok⟩
  refine runF_rt (env := [.d .st, .d (.lst xs)]) rfl ?_
  unfold pickM
  simp only [callF, List.append_nil, List.cons_append, List.nil_append, List.length_cons, List.length_nil, Nat.zero_add, Nat.reduceAdd, reduceIte, seqS, setS, retS, exprS, nextS, ifS, thenS, DL.bindM, retM, optM, m1, m2, mVar, consM, callM, truM, andT, orT, notT, andV, orV, notV, ifM, penGet, penPut, parS, asgS, tupM, lstM, partM, addD, subD, ltD, gtD, geD, leD, negD, DL.intD, absD, lenD, truD, isNon, strCD, List.getElem?_cons_succ, List.getElem?_cons_zero, List.set_cons_succ, List.set_cons_zero, if_true, Bool.false_eq_true, if_false, Bool.not_true, Bool.not_false, e, ixD, hx]
theorem pick_str {n : Nat} {p : Pen} (h : PenOk n p) (hn : n < 1000000000000) {y : Str} (h0 : 0 < y.length) (h1 : y.length < 1000000) : ∃ k p', runF 2 pickM [.st, .str y] p = .ok (.str ⟨#[k]⟩, p') ∧ k ∈ y.cps.toList ∧ PenOk (n + 1) p' := by
  obtain ⟨r, p', e, r0, r1, ok⟩ := draw_ok h hn (many := (y.length : Int)) (by omega) (by have := log2_small (i := (y.length : Int)) (k := 30) (by omega) (by decide); omega)
  have hl : y.length ≤ sizeLine := by rw [sizeLine_eq]; omega
  obtain ⟨k, hx, hm⟩ := atI_at (xs := y.cps.toList) r0 (by rw [Array.length_toList]; exact r1)
  refine ⟨k, p', ?_, hm, ok⟩
  refine runF_rt (env := [.d .st, .d (.str y)]) rfl ?_
  unfold pickM
  simp only [callF, List.append_nil, List.cons_append, List.nil_append, List.length_cons, List.length_nil, Nat.zero_add, Nat.reduceAdd, reduceIte, seqS, setS, retS, exprS, nextS, ifS, thenS, DL.bindM, retM, optM, m1, m2, mVar, consM, callM, truM, andT, orT, notT, andV, orV, notV, ifM, penGet, penPut, parS, asgS, tupM, lstM, partM, addD, subD, ltD, gtD, geD, leD, negD, DL.intD, absD, lenD, truD, isNon, strCD, List.getElem?_cons_succ, List.getElem?_cons_zero, List.set_cons_succ, List.set_cons_zero, if_true, Bool.false_eq_true, if_false, Bool.not_true, Bool.not_false, if_pos hl, e, ixD, hx, Option.map_some]
end DL
set_option Elab.async false
set_option linter.all false
set_option maxRecDepth 100000
set_option maxHeartbeats 1000000
namespace DL
open PySem PySem.Spec PyProof.Rows L2
theorem eqD_str {x y : Str} (hx : PyData.strOk x = true) (hy : PyData.strOk y = true) : eqD (.str x) (.str y) = some (.bl (x == y)) := by
  unfold eqD eqvD toPy
  rw [if_pos hx, if_pos hy]
  dsimp only
  rw [if_pos ⟨by simp [PyData.depth], by simp [PyData.depth]⟩]
  rfl
theorem neD_str {x y : Str} (hx : PyData.strOk x = true) (hy : PyData.strOk y = true) : neD (.str x) (.str y) = some (.bl (!(x == y))) := by
  unfold neD eqvD toPy
  rw [if_pos hx, if_pos hy]
  dsimp only
  rw [if_pos ⟨by simp [PyData.depth], by simp [PyData.depth]⟩]
  rfl
theorem eqD_pair (a b c d : Int) : eqD (.tup [.int a, .int b]) (.tup [.int c, .int d]) = some (.bl ((a == c) && (b == d))) := by
  unfold eqD eqvD
  simp only [toPy, toPys, Option.map_some]
  rw [if_pos ⟨by simp [PyData.depth, PyData.depthAll], by simp [PyData.depth, PyData.depthAll]⟩]
  simp only [PyData.eqv, PyData.eqvAll, Bool.and_true, Option.map_some]
/-- a text whose signs are signs -/
structure Txt0 (n : Nat) (x : Str) : Prop where
  ok : PyData.strOk x = true
  len : x.length ≤ n
theorem ok_iff {x : Str} : PyData.strOk x = true ↔ ∀ k ∈ x.cps.toList, k < 0x110000 := by
  unfold PyData.strOk
  rw [← Array.all_toList, List.all_eq_true]
  exact ⟨fun h k hk => of_decide_eq_true (h k hk), fun h k hk => decide_eq_true (h k hk)⟩
theorem Txt0.cut {n : Nat} {x : Str} (h : Txt0 n x) (lo hi : Option Int) : Txt0 n (cutS x lo hi) := by
  refine ⟨ok_iff.mpr fun k hk => ok_iff.mp h.ok k ?_, Nat.le_trans (cutS_length x lo hi) h.len⟩
  exact List.mem_of_mem_drop (List.mem_of_mem_take hk)
theorem Txt0.mono {n m : Nat} {x : Str} (h : Txt0 n x) (k : n ≤ m) : Txt0 m x := ⟨h.ok, Nat.le_trans h.len k⟩
theorem Txt0.cat {n m : Nat} {x y : Str} (h : Txt0 n x) (g : Txt0 m y) : Txt0 (n + m) (x ++ y) := by
  refine ⟨ok_iff.mpr fun k hk => ?_, ?_⟩
  · rw [show (x ++ y).cps.toList = x.cps.toList ++ y.cps.toList from TL.tl_append x y] at hk
    rcases List.mem_append.mp hk with hk | hk
    · exact ok_iff.mp h.ok k hk
    · exact ok_iff.mp g.ok k hk
  · have e : (x ++ y).cps.toList.length = x.cps.toList.length + y.cps.toList.length := by
      rw [show (x ++ y).cps.toList = x.cps.toList ++ y.cps.toList from TL.tl_append x y, List.length_append]
    rw [Array.length_toList, Array.length_toList, Array.length_toList] at e
    show (x ++ y).cps.size ≤ _
    rw [e]; exact Nat.add_le_add h.len g.len
theorem str_eq {x y : Str} (h : x.cps.toList = y.cps.toList) : x = y := TL.ext_tl h
theorem cut_to {x : Str} {i : Nat} (h : i ≤ x.length) : cutS x none (some (i : Int)) = Builtin.Str.strSub x 0 i := by
  refine str_eq ?_
  show (x.cps.toList.drop 0).take (HT.sIx x.length x.length (some (i : Int)) - 0) = (x.cps.extract 0 i).toList
  rw [HT.sIx_nat, Array.toList_extract, List.extract_eq_take_drop, Nat.min_eq_left h]
theorem cut_from {x : Str} {i : Nat} (h : i ≤ x.length) : cutS x (some (i : Int)) none = Builtin.Str.strSub x i x.length := by
  refine str_eq ?_
  show (x.cps.toList.drop (HT.sIx x.length 0 (some (i : Int)))).take (x.length - HT.sIx x.length 0 (some (i : Int))) = (x.cps.extract i x.length).toList
  rw [HT.sIx_nat, Array.toList_extract, List.extract_eq_take_drop, Nat.min_eq_left h]
theorem cut_all {x : Str} : cutS x none (some (x.length : Int)) = x := by
  refine str_eq ?_
  show (x.cps.toList.drop 0).take (HT.sIx x.length x.length (some (x.length : Int)) - 0) = x.cps.toList
  rw [HT.sIx_nat, Nat.min_self, List.drop_zero, Nat.sub_zero]
  exact List.take_of_length_le (by rw [Array.length_toList]; exact Nat.le_refl _)
theorem part_no {x : Str} {c : Nat} (h : c ∉ x.cps.toList) : Txt.partition x ⟨#[c]⟩ = (x, Str.empty, Str.empty) ∧ Builtin.Str.occurrences x ⟨#[c]⟩ 0 x.length 1 = [] := by
  have e : Builtin.Str.occurrences x ⟨#[c]⟩ 0 x.length 1 = [] := by
    have := StrLaws.found_one x c
    rw [decide_eq_false h] at this
    simpa using this
  exact ⟨by unfold Txt.partition; rw [e], e⟩
theorem part_at {x : Str} {c : Nat} (h : c ∈ x.cps.toList) : ∃ i, i < x.length ∧ Txt.index0 x ⟨#[c]⟩ = some i ∧
    Txt.partition x ⟨#[c]⟩ = (cutS x none (some (i : Int)), ⟨#[c]⟩, cutS x (some ((i : Int) + 1)) none) := by
  cases e : Builtin.Str.occurrences x ⟨#[c]⟩ 0 x.length 1 with
  | nil =>
    have := StrLaws.found_one x c
    rw [decide_eq_true h, e] at this
    cases this
  | cons i r =>
    obtain ⟨f, hf⟩ := StrLaws.occ_chain x ⟨#[c]⟩ 1
    rw [e] at hf
    have hi : i + 1 ≤ x.length := hf.2.1.1
    refine ⟨i, hi, by unfold Txt.index0; rw [e]; rfl, ?_⟩
    unfold Txt.partition
    rw [e]
    dsimp only
    rw [cut_to (by omega), show ((i : Int) + 1) = ((i + 1 : Nat) : Int) by omega, cut_from hi]
    rfl
/-- text[:1] == '-' and text.startswith('-') -/
theorem head_cut (x : Str) (c : Nat) : (cutS x none (some 1) == (⟨#[c]⟩ : Str)) = decide (x.cps.toList.head? = some c) := by
  rw [Bool.eq_iff_iff, beq_iff_eq, decide_eq_true_eq]
  have e : (cutS x none (some 1)).cps.toList = x.cps.toList.take 1 := by
    show (x.cps.toList.drop 0).take (HT.sIx x.length x.length (some ((1 : Nat) : Int)) - 0) = _
    rw [HT.sIx_nat, List.drop_zero, Nat.sub_zero]
    have : x.length = x.cps.toList.length := Array.length_toList.symm
    rw [this]
    cases x.cps.toList with
    | nil => rfl
    | cons a l => simp
  constructor
  · intro h
    rw [h] at e
    cases z : x.cps.toList with
    | nil => rw [z] at e; simp at e
    | cons a l => rw [z] at e; simp at e; simp [e]
  · intro h
    refine str_eq ?_
    rw [e]
    cases z : x.cps.toList with
    | nil => rw [z] at h; cases h
    | cons a l => rw [z] at h; simp at h; simp [h]
theorem head_starts (x : Str) (c : Nat) : Txt.startswith x ⟨#[c]⟩ = decide (x.cps.toList.head? = some c) := by
  unfold Txt.startswith
  have hl : x.length = x.cps.toList.length := Array.length_toList.symm
  have l1 : (⟨#[c]⟩ : Str).length = 1 := rfl
  rw [l1, hl]
  unfold Builtin.Str.subAt
  rw [l1]
  rw [Bool.eq_iff_iff, decide_eq_true_eq, Bool.and_eq_true, decide_eq_true_eq, beq_iff_eq]
  have e : (x.cps.extract 0 (0 + 1)).toList = x.cps.toList.take 1 := by rw [Array.toList_extract, List.extract_eq_take_drop, List.drop_zero]
  constructor
  · intro ⟨h1, h2⟩
    rw [h2] at e
    cases z : x.cps.toList with
    | nil => rw [z] at h1; simp at h1
    | cons a l => rw [z] at e; simp at e; simp [e]
  · intro h
    cases z : x.cps.toList with
    | nil => rw [z] at h; cases h
    | cons a l =>
      rw [z] at h e; simp at h
      refine ⟨by simp, Array.toList_inj.mp ?_⟩
      rw [e]; simp [h]
theorem lc_pass {S : Type} {tg : Tg} {t : M S Bool} {m : M S D} {d x : D} {r acc : List D} {env e1 : Env} {s s1 s2 : S} (h : assignT tg d env = some e1) (ht : t e1 s = .ok (true, s1)) (hl : acc.length < 1000000) (hm : m e1 s1 = .ok (x, s2)) :
    lcLoop tg t m (d :: r) acc env s = lcLoop tg t m r (acc ++ [x]) env s2 := by
  conv => lhs; unfold lcLoop
  rw [h]; dsimp only
  rw [ht]; dsimp only
  rw [if_pos hl, hm]
theorem lc_skip {S : Type} {tg : Tg} {t : M S Bool} {m : M S D} {d : D} {r acc : List D} {env e1 : Env} {s s1 : S} (h : assignT tg d env = some e1) (ht : t e1 s = .ok (false, s1)) :
    lcLoop tg t m (d :: r) acc env s = lcLoop tg t m r acc env s1 := by
  conv => lhs; unfold lcLoop
  rw [h]; dsimp only
  rw [ht]
/-- a comprehension over signs: which fail, which pass -/
theorem not_in {F : Str} {x : D} (k : Nat) (s : Pen) : (m2 notInD (mVar 1) (retM (.str F)) : M Pen D) [.d x, .d (.str ⟨#[k]⟩)] s = .ok (.bl (!(decide (k ∈ F.cps.toList))), s) := by
  simp only [callF, List.append_nil, List.cons_append, List.nil_append, List.length_cons, List.length_nil, Nat.zero_add, Nat.reduceAdd, reduceIte, seqS, setS, retS, exprS, nextS, ifS, thenS, DL.bindM, retM, optM, m1, m2, mVar, consM, callM, truM, andT, orT, notT, andV, orV, notV, ifM, penGet, penPut, parS, asgS, tupM, lstM, partM, addD, subD, ltD, gtD, geD, leD, negD, DL.intD, absD, lenD, truD, isNon, strCD, List.getElem?_cons_succ, List.getElem?_cons_zero, List.set_cons_succ, List.set_cons_zero, if_true, Bool.false_eq_true, if_false, Bool.not_true, Bool.not_false, notInD, inD]
theorem signs_any {F : Str} {x : D} : ∀ (ks : List Nat) (acc : List D) (s : Pen), acc.length + ks.length < 1000000 →
    lcLoop (.nm 1) yesM (m2 notInD (mVar 1) (retM (.str F))) (ks.map fun k => D.str ⟨#[k]⟩) acc [.d x, .no] s = .ok (acc ++ ks.map (fun k => D.bl (!(decide (k ∈ F.cps.toList)))), s)
  | [], acc, s, _ => by rw [List.map_nil, List.map_nil, List.append_nil]; rfl
  | k :: ks, acc, s, h => by
    rw [List.map_cons, lc_pass (e1 := [.d x, .d (.str ⟨#[k]⟩)]) rfl rfl (by simp at h; omega) (not_in k s), signs_any ks _ s (by simp at h ⊢; omega)]
    simp
theorem signs_not {F : Str} {x : D} : ∀ (ks : List Nat) (acc : List D) (s : Pen), acc.length + ks.length < 1000000 →
    lcLoop (.nm 1) (truM (m2 notInD (mVar 1) (retM (.str F)))) (retM (.int 1)) (ks.map fun k => D.str ⟨#[k]⟩) acc [.d x, .no] s = .ok (acc ++ (ks.filter fun k => !(decide (k ∈ F.cps.toList))).map (fun _ => D.int 1), s)
  | [], acc, s, _ => by rw [List.map_nil, List.filter_nil, List.map_nil, List.append_nil]; rfl
  | k :: ks, acc, s, h => by
    have ht : (truM (m2 notInD (mVar 1) (retM (.str F))) : M Pen Bool) [.d x, .d (.str ⟨#[k]⟩)] s = .ok (!(decide (k ∈ F.cps.toList)), s) := by
      unfold truM DL.bindM
      rw [not_in]
      rfl
    by_cases hk : k ∈ F.cps.toList
    · rw [decide_eq_true hk] at ht
      rw [List.map_cons, lc_skip (e1 := [.d x, .d (.str ⟨#[k]⟩)]) rfl ht, signs_not ks _ s (by simp at h ⊢; omega), List.filter_cons_of_neg (by simp [hk])]
    · rw [decide_eq_false hk] at ht
      rw [List.map_cons, lc_pass (e1 := [.d x, .d (.str ⟨#[k]⟩)]) rfl ht (by simp at h; omega) rfl, signs_not ks _ s (by simp at h ⊢; omega), List.filter_cons_of_pos (by simp [hk])]
      simp
theorem bls_map {α : Type} (f : α → Bool) : ∀ l : List α, blsD (l.map fun k => D.bl (f k)) = some (l.map f)
  | [] => rfl
  | a :: l => by rw [List.map_cons, blsD, bls_map f l]; rfl
end DL
set_option Elab.async false
set_option linter.all false
set_option maxRecDepth 100000
set_option maxHeartbeats 1000000
namespace DL
open PySem PySem.Spec PyProof.Rows L2
section
variable {S : Type} {C : DC} {I : SI S} {B : En} {F H F' H' : Hp} {σ : L2.St} {env : DL.Env} {s s' : S}
theorem Stt.setOwn (T : Stt C I B F H σ env s) {i : Nat} {p : Addr} {vs : List V} {ds : List D} (hp : H p = some (.lst vs)) (hf : F p = none) (hr : Reps C F ds vs) (hi : ¬ I.ex p) (hn : ∀ j, ¬ OwnAt env σ j p) (h0 : B.H0 p = none) :
    Stt C I B F H (σ.set i (some (.ref p))) (env.set i (.own ds)) s where
  sub := T.sub
  nt := T.nt
  inv := T.inv
  len := by rw [List.length_set, List.length_set]; exact T.len
  sl := fun j x e => by
    by_cases z : j = i
    · subst z
      have h1 : j < env.length := by
        have := (List.getElem?_eq_some_iff.mp e).1
        simpa using this
      rw [List.getElem?_set_self h1] at e
      cases e
      have h2 : j < σ.length := by rw [← T.len]; exact h1
      rw [List.getElem?_set_self h2]
      exact ⟨p, vs, rfl, hf, hp, hr⟩
    · rw [List.getElem?_set_ne (Ne.symm z)] at e ⊢
      exact T.sl j x e
  dj := fun j k a n h1 h2 => by
    rcases ownAt_set T.len h1 with ⟨j1, _, z⟩ | ⟨_, h1⟩
    · cases z
      rcases ownAt_set T.len h2 with ⟨k1, _, _⟩ | ⟨_, h2⟩
      · exact n (j1.trans k1.symm)
      · exact hn k h2
    · rcases ownAt_set T.len h2 with ⟨_, _, z⟩ | ⟨_, h2⟩
      · cases z; exact hn j h1
      · exact T.dj j k a n h1 h2
  ni := fun j a h1 => by
    rcases ownAt_set T.len h1 with ⟨_, _, z⟩ | ⟨_, h1⟩
    · cases z; exact hi
    · exact T.ni j a h1
  fr := T.fr
  f0 := T.f0
  nw := T.nw
  tb := T.tb
  al := T.al
  ie := T.ie
  oe := fun j a h1 => by
    rcases ownAt_set T.len h1 with ⟨_, _, z⟩ | ⟨_, h1⟩
    · cases z; exact .inl h0
    · exact T.oe j a h1
/-- what a slot of its own tells -/
theorem Stt.ownGet (T : Stt C I B F H σ env s) {i : Nat} {ds : List D} (e : env[i]? = some (.own ds)) : ∃ p vs, σ[i]? = some (some (.ref p)) ∧ F p = none ∧ H p = some (.lst vs) ∧ Reps C F ds vs ∧ OwnAt env σ i p := by
  obtain ⟨p, vs, h1, h2, h3, h4⟩ := T.sl i _ e
  exact ⟨p, vs, h1, h2, h3, h4, _, e, rfl, h1⟩
/-- the list is written anew -/
theorem Stt.writeOwn (T : Stt C I B F H σ env s) {i : Nat} {p : Addr} {xs ys : List V} {ds ds' : List D} (e : env[i]? = some (.own ds)) (hs : σ[i]? = some (some (.ref p))) (hf : F p = none) (hp : H p = some (.lst xs)) (hr : Reps C F ds' ys) :
    Stt C I B F (upd H p (.lst ys)) σ (env.set i (.own ds')) s := by
  have oa : OwnAt env σ i p := ⟨_, e, rfl, hs⟩
  have back : ∀ {j a}, OwnAt (env.set i (.own ds')) σ j a → OwnAt env σ j a := fun {j a} ⟨y, e1, e2, e3⟩ => by
    by_cases z : j = i
    · subst z
      rw [hs] at e3
      cases e3
      exact oa
    · rw [List.getElem?_set_ne (Ne.symm z)] at e1
      exact ⟨y, e1, e2, e3⟩
  exact {
    sub := fun a u q => by rw [upd_ne (fun z => by subst z; rw [hf] at q; cases q)]; exact T.sub a u q
    nt := T.nt
    inv := I.mono T.inv (Same.refl _) fun a ha => ⟨rfl, upd_ne fun z => by subst z; exact T.ni i _ oa ha⟩
    len := by rw [List.length_set]; exact T.len
    sl := fun j x q => by
      by_cases z : j = i
      · subst z
        have h1 : j < env.length := (List.getElem?_eq_some_iff.mp e).1
        rw [List.getElem?_set_self h1] at q
        cases q
        exact ⟨p, ys, hs, hf, upd_same, hr⟩
      · rw [List.getElem?_set_ne (Ne.symm z)] at q
        exact (T.sl j x q).keep (Same.refl _) fun a h1 h2 => by
          have w : OwnAt env σ j a := ⟨x, q, h2, h1⟩
          rw [upd_ne (fun y => by subst y; exact T.dj j i _ z w oa)]
          exact ⟨(T.own_there w).1, rfl⟩
    dj := fun j k a n h1 h2 => T.dj j k a n (back h1) (back h2)
    ni := fun j a h1 => T.ni j a (back h1)
    fr := fun a u q n1 n2 => by
      rw [upd_ne (fun z => by
        subst z
        rcases T.oe i _ oa with w | w
        · rw [w] at q; cases q
        · exact n1 w)]
      exact T.fr a u q n1 n2
    f0 := T.f0
    nw := T.nw
    tb := tabs_write T.tb hp
    al := fun a n => by
      by_cases z : a = p
      · subst z; rw [upd_same]; simp
      · rw [upd_ne z]; exact T.al a n
    ie := T.ie
    oe := fun j a h1 => T.oe j a (back h1) }
theorem set_idem {α : Type} {l : List α} {i : Nat} {x : α} (h : l[i]? = some x) : l.set i x = l := by
  refine List.ext_getElem? fun j => ?_
  by_cases z : j = i
  · subst z
    rw [List.getElem?_set_self (List.getElem?_eq_some_iff.mp h).1, h]
  · rw [List.getElem?_set_ne (Ne.symm z)]
/-- the list is a value from now on -/
theorem Stt.freezeOwn (T : Stt C I B F H σ env s) (hB : ∀ a, B.ex a → I.ex a) {i : Nat} {ds : List D} (e : env[i]? = some (.own ds)) : ∃ F1, Same F F1 ∧ Stt C I B F1 H σ (env.set i (.d (.lst ds))) s := by
  obtain ⟨p, vs, h1, h2, h3, h4, oa⟩ := T.ownGet e
  have n0 : ¬ I.ex p := T.ni i _ oa
  have h0 : B.H0 p = none := (T.oe i _ oa).elim id fun q => absurd (hB _ q) n0
  have T1 := T.wipe (i := i) (v := some (V.ref p))
  rw [set_idem h1] at T1
  have no : ∀ j, ¬ OwnAt (env.set i .no) σ j p := fun j ⟨y, e1, e2, e3⟩ => by
    by_cases z : j = i
    · subst z
      rw [List.getElem?_set_self (List.getElem?_eq_some_iff.mp e).1] at e1
      cases e1; cases e2
    · rw [List.getElem?_set_ne (Ne.symm z)] at e1
      exact T.dj j i _ z ⟨y, e1, e2, e3⟩ oa
  have T2 := T1.freeze h3 h2 (fun ps z => by cases z) n0 no h0
  have T3 := T2.setD (i := i) (d := .lst ds) (v := .ref p) ⟨p, vs, rfl, SqL.of upd_same, h4.mono (same_upd h2)⟩
  rw [set_idem h1, List.set_set] at T3
  exact ⟨_, same_upd h2, T3⟩
end
section
variable {S : Type} {c : Ct S} {X : Cx} {e : Expr} {es : List Expr} {sts : List Stmt} {pos apos cpos : Pos} {m : M S D} {ms : M S (List D)} {mb : MS S}
def frzS (i : Nat) : MS S := fun env s => match env[i]? with
  | some (.own xs) => .ok (.nx (env.set i (.d (.lst xs))), s)
  | _ => .bad
theorem ss_frz (i : Nat) (hB : ∀ a, c.B.ex a → c.I.ex a) (h : PSs X sts (tS c mb)) : PSs X sts (tS c (seqS (frzS i) mb)) := by
  refine PSsimp h fun D σ H h => ?_
  obtain ⟨F, env, s, T, h⟩ := h
  unfold seqS frzS at h
  cases q : env[i]? with
  | none => rw [q] at h; exact h.elim
  | some y =>
    rw [q] at h
    cases y with
    | own xs =>
      obtain ⟨F1, e1, T1⟩ := T.freezeOwn hB q
      exact ⟨F1, _, s, T1, h.same e1⟩
    | _ => exact h.elim
/-- x = [..], to be made longer -/
def ownS (i : Nat) (ms : M S (List D)) : MS S := thenS ms fun ds env s => if ds.length ≤ 1000 then .ok (.nx (env.set i (.own ds)), s) else .bad
theorem s_own {i : Nat} {x : Str} {p : Pos} (hN : X.N.Nodup) (ha : PA X es (tA c ms)) (hi : X.N[i]? = some x := by rfl) (hx : Loc X.env.scope x := by first | exact Or.inl rfl | exact Or.inr rfl) (hs : swapsWith (.List es apos) (some (.Name x p)) pos.line X.env = pure false := by rfl)
    (hf : X.fn x = true ∨ X.env.scope.names.lookup x = some .local := by first | exact .inl rfl | exact .inr rfl) :
    PS X (.Assign [.Name x p] (.List es apos) pos) (tS c (ownS i ms)) := by
  refine PSimp (ps_set hN hi hx (pe_lst ha) hs hf) fun De σ H h => ?_
  obtain ⟨F, env, s, T, h⟩ := h
  refine ⟨F, env, s, T, h.bind.imp fun ds s1 F1 H1 e1 T1 q vs rvs => ?_⟩
  split at q
  · rename_i hl
    refine ⟨by rw [rvs.length]; exact le_line hl, fun p np => ?_⟩
    have T2 := T1.newM (o := .lst vs) np
    have no : ∀ j, ¬ OwnAt env σ j p := fun j z => (T1.own_there z).2.1 np
    exact q _ F1 _ (Same.refl _) (T2.setOwn upd_same (T1.ff np) rvs (fun z => T1.exfree np z) no (T1.h0 np))
  · exact q.elim
end
end DL
set_option Elab.async false
set_option linter.all false
set_option maxRecDepth 100000
set_option maxHeartbeats 1000000
namespace DL
open PySem PySem.Spec PyProof.Rows L2
section
variable {S : Type} {c : Ct S} {X : Cx} {e : Expr} {es : List Expr} {sts : List Stmt} {pos apos cpos npos : Pos} {m : M S D} {ms : M S (List D)} {mb : MS S}
theorem Fin.cons1 {F : Hp} {σ : L2.St} {env : DL.Env} {s : S} {Q : List D → S → Hp → Hp → Prop} (h : Fin c F σ env (m env s) fun d s1 F1 H1 => Q [d] s1 F1 H1) : Fin c F σ env (consM m (retM []) env s) Q := by
  unfold consM DL.bindM
  cases q : m env s with
  | ok a => rw [q] at h; exact h
  | exc k fs s' => rw [q] at h; exact h
  | bad => rw [q] at h; exact h
/-- x.append(e), x a list of one's own -/
def apS (i : Nat) (m : M S D) : MS S := fun env s => match env[i]? with
  | some (.own xs) => thenS m (fun d env s => if xs.length < 1000000 then .ok (.nx (env.set i (.own (xs ++ [d]))), s) else .bad) env s
  | _ => .bad
theorem s_app {i : Nat} {x : Str} (he : PE X e (tM c m)) (hN : X.N[i]? = some x := by rfl) (hv : Vis X.env.scope x := by first | exact Or.inl rfl | exact Or.inr (Or.inl rfl) | exact Or.inr (Or.inr rfl)) (hd : (x == ("__debug__" : Str)) = false := by decide)
    (hcd : (x == ("__classdict__" : Str)) = false := by decide)
    (hfew : ((backTo cpos (starEach [e] X.env)).all (fun x => !x.1) && (backToKw cpos (keywordEach [] X.env)).all (fun x => x.1.isSome) && decide ([e].length + ([] : List Keyword).length + (if ([] : List Keyword).isEmpty then 0 else 1) < 30)) = true := by rfl)
    (hline : (apos.endLine == cpos.line) = true := by rfl) (hs : starEach [e] X.env = (false, eval e X.env) :: starEach [] X.env := by rfl) (hplain : (backTo cpos (starEach [] X.env)).any (·.1) = false := by rfl)
    (hw : swapsWith (.Call (.Attribute (.Name x npos) "append" apos) [e] [] cpos) none pos.line X.env = pure false := by rfl) :
    PS X (.Expr (.Call (.Attribute (.Name x npos) "append" apos) [e] [] cpos) pos) (tS c (apS i m)) := by
  refine PSimp (ps_expr (pe_bm PySem.F.plainAttrs_list PySem.F.slot_list_append PySem.F.type_list_append mt_append (pe_var hN hv hd hcd) (a_cons he a_nil hs) rfl hfew hline hs hplain) hw) fun De σ H h => ?_
  obtain ⟨F, env, s, T, h⟩ := h
  unfold apS at h
  cases q : env[i]? with
  | none => rw [q] at h; exact h.elim
  | some y =>
    rw [q] at h
    cases y with
    | own xs =>
      obtain ⟨p, vs, h1, h2, h3, h4, oa⟩ := T.ownGet q
      refine ⟨.ref p, h1, .inl ⟨rfl, vs, SqL.of h3⟩, F, env, s, T, Fin.cons1 (h.bind.imp fun d s1 F1 H1 e1 T1 k us rus => ?_)⟩
      obtain ⟨v, rfl, rv⟩ := reps1 rus
      obtain ⟨p2, ws, g1, g2, g3, g4, _⟩ := T1.ownGet q
      obtain rfl : p2 = p := by rw [h1] at g1; cases g1; rfl
      split at k
      · rename_i hl
        have lw : ws.length < sizeLine := by rw [g4.length, sizeLine_eq]; omega
        exact ⟨p2, ws, v, rfl, rfl, g3, lw, k σ F1 _ (Same.refl _) (T1.writeOwn q g1 g2 g3 (g4.append (Reps.one rv)))⟩
      · exact k.elim
    | _ => exact h.elim
/-- x.extend([elt for tg in iter if ..]), x a list of one's own -/
def extS (i : Nat) (m : M S D) : MS S := fun env s => match env[i]? with
  | some (.own xs) => thenS m (fun d env s => match d with
    | .lst ys => if xs.length < 1000000 ∧ ys.length < 1000000 then .ok (.nx (env.set i (.own (xs ++ ys))), s) else .bad
    | _ => .bad) env s
  | _ => .bad
theorem tM_lcX {g : Tg} {mi : M S (List D)} {mt : M S Bool} {me : M S D} {vs : List Nat} (hsub : ∀ i ∈ tgSlots g, i ∈ vs) {σ : L2.St} {H : Hp} {Q : VK}
    (h : ∃ F env s, Stt c.C c.I c.B F H σ env s ∧ Fin c F σ env (lcM g mi mt me vs env s) fun d _ F' H' => ∀ L as acc, d = .lst acc → F' L = some (.lst as) → Reps c.C F' acc as → Q (.ref L) H') :
    tLc (tI c mi) (gT c.C.K g) (fun σ H Q => ∃ B, tT (c.sub B) mt σ H Q) (fun σ H Q => ∃ B, tM (c.sub B) me σ H Q) vs σ H Q := by
  obtain ⟨F, env, s, T, h⟩ := h
  refine ⟨F, env, s, T, h.bind.imp fun ds s1 F1 H1 e1 T1 q J hJ => ?_⟩
  by_cases hno : noOwn env vs = true
  · rw [if_pos hno] at q
    refine lc_run (RR := fun F d v => ∃ L as acc, d = D.lst acc ∧ v = V.ref L ∧ F L = some (.lst as) ∧ Reps c.C F acc as) (fun h1 h2 => ⟨_, _, _, rfl, rfl, h1, h2⟩) hsub T1 hJ hno (q.imp fun d s2 F2 H2 e2 T2 k v rv => ?_) (tt := fun σ H Q => ∃ B, tT (c.sub B) mt σ H Q) (te := fun σ H Q => ∃ B, tM (c.sub B) me σ H Q) (fun B σ H Q h => ⟨B, h⟩) (fun B σ H Q h => ⟨B, h⟩)
    obtain ⟨L, as, acc, rfl, rfl, k1, k2⟩ := rv
    exact k L as acc rfl k1 k2
  · rw [if_neg hno] at q
    exact q.elim
theorem s_ext {elt iter tg : Expr} {ifs : List Expr} {scope : Scope} {own : List (Str × Nat)} {g : Tg} {mi : M S (List D)} {mt : M S Bool} {me : M S D} {i : Nat} {x : Str} {lpos : Pos} (hc : X.calm = true) (hNd : X.N.Nodup) (hi : PI X tg iter (tI c mi)) (ok : BlkOk X.N X.env.scope scope own)
    (hg : ∀ (s : Shared) (H : Hp) (C : Addr) (cl : List (Str × Addr)) (fp : List Addr), PG (Cx.bk X s H scope C cl fp) tg (gT c.C.K g))
    (ht : ∀ (s : Shared) (H : Hp) (C : Addr) (cl : List (Str × Addr)) (fp : List Addr) (B : En), PTs (Cx.bk X s H scope C cl fp) ifs (tT (c.sub B) mt))
    (he : ∀ (s : Shared) (H : Hp) (C : Addr) (cl : List (Str × Addr)) (fp : List Addr) (B : En), PE (Cx.bk X s H scope C cl fp) elt (tM (c.sub B) me))
    (hsub : ∀ i ∈ tgSlots g, i ∈ own.map (·.2)) (hfo : ∀ x, foldedSetIterable iter X.env x = pure x := by intro _; rfl)
    (hN : X.N[i]? = some x := by rfl) (hv : Vis X.env.scope x := by first | exact Or.inl rfl | exact Or.inr (Or.inl rfl) | exact Or.inr (Or.inr rfl)) (hd : (x == ("__debug__" : Str)) = false := by decide)
    (hcd : (x == ("__classdict__" : Str)) = false := by decide)
    (hfew : ((backTo cpos (starEach [.ListComp elt [⟨tg, iter, ifs, 0⟩] scope lpos] X.env)).all (fun x => !x.1) && (backToKw cpos (keywordEach [] X.env)).all (fun x => x.1.isSome) && decide ([Expr.ListComp elt [⟨tg, iter, ifs, 0⟩] scope lpos].length + ([] : List Keyword).length + (if ([] : List Keyword).isEmpty then 0 else 1) < 30)) = true := by rfl)
    (hline : (apos.endLine == cpos.line) = true := by rfl) (hs : starEach [.ListComp elt [⟨tg, iter, ifs, 0⟩] scope lpos] X.env = (false, eval (.ListComp elt [⟨tg, iter, ifs, 0⟩] scope lpos) X.env) :: starEach [] X.env := by rfl) (hplain : (backTo cpos (starEach [] X.env)).any (·.1) = false := by rfl)
    (hw : swapsWith (.Call (.Attribute (.Name x npos) "extend" apos) [.ListComp elt [⟨tg, iter, ifs, 0⟩] scope lpos] [] cpos) none pos.line X.env = pure false := by rfl) :
    PS X (.Expr (.Call (.Attribute (.Name x npos) "extend" apos) [.ListComp elt [⟨tg, iter, ifs, 0⟩] scope lpos] [] cpos) pos) (tS c (extS i (lcM g mi mt me (own.map (·.2))))) := by
  refine PSimp (ps_expr (pe_bm PySem.F.plainAttrs_list PySem.F.slot_list_extend PySem.F.type_list_extend mt_extend (pe_var hN hv hd hcd) (pa_cons (pe_lc hc hNd hi ok hg (fun s H C cl fp => PTsex (ht s H C cl fp)) (fun s H C cl fp => PEex (he s H C cl fp)) hfo) pa_nil hs) rfl hfew hline hs hplain) hw) fun De σ H h => ?_
  obtain ⟨F, env, s, T, h⟩ := h
  unfold extS at h
  cases q : env[i]? with
  | none => rw [q] at h; exact h.elim
  | some y =>
    rw [q] at h
    cases y with
    | own xs =>
      obtain ⟨p, vs, h1, h2, h3, h4, oa⟩ := T.ownGet q
      refine ⟨.ref p, h1, .inl ⟨rfl, vs, SqL.of h3⟩, tM_lcX hsub ⟨F, env, s, T, h.bind.imp fun d s1 F1 H1 e1 T1 k L as acc hd k1 k2 => ?_⟩⟩
      subst hd
      obtain ⟨p2, ws, g1, g2, g3, g4, _⟩ := T1.ownGet q
      obtain rfl : p2 = p := by rw [h1] at g1; cases g1; rfl
      dsimp only at k
      split at k
      · rename_i hl
        have lw : ws.length + as.length ≤ sizeLine := by rw [g4.length, k2.length, sizeLine_eq]; omega
        exact ⟨p2, L, ws, as, rfl, rfl, g3, T1.sub L _ k1, lw, k σ F1 _ (Same.refl _) (T1.writeOwn q g1 g2 g3 (g4.append k2))⟩
      · exact k.elim
    | _ => exact h.elim
end
end DL
set_option Elab.async false
set_option linter.all false
set_option maxRecDepth 100000
set_option maxHeartbeats 1000000
namespace DL
open PySem PySem.Spec PyProof.Rows L2
section
variable {S : Type} {c : Ct S} {X : Cx} {a b e : Expr} {st : Stmt} {sts : List Stmt} {pos : Pos} {ma mb : M S D} {k j q : Nat} {nm : Str} {mf : List D → S → R (D × S) S}
def badM : M S D := fun _ _ => .bad
def badS : MS S := fun _ _ => .bad
theorem d_bad : PE X e (tM c badM) := ⟨fun pins s σ H Q I h => by
  obtain ⟨F, env, s', T, h⟩ := h
  exact h.elim⟩
theorem s_bad : PS X st (tS c badS) := ⟨fun pins s σ H D I h => by
  obtain ⟨F, env, s', T, h⟩ := h
  exact h.elim⟩
/-- two instances of one class under an operator of its own -/
def binO (q : Nat) (mf : List D → S → R (D × S) S) (ma mb : M S D) : M S D := DL.bindM ma fun x => DL.bindM mb fun y => fun _ s => match x, y with
  | .obj k fs, .obj k2 fs2 => if k = q ∧ k2 = q then mf [.obj k fs, .obj k2 fs2] s else .bad
  | _, _ => .bad
theorem d_binO {op : Operator} (hnm : PySem.dunder op.info.2 = nm) (G : MCall X c k 2 q nm mf) (hsf : PySem.W.selfFirst X.K (c.C.cls q) = true) (o' : XO X c j) (ha : PE X a (tM c ma)) (hb : PE X b (tM c mb)) (hkj : k ≤ j := by decide) : PE X (.BinOp a op b pos) (tM c (binO q mf ma mb)) := by
  obtain ⟨f, fd, ps, sp, Df, me, hbd, hsp⟩ := G.ex
  refine ⟨fun pins s σ H Q I h => ?_⟩
  refine wpAny_BinOp (binT ha hb I (R := fun x y H2 => ∃ p dx us p2 dx2 us2, x = .ref p ∧ y = .ref p2 ∧ H2 p = some (.ins (c.C.cls q) dx us) ∧ H2 p2 = some (.ins (c.C.cls q) dx2 us2) ∧ sp [.ref p, .ref p2] H2 Q fun cls dd H' => c.W cls dd σ H') ?_ fun v u s2 x y H2 I2 rx ry hR => ?_)
  · refine tM_bind h fun dx s1 F1 H1 x env T1 rx hq => ⟨F1, env, s1, T1, hq.bind.imp fun dy s2 F2 H2 e2 T2 k2 y ry => ?_⟩
    cases dx with
    | obj n fs =>
      cases dy with
      | obj n2 fs2 =>
        dsimp only at k2
        split at k2
        · rename_i hk
          obtain ⟨rfl, rfl⟩ := hk
          obtain ⟨p, dx, us, e3, e4⟩ := obj_at T2.sub (rx.mono e2)
          obtain ⟨p2, dx2, us2, e5, e6⟩ := obj_at T2.sub ry
          subst e3; subst e5
          exact ⟨p, dx, _, p2, dx2, _, rfl, rfl, e4, e6, hsp (ds := [.obj _ fs, .obj _ fs2]) T2 rfl ⟨_, _, rfl, rx.mono e2, Reps.one ry⟩ k2⟩
        · exact k2.elim
      | _ => exact k2.elim
    | _ => exact k2.elim
  · obtain ⟨p, dx, us, p2, dx2, us2, rfl, rfl, hp, hp2, hq⟩ := hR
    obtain rfl : v = Value.ref p := rx
    obtain rfl : u = Value.ref p2 := ry
    obtain ⟨mA, O, _⟩ := ins_get I2.hok hp
    obtain ⟨od, IA, _⟩ := O.look
    obtain ⟨mA2, O2, _⟩ := ins_get I2.hok hp2
    obtain ⟨od2, IA2, _⟩ := O2.look
    obtain ⟨mm, Fr'⟩ := I2.fr
    refine PySem.W.binop_K Fr' I.ok.mod.kin IA IA2.type hsf (by rw [hnm]; exact me.at_) me.fn ?_
    refine wpAny_mono (Df.call (us := [.ref p, .ref p2]) (vs := [.ref p, .ref p2]) o' hkj hbd .nil I2 (.cons rfl (.cons rfl .nil)) hq) (fun r s' hr => ?_) fun _ _ e => e
    obtain ⟨y, H', J, ry, qy⟩ := hr
    exact SlX.cmpback ry ⟨y, H', J, ry, qy⟩
end
end DL
set_option Elab.async false
set_option linter.all false
set_option maxRecDepth 100000
set_option maxHeartbeats 1000000
namespace DL
open PySem PySem.Spec PyProof.Rows L2
def rCatL (K : PySem.W.Frag) : R2 := fun x y H Q => ∃ a b xs ys, x = .ref a ∧ y = .ref b ∧ SqL K H a xs ∧ SqL K H b ys ∧ xs.length + ys.length ≤ sizeLine ∧ ∀ p, H p = none → Q (.ref p) (upd H p (.lst (xs ++ ys)))
theorem op_catL {X : Cx} : OpR X (binaryOp .Add) (rCatL X.K) := by
  intro pins s σ H x y v u Q I rx ry h
  obtain ⟨a, b, xs, ys, rfl, rfl, ha, hb, hz, q⟩ := h
  cases rx
  cases ry
  obtain ⟨its, r1, ⟨⟨c1, d1, dt1, sl1⟩, n1, e1, hc1, hd1, hs1⟩, _⟩ := I.list ha
  obtain ⟨its2, r2, ⟨⟨c2, d2, dt2, sl2⟩, n2, e2, hc2, hd2, hs2⟩, _⟩ := I.list hb
  simp only at hc1 hs1 hc2 hs2
  subst hc1 hs1 hc2 hs2
  have hsz : its.toArray.size + its2.toArray.size ≤ sizeLine := by rw [List.size_toArray, List.size_toArray, ← r1.length, ← r2.length]; exact hz
  refine concat_meets ⟨_, e1, rfl⟩ ⟨_, e2, rfl⟩ noFill_list_add seq_list_add PySem.F.slot_list_add PySem.F.entry_list_add (PySem.F.args_list_add_2 _ _) (list_addW a b its.toArray its2.toArray n1 n2 d1 d2 sl1 sl2 hsz) ⟨e1, e2, ?_⟩
  rw [show its.toArray ++ its2.toArray = (its ++ its2).toArray by simp]
  exact ⟨.ref _, _, I.lnew (t' := s.toks) (r1.append r2) (by rw [List.length_append]; exact hz), rfl, q _ I.fresh⟩
/-- the empty tuple and another -/
def rCatT0 (K : PySem.W.Frag) : R2 := fun x y H Q => ∃ a b ys, x = .ref a ∧ y = .ref b ∧ SqT K H a [] ∧ SqT K H b ys ∧ Q (.ref b) H
theorem op_catT0 {X : Cx} : OpR X (binaryOp .Add) (rCatT0 X.K) := by
  intro pins s σ H x y v u Q I rx ry h
  obtain ⟨a, b, ys, rfl, rfl, ha, hb, q⟩ := h
  cases rx
  cases ry
  obtain ⟨its, r1, p1, _⟩ := I.tuple ha
  obtain ⟨its2, r2, p2, _⟩ := I.tuple hb
  cases r1
  obtain ⟨⟨c1, d1, dt1, sl1⟩, e1, hc1, n1, hs1⟩ := id p1
  obtain ⟨⟨c2, d2, dt2, sl2⟩, e2, hc2, n2, hs2⟩ := id p2
  simp only at hc1 hs1 hc2 hs2
  subst hc1 hs1 hc2 hs2
  exact concat_meets ⟨_, e1, rfl⟩ ⟨_, e2, rfl⟩ noFill_tuple_add seq_tuple_add PySem.F.slot_tuple_add PySem.F.entry_tuple_add (PySem.F.args_tuple_add_2 _ _)
    (tuple_addW0 a b _ its2.toArray n1 n2 d1 d2 sl1 sl2 rfl) ⟨e1, e2, ⟨.ref b, H, I, rfl, q⟩⟩
section
variable {S : Type} {c : Ct S} {X : Cx} {a b : Expr} {pos : Pos} {ma mb : M S D}
def catLD : D → D → Option D
  | .lst xs, .lst ys => if xs.length + ys.length ≤ 1000000 then some (.lst (xs ++ ys)) else none
  | _, _ => none
def catTD : D → D → Option D
  | .tup (x :: xs), .tup (y :: ys) => if (x :: xs).length + (y :: ys).length ≤ 1000000 then some (.tup (x :: xs ++ y :: ys)) else none
  | .tup (x :: xs), .tup [] => if (x :: xs).length ≤ 1000000 then some (.tup (x :: xs)) else none
  | _, _ => none
def catTD0 : D → D → Option D
  | .tup [], .tup ys => some (.tup ys)
  | _, _ => none
theorem op2_catL : Op2 c (rCatL c.C.K) catLD := by
  intro σ F H env s x y dx dy d Q T rx ry e q
  unfold catLD at e
  split at e
  · split at e
    · rename_i hl
      cases e
      obtain ⟨p1, vs, rfl, h2, h3⟩ := rx
      obtain ⟨p2, us, rfl, k2, k3⟩ := ry
      refine ⟨p1, p2, vs, us, rfl, rfl, T.sub.seq h2, T.sub.seq k2, by rw [h3.length, k3.length, sizeLine_eq]; omega, fun p np => ?_⟩
      exact q _ _ _ (same_upd (T.ff np)) (T.new np (fun ps z => by cases z)) ⟨p, _, rfl, SqL.of upd_same, (h3.append k3).mono (same_upd (T.ff np))⟩
    · cases e
  · cases e
theorem op2_catT : Op2 c (rCatT c.C.K) catTD := by
  intro σ F H env s x y dx dy d Q T rx ry e q
  unfold catTD at e
  split at e
  · split at e
    · rename_i x1 xs1 y1 ys1 hl
      cases e
      obtain ⟨p1, vs, rfl, h2, h3⟩ := rx
      obtain ⟨p2, us, rfl, k2, k3⟩ := ry
      have l1 := h3.length
      have l2 := k3.length
      refine ⟨p1, p2, vs, us, rfl, rfl, sqT_same T.sub h2, sqT_same T.sub k2, fun z => ?_, by rw [l1, l2, sizeLine_eq]; omega, fun z => ?_, fun _ p np => ?_⟩
      · rw [z] at l1; simp at l1
      · rw [z] at l2; simp at l2
      · exact q _ _ _ (same_upd (T.ff np)) (T.new np (fun ps z => by cases z)) ⟨p, _, rfl, SqT.of upd_same, (h3.append k3).mono (same_upd (T.ff np))⟩
    · cases e
  · split at e
    · rename_i x1 xs1 hl
      cases e
      have rx0 := rx
      obtain ⟨p1, vs, rfl, h2, h3⟩ := rx
      obtain ⟨p2, us, rfl, k2, k3⟩ := ry
      have l1 := h3.length
      have l2 := k3.length
      refine ⟨p1, p2, vs, us, rfl, rfl, sqT_same T.sub h2, sqT_same T.sub k2, fun z => ?_, ?_, fun _ => ?_, fun z => ?_⟩
      · rw [z] at l1; simp at l1
      · rw [l1, l2, sizeLine_eq]; simp only [List.length_cons, List.length_nil] at hl ⊢; omega
      · exact q F H _ (Same.refl _) T rx0
      · exact absurd (List.eq_nil_of_length_eq_zero l2) z
    · cases e
  · cases e
theorem op2_catT0 : Op2 c (rCatT0 c.C.K) catTD0 := by
  intro σ F H env s x y dx dy d Q T rx ry e q
  unfold catTD0 at e
  split at e
  · cases e
    have ry0 := ry
    obtain ⟨p1, vs, rfl, h2, h3⟩ := rx
    obtain ⟨p2, us, rfl, k2, k3⟩ := ry
    cases (show vs = [] from h3)
    exact ⟨p1, p2, us, rfl, rfl, sqT_same T.sub h2, sqT_same T.sub k2, q F H _ (Same.refl _) T ry0⟩
  · cases e
def catD (x y : D) : Option D := match (match catLD x y with | some d => some d | none => catTD x y) with
  | some d => some d
  | none => catTD0 x y
/-- x + y, lists or tuples -/
theorem d_cat (hk : c.C.K = X.K) (ha : PE X a (tM c ma)) (hb : PE X b (tM c mb)) : PE X (.BinOp a .Add b pos) (tM c (m2 catD ma mb)) :=
  d_op ((op_catL.or op_catT).or op_catT0) (hk ▸ (op2_catL.or op2_catT).or op2_catT0) ha hb
end
end DL
set_option Elab.async false
set_option linter.all false
set_option maxRecDepth 100000
set_option maxHeartbeats 1000000
namespace DL
open PySem PySem.Spec PyProof.Rows L2
section
variable {S : Type} {c : Ct S} {X : Cx} {a b : Expr} {pos : Pos} {ma mb : M S D} {k : Nat}
def inPD (x y : D) : Option D := match toPy x, toPy y with
  | some p, some (.list ps) => if SeqAt.shaped p = true ∧ SeqAt.shaped (.list ps) = true then some (.bl (ps.any fun z => PyData.eqv z p)) else none
  | _, _ => none
def notInPD (x y : D) : Option D := match inPD x y with
  | some (.bl r) => some (.bl (!r))
  | _ => none
theorem inPD_out {x y d : D} (e : inPD x y = some d) : ∃ p ps, toPy x = some p ∧ toPy y = some (.list ps) ∧ SeqAt.shaped p = true ∧ SeqAt.shaped (.list ps) = true ∧ d = .bl (ps.any fun z => PyData.eqv z p) := by
  unfold inPD at e
  split at e
  · rename_i p ps h1 h2
    split at e
    · rename_i hs
      cases e
      exact ⟨p, ps, h1, h2, hs.1, hs.2, rfl⟩
    · cases e
  · cases e
theorem op2_inP : Op2 c (rInD c.C.K) inPD := by
  intro σ F H env s x y dx dy d Q T rx ry e q
  obtain ⟨p, ps, h1, h2, h3, h4, rfl⟩ := inPD_out e
  exact ⟨p, ps, (dp_of T.sub rx h1).1, (dp_of T.sub ry h2).1, h3, h4, q F H _ (Same.refl _) T rfl⟩
theorem op2_notInP : Op2 c (rNotInD c.C.K) notInPD := by
  intro σ F H env s x y dx dy d Q T rx ry e q
  unfold notInPD at e
  split at e
  · rename_i r e1
    cases e
    obtain ⟨p, ps, h1, h2, h3, h4, h5⟩ := inPD_out e1
    cases h5
    exact ⟨p, ps, (dp_of T.sub rx h1).1, (dp_of T.sub ry h2).1, h3, h4, q F H _ (Same.refl _) T rfl⟩
  · cases e
theorem d_inP (o : XO X c k) (ha : PE X a (tM c ma)) (hb : PE X b (tM c mb)) (hm : behindInMarks .In b = false := by rfl) : PE X (.Compare a [.In] [b] pos) (tM c (m2 inPD ma mb)) :=
  d_cmp (op_inD (by have := o.rm.un; omega)) (o.hk ▸ op2_inP) ha hb hm
theorem d_notinP (o : XO X c k) (ha : PE X a (tM c ma)) (hb : PE X b (tM c mb)) (hm : behindInMarks .NotIn b = false := by rfl) : PE X (.Compare a [.NotIn] [b] pos) (tM c (m2 notInPD ma mb)) :=
  d_cmp (op_notInD (by have := o.rm.un; omega)) (o.hk ▸ op2_notInP) ha hb hm
theorem inPD_bl (x y d : D) (h : inPD x y = some d) : ∃ b, d = .bl b := by
  obtain ⟨_, _, _, _, _, _, r⟩ := inPD_out h
  exact ⟨_, r⟩
theorem notInPD_bl (x y d : D) (h : notInPD x y = some d) : ∃ b, d = .bl b := by
  unfold notInPD at h
  split at h
  · cases h; exact ⟨_, rfl⟩
  · cases h
theorem t_inP (o : XO X c k) (ha : PE X a (tM c ma)) (hb : PE X b (tM c mb)) (hm : behindInMarks .In b = false := by rfl) : PT X (.Compare a [.In] [b] pos) (tT c (truM (m2 inPD ma mb))) := t_cmpR (op_inD (by have := o.rm.un; omega)) (o.hk ▸ op2_inP) inPD_bl ha hb hm
theorem t_notinP (o : XO X c k) (ha : PE X a (tM c ma)) (hb : PE X b (tM c mb)) (hm : behindInMarks .NotIn b = false := by rfl) : PT X (.Compare a [.NotIn] [b] pos) (tT c (truM (m2 notInPD ma mb))) := t_cmpR (op_notInD (by have := o.rm.un; omega)) (o.hk ▸ op2_notInP) notInPD_bl ha hb hm
end
end DL
set_option Elab.async false
set_option linter.all false
set_option maxRecDepth 100000
set_option maxHeartbeats 1000000
namespace DL
open PySem PySem.Spec PyProof.Rows L2
section
variable {S : Type} {c : Ct S} {X : Cx} {a b e : Expr} {pos : Pos} {ma mb mc : M S D}
def truB : D → Option Bool
  | .bl b => some b
  | _ => none
def chT (f g : D → D → Option D) (ma mb mc : M S D) : M S Bool := DL.bindM ma fun x => DL.bindM mb fun y => DL.bindM (optM (f x y)) fun r => DL.bindM (optM (truB r)) fun k => if k = true then DL.bindM mc fun z => DL.bindM (optM (g y z)) fun r2 => optM (truB r2) else retM false
theorem t_chR {op op' : CmpOp} {r r' : R2} {f g : D → D → Option D} (ho : OpR X (compareOp op) r) (ho' : OpR X (compareOp op') r') (h2 : Op2 c r f) (h2' : Op2 c r' g) (hf : ∀ x y d, f x y = some d → ∃ b, d = .bl b) (hf' : ∀ x y d, g x y = some d → ∃ b, d = .bl b)
    (ha : PE X a (tM c ma)) (hb : PE X b (tM c mb)) (hc : PE X e (tM c mc)) (hm : lastMarks [op, op'] [b, e] = false) : PT X (.Compare a [op, op'] [b, e] pos) (tT c (chT f g ma mb mc)) := by
  refine PTimp (pt_chain ho ho' ha hb hc hm) fun σ H Q h => ?_
  obtain ⟨F, env, s, T, h⟩ := h
  refine ⟨F, env, s, T, h.bind.imp fun dx s1 F1 H1 e1 T1 q x rx => ?_⟩
  refine ⟨F1, env, s1, T1, q.bind.imp fun dy s2 F2 H2 e2 T2 q2 y ry => ?_⟩
  obtain ⟨d, e, q3⟩ := q2.bind.opt T2
  obtain ⟨b, rfl⟩ := hf dx dy d e
  refine h2 σ F2 H2 env s2 x y dx dy _ _ T2 (rx.mono e2) ry e fun F' H' v e' T' rv => ?_
  have q4 := q3 F' H' e' T'
  obtain ⟨k, ek, q5⟩ := q4.bind.opt T'
  cases ek
  have q6 := q5 F' H' (Same.refl _) T'
  refine ⟨b, rep_bl rv, ?_⟩
  cases b with
  | false => exact ⟨false, rfl, q6 F' H' (Same.refl _) T'⟩
  | true =>
    have q6 : Fin c F' σ env (DL.bindM mc (fun z => DL.bindM (optM (g dy z)) fun r2 => optM (truB r2)) env s2) _ := q6
    refine ⟨F', env, s2, T', q6.bind.imp fun dz s3 F3 H3 e3 T3 q7 z rz => ?_⟩
    obtain ⟨d2, e4, q8⟩ := q7.bind.opt T3
    obtain ⟨b2, rfl⟩ := hf' dy dz d2 e4
    refine h2' σ F3 H3 env s3 y z dy dz _ _ T3 ((ry.mono e').mono e3) rz e4 fun F4 H4 v2 e5 T4 rv2 => ?_
    have q9 := q8 F4 H4 e5 T4
    obtain ⟨k2, ek2, q10⟩ := q9.opt T4
    cases ek2
    exact ⟨b2, rep_bl rv2, q10 F4 H4 (Same.refl _) T4⟩
theorem op2_int {p : Int → Int → Bool} {f : D → D → Option D} (hf : ∀ x y d, f x y = some d → ∃ i j, x = .int i ∧ y = .int j ∧ d = .bl (p i j)) : Op2 c (rI0 fun i j => .bl (p i j)) f :=
  Op2.flat fun F x y dx dy d rx ry e => by
    obtain ⟨i, j, e1, e2, e3⟩ := hf dx dy d e
    subst e1; subst e2; subst e3
    cases rep_int rx; cases rep_int ry
    exact ⟨_, fun _ => rfl, fun H Q q => ⟨_, _, rfl, rfl, q⟩⟩
theorem ltD_out (x y d : D) (e : ltD x y = some d) : ∃ i j, x = .int i ∧ y = .int j ∧ d = .bl (decide (i < j)) := by unfold ltD at e; split at e <;> first | (cases e; exact ⟨_, _, rfl, rfl, rfl⟩) | cases e
theorem leD_out (x y d : D) (e : leD x y = some d) : ∃ i j, x = .int i ∧ y = .int j ∧ d = .bl (decide (i ≤ j)) := by unfold leD at e; split at e <;> first | (cases e; exact ⟨_, _, rfl, rfl, rfl⟩) | cases e
theorem ltD_bl (x y d : D) (e : ltD x y = some d) : ∃ b, d = .bl b := by obtain ⟨_, _, _, _, r⟩ := ltD_out x y d e; exact ⟨_, r⟩
theorem leD_bl (x y d : D) (e : leD x y = some d) : ∃ b, d = .bl b := by obtain ⟨_, _, _, _, r⟩ := leD_out x y d e; exact ⟨_, r⟩
theorem t_lele (ha : PE X a (tM c ma)) (hb : PE X b (tM c mb)) (hc : PE X e (tM c mc)) (hm : lastMarks [.LtE, .LtE] [b, e] = false := by with_unfolding_all rfl) : PT X (.Compare a [.LtE, .LtE] [b, e] pos) (tT c (chT leD leD ma mb mc)) :=
  t_chR op_le op_le (op2_int leD_out) (op2_int leD_out) leD_bl leD_bl ha hb hc hm
theorem t_ltlt (ha : PE X a (tM c ma)) (hb : PE X b (tM c mb)) (hc : PE X e (tM c mc)) (hm : lastMarks [.Lt, .Lt] [b, e] = false := by with_unfolding_all rfl) : PT X (.Compare a [.Lt, .Lt] [b, e] pos) (tT c (chT ltD ltD ma mb mc)) :=
  t_chR op_lt op_lt (op2_int ltD_out) (op2_int ltD_out) ltD_bl ltD_bl ha hb hc hm
end
end DL
set_option Elab.async false
set_option linter.all false
set_option maxRecDepth 100000
set_option maxHeartbeats 1000000
namespace DL
open PySem PySem.Spec PyProof.Rows L2
section
variable {S : Type} {c : Ct S} {X : Cx} {e : Expr} {pos p tpos : Pos} {m : M S D}
def enumL (ds : List D) : List D := ds.mapIdx fun i d => D.tup [.int (i : Int), d]
theorem jok_enum {C : DC} {K : PySem.W.Frag} (hk : C.K = K) {F : Hp} {a : Addr} {vs : List V} {ds : List D} (h : SqL K F a vs) (r : Reps C F ds vs) : JOk C (Ite K a) F (enumL ds) where
  go := fun i F' H e1 e2 hi => by
    have hi : i < ds.length := by unfold enumL at hi; simpa using hi
    obtain ⟨v, hv, _⟩ := r.get (List.getElem?_eq_getElem hi)
    exact ⟨vs, v, e2.seq (e1.seq h), hv⟩
  yl := fun i F' H x H' d e1 e2 hd y => by
    obtain ⟨T, x0, rfl, hT, rfl, hx⟩ := y
    unfold enumL at hd
    rw [List.getElem?_mapIdx] at hd
    cases q : ds[i]? with
    | none => rw [q] at hd; cases hd
    | some d0 =>
      rw [q] at hd; cases hd
      obtain ⟨v, hv, rv⟩ := r.get q
      have z := hx vs (e2.seq (e1.seq h))
      rw [hv] at z; cases z
      exact .inr ⟨T, .tup [.int (i : Int), x0], hT, (fun ps z => by cases z), rfl, T, _, rfl, SqT.of upd_same, _, _, rfl, rfl, _, _, rfl, (rv.mono e1).mono (same_upd (e2.free hT)), rfl⟩
  stop := fun i F' H e1 e2 hi => ⟨vs, e2.seq (e1.seq h), by rw [r.length]; unfold enumL at hi; simpa using hi⟩
def enumOf : D → Option (List D)
  | .lst xs => some (enumL xs)
  | _ => none
theorem i_enum {elts : List Expr} {kk : Nat} (hk : c.C.K = X.K) (hm : X.mg "enumerate" = none) (ha : PE X e (tM c m)) (hg : Gl X "enumerate" := by rfl) (hs : starEach [e] X.env = [(false, eval e X.env)] := by rfl) :
    PI X (.Tuple elts kk tpos) (.Call (.Name "enumerate" p) [e] [] pos) (tI c (itM enumOf m)) := by
  refine PIimp (pi_enum hg hm (a_cons ha a_nil hs) hs) fun σ H R h => ?_
  obtain ⟨F, env, s, T, h⟩ := h
  refine ⟨F, env, s, T, ?_⟩
  unfold itM at h
  refine Fin.cons1 (h.bind.imp fun d s1 F1 H1 e1 T1 q us rus => ?_)
  obtain ⟨v, rfl, rv⟩ := reps1 rus
  obtain ⟨ds, ed, q2⟩ := q.opt T1
  unfold enumOf at ed
  split at ed
  · cases ed
    obtain ⟨a, vs, rfl, h2, h3⟩ := rv
    exact ⟨a, vs, rfl, by rw [← hk]; exact T1.sub.seq h2, q2 F1 H1 (Same.refl _) T1 _ (jok_enum hk (by rw [← hk]; exact h2) h3)⟩
  · cases ed
end
end DL
set_option Elab.async false
set_option linter.all false
set_option maxRecDepth 100000
set_option maxHeartbeats 2000000
namespace DL
open PySem PySem.Spec PyProof.Rows L2
/-- what enumerate makes of a value whose iterator is a new cell -/
theorem enum_new {v : Value} {o : Obj} {H : Heap → Prop} (B : Begins v o H) :
    Meets (Builtin.«enumerate.__new__» ⟨[.type "enumerate", v], []⟩) (fun _ R s => H s.heap ∧
      R (.ok (.ret (.ref (s.heap.push o).objs.size))) { s with heap := (s.heap.push o).push { cls := .type "enumerate", data := .fields #[.none, .bool false, .ref s.heap.objs.size, rawInt 0, .none, .none] } }) :=
  .of_wp fun prog w A R s h => by
    obtain ⟨hp, g, d, tk, os⟩ := s
    obtain ⟨h1, hR⟩ := h
    have sub := sub_enumerate
    have it : ∀ {A' : Around} {E Q : Value → Shared → Prop}, Q (.ref hp.objs.size) ⟨hp.push o, g, d, tk, os⟩ → wpAny (model prog w) A' (pyIter v) Q E ⟨hp, g, d, tk, os⟩ := fun q => B.iter prog w _ _ ⟨hp, g, d, tk, os⟩ _ h1 q
    wp_walk using it
    refine wpAny_stack_any fun st => wpAny_pure ?_
    split
    · rename_i cl _ _ _ _ _
      cases (cl == Value.type "enumerate") <;> (wp_walk using it; exact ⟨_, rfl, hR⟩)
    · wp_walk using it
      exact ⟨_, rfl, hR⟩
section
variable {prog : Program} {w : World} {A : Around} {E : Value → Shared → Prop} {s : Shared}
theorem enum_call {v : Value} {o : Obj} {H : Heap → Prop} {Q : Value → Shared → Prop} (B : Begins v o H) (h1 : H s.heap) (h : ∀ h', IsEnum h' (s.heap.objs.size + 1) s.heap.objs.size 0 .none → h'.get? s.heap.objs.size = some o → h'.objs.size = s.heap.objs.size + 2 →
      (∀ b u, s.heap.get? b = some u → h'.get? b = some u) → Q (.ref (s.heap.objs.size + 1)) { s with heap := h' }) :
    wpAny (model prog w) A (call (.type "enumerate") [v]) Q E s := by
  refine callType_new F.called_enumerate (by decide) (F.typeCall_enumerate_1 _) (F.newCall_enumerate_1 _) (fun obj => F.args_object_init_2 obj _) F.entry_enumerate_new (enum_new B) ⟨h1, ?_⟩
  have z : (s.heap.push o).objs.size = s.heap.objs.size + 1 := Heap.size_push ..
  show _ ∧ _
  rw [z]
  have en : IsEnum ((s.heap.push o).push { cls := .type "enumerate", data := .fields #[.none, .bool false, .ref s.heap.objs.size, rawInt 0, .none, .none] }) (s.heap.objs.size + 1) s.heap.objs.size 0 .none := by
    have q := Heap.get?_push_size (s.heap.push o) (o := { cls := .type "enumerate", data := .fields #[.none, .bool false, .ref s.heap.objs.size, rawInt 0, .none, .none] }) rfl
    rw [z] at q
    exact q
  exact ⟨⟨_, en, rfl⟩, h _ en (Heap.get?_push_of_some _ (Heap.get?_push_size _ B.free)) (by rw [Heap.size_push, z]) fun b u x => Heap.get?_push_of_some _ (Heap.get?_push_of_some _ x)⟩
end
/-- the tuple at a at each turn, each item in a new pair -/
def IteT (K : PySem.W.Frag) (a : Addr) : It :=
  ⟨fun i H => ∃ (xs : List V) (x : V), SqT K H a xs ∧ xs[i]? = some x, fun i H v H' => ∃ T x, v = .ref T ∧ H T = none ∧ H' = upd H T (.tup [.int (i : Nat), x]) ∧ ∀ xs, SqT K H a xs → xs[i]? = some x, fun i H => ∃ xs : List V, SqT K H a xs ∧ xs.length ≤ i⟩
theorem turn_enumT {P : Program} {w : World} {K : PySem.W.Frag} {elts : List Expr} {kk : Nat} {tpos : Pos} (a e it : Addr) :
    Turn P w K (.Tuple elts kk tpos) (IteT K a) [e, it] e (fun i h => (∃ old, IsEnum h e it ((i : Nat) : Int) old) ∧ h.IsTupleIter it a i ∧ e ≠ it ∧ e ≠ a ∧ a ≠ it) where
  mem := by simp
  obj := fun i h st b hb => by
    obtain ⟨⟨old, he⟩, ⟨o, ho, hc, hd⟩, _⟩ := st
    have e' : b = e ∨ b = it := by simpa using hb
    rcases e' with z | z
    · rw [z]; exact ⟨_, he, fun v q => nomatch q⟩
    · rw [z]; exact ⟨o, ho, fun v q => by rw [hd] at q; cases q⟩
  keep := fun i h h' st k => let ⟨⟨old, he⟩, hi, n⟩ := st; ⟨⟨old, k e (by simp) _ he⟩, hi.at fun o q => k it (by simp) o q, n⟩
  item := by
    intro X hP hw hK hc i pins s σ H E I hf st hg
    subst hP hw hK
    obtain ⟨⟨old, he⟩, hit, hne, hea, hai⟩ := st
    obtain ⟨xs, x, hq, hx⟩ := hg
    obtain ⟨its, rv, p, hz⟩ := I.tuple hq
    obtain ⟨u, hu, ru⟩ := rv.get hx
    have hel : e < s.heap.objs.size := Heap.lt_size he
    have hil : it < s.heap.objs.size := by obtain ⟨_, q, _⟩ := hit; exact Heap.lt_size q
    have hlt : i < its.toArray.size := by
      have := (List.getElem?_eq_some_iff.mp hu).1
      simpa using this
    have D := Draws.tuple (prog := X.prog) (w := X.w) (A := X.A.in1) (show X.A.in1.handled = none from I.ok.hd hc) it a hai its.toArray
    refine wpAny_pyNext_enum_itemD D he ⟨hit, p⟩ hlt hne (by simp [hne, hea]) fun y h' tk hP ho hst' hT hsz hk => ?_
    obtain rfl : y = u := by
      have q1 : its.toArray[i]? = some y := hP
      have q2 : its.toArray[i]? = some u := by simpa using hu
      rw [q1] at q2; exact Option.some.inj q2
    refine ⟨_, rfl, wpAny_letOwnedTupleGo_enum (s := { s with heap := h', toks := tk + 1 }) ho fun h'' he' sb => ?_⟩
    have hT2 : h''.get? s.heap.objs.size = some { cls := .type "tuple", data := .seq #[.int i tk, y] } := (sb.2 _ (Nat.ne_of_gt hel)).trans hT
    have new : ObjOk X.prog X.w (upd H s.heap.objs.size (.tup [.int (i : Nat), x])) h'' s.heap.objs.size (.tup [.int (i : Nat), x]) :=
      ⟨by show 2 ≤ sizeLine; decide, [.int i tk, y], .cons ⟨_, rfl⟩ (.cons ru .nil), ⟨_, hT2, rfl, _, rfl⟩⟩
    have I1 : Inv X pins σ (upd H s.heap.objs.size (.tup [.int (i : Nat), x])) { s with heap := h'', toks := tk + 1 } :=
      I.turnedNew (ch := [e, it]) (fun b ob hb q => (sb.2 b (fun z => hb (by simp [z]))).trans (hk b ob (fun z => hb (by simp [z])) (fun z => hb (by simp [z])) q)) hf (Nat.le_refl _) new
    refine ⟨.ref s.heap.objs.size, _, I1, rfl, ⟨_, x, rfl, I.hok.fresh (Nat.le_refl _), rfl, fun ys hy => ?_⟩, ⟨⟨y, ?_⟩, hst'.1.at fun o q => (sb.2 it (Ne.symm hne)).trans q, hne, hea, hai⟩, fun b hb => ?_⟩
    · rw [I.tuple_inj hy hq]; exact hx
    · have e1 : ((i + 1 : Nat) : Int) = (i : Int) + 1 := by omega
      rw [e1]; exact he'
    · have hb' : b < s.heap.objs.size := by
        have e' : b = e ∨ b = it := by simpa using hb
        rcases e' with z | z
        · rw [z]; exact hel
        · rw [z]; exact hil
      rw [upd_ne (Nat.ne_of_lt hb')]
      exact (hf b hb).1
  done := by
    intro X hP hw hK hc i pins s σ H E I hf st hg
    subst hP hw hK
    obtain ⟨⟨old, he⟩, hit, hne, hea, hai⟩ := st
    obtain ⟨xs, hq, hx⟩ := hg
    obtain ⟨its, rv, p, hz⟩ := I.tuple hq
    obtain ⟨f0, f1, f2, f3, f4, f5⟩ := hf it (by simp)
    have hl := rv.length
    have hh : X.A.in1.handled = none := I.ok.hd hc
    have D : Draws X.prog X.w X.A.in1 it [it, a] i (fun _ _ => True) (fun j h => j = i ∧ h.IsTupleIter it a i ∧ h.IsTuple a its.toArray) :=
      { live := fun _ _ q => let ⟨o, ho, _⟩ := q.2.1; ⟨o, ho⟩
        frame := fun _ _ _ q hk => ⟨q.1, q.2.1.at fun o e => hk it (by simp) o e, q.2.2.at fun o e => hk a (by simp) o e⟩
        item := fun j s Q E hj q _ => absurd q.1 (Nat.ne_of_lt hj)
        done := fun s Q E q hE => wpAny_nextOf_tuple_end hh q.2.1 q.2.2 (by simp; omega) hE }
    exact wpAny_pyNext_enum_endD D he ⟨rfl, hit, p⟩ fun h' eb => ⟨rfl, I.turned (t' := s.toks) (fun b o hb q => eb b o hb q) f0 f1 f3 f4 f5⟩
  self := fun A i s Q E st h => let ⟨⟨_, he⟩, _⟩ := st; wpAny_pyIter_enum he h
/-- enumerate of a list or of a tuple -/
def iEnumA (K : PySem.W.Frag) (ta : TA) : TI := fun σ H R => ta σ H fun vs H1 => ∃ a xs, vs = [.ref a] ∧ ((SqL K H1 a xs ∧ R (Ite K a) H1) ∨ (SqT K H1 a xs ∧ R (IteT K a) H1))
theorem pi_enumA {X : Cx} {e : Expr} {ta : TA} {p pos tpos : Pos} {elts : List Expr} {kk : Nat} (hg : Gl X "enumerate") (hm : X.mg "enumerate" = none) (ha : PA X [e] ta) (hs : starEach [e] X.env = [(false, eval e X.env)] := by rfl) :
    PI X (.Tuple elts kk tpos) (.Call (.Name "enumerate" p) [e] [] pos) (iEnumA X.K ta) := by
  refine ⟨fun pins s σ H R I h => ?_⟩
  refine Call_ (ld_blt I hg hm boot_enumerate (PyProof.Rows.callWith_type1 (thn (ha.run pos pins s σ H _ I h) fun us s1 ⟨vs, H1, I1, r1, q1⟩ => ?_) hs rfl))
  obtain ⟨a, xs, ex, q1⟩ := q1
  subst ex
  cases r1 with
  | cons r rr =>
    cases rr
    cases r
    have fr : ∀ b, b ∈ [s1.heap.objs.size + 1, s1.heap.objs.size] → FpOk X pins H1 b := fun b hb => by
      have e' : b = s1.heap.objs.size + 1 ∨ b = s1.heap.objs.size := by simpa using hb
      have hle : s1.heap.objs.size ≤ b := by
        rcases e' with z | z
        · rw [z]; exact Nat.le_add_right _ _
        · rw [z]; exact Nat.le_refl _
      exact I1.fpOk hle (I1.hok.fresh hle)
    rcases q1 with ⟨hq, q⟩ | ⟨hq, q⟩
    · obtain ⟨its, rv, p', hz⟩ := I1.list hq
      refine call_enumerate_list p'.isList fun h' he hit hsz hk => wpAny_pyIter_enum he ?_
      have I2 : Inv X pins σ H1 { s1 with heap := h' } := I1.kept (t' := s1.toks) hk
      exact ⟨s1.heap.objs.size + 1, [s1.heap.objs.size + 1, s1.heap.objs.size], _, _, H1, rfl, I2, turn_enum a (s1.heap.objs.size + 1) s1.heap.objs.size, ⟨⟨.none, he⟩, hit, Nat.succ_ne_self _⟩, fr, q⟩
    · obtain ⟨its, rv, p', hz⟩ := I1.tuple hq
      have la : a < s1.heap.objs.size := by obtain ⟨_, z, _⟩ := id p'; exact Heap.lt_size z
      refine enum_call (begins_tuple a its.toArray) p' fun h' he hit hsz hk => wpAny_pyIter_enum he ?_
      have I2 : Inv X pins σ H1 { s1 with heap := h' } := I1.kept (t' := s1.toks) hk
      exact ⟨s1.heap.objs.size + 1, [s1.heap.objs.size + 1, s1.heap.objs.size], _, _, H1, rfl, I2, turn_enumT a (s1.heap.objs.size + 1) s1.heap.objs.size, ⟨⟨.none, he⟩, ⟨_, hit, rfl, rfl⟩, Nat.succ_ne_self _, Nat.ne_of_gt (Nat.lt_succ_of_lt la), Nat.ne_of_lt la⟩, fr, q⟩
theorem jok_enumT {C : DC} {K : PySem.W.Frag} (hk : C.K = K) {F : Hp} {a : Addr} {vs : List V} {ds : List D} (h : SqT K F a vs) (r : Reps C F ds vs) : JOk C (IteT K a) F (enumL ds) where
  go := fun i F' H e1 e2 hi => by
    have hi : i < ds.length := by unfold enumL at hi; simpa using hi
    obtain ⟨v, hv, _⟩ := r.get (List.getElem?_eq_getElem hi)
    exact ⟨vs, v, sqT_same e2 (sqT_same e1 h), hv⟩
  yl := fun i F' H x H' d e1 e2 hd y => by
    obtain ⟨T, x0, rfl, hT, rfl, hx⟩ := y
    unfold enumL at hd
    rw [List.getElem?_mapIdx] at hd
    cases q : ds[i]? with
    | none => rw [q] at hd; cases hd
    | some d0 =>
      rw [q] at hd; cases hd
      obtain ⟨v, hv, rv⟩ := r.get q
      have z := hx vs (sqT_same e2 (sqT_same e1 h))
      rw [hv] at z; cases z
      exact .inr ⟨T, .tup [.int (i : Int), x0], hT, (fun ps z => by cases z), rfl, T, _, rfl, SqT.of upd_same, _, _, rfl, rfl, _, _, rfl, (rv.mono e1).mono (same_upd (e2.free hT)), rfl⟩
  stop := fun i F' H e1 e2 hi => ⟨vs, sqT_same e2 (sqT_same e1 h), by rw [r.length]; unfold enumL at hi; simpa using hi⟩
section
variable {S : Type} {c : Ct S} {X : Cx} {e : Expr} {pos p tpos : Pos} {m : M S D}
def enumOfA : D → Option (List D)
  | .lst xs => some (enumL xs)
  | .tup xs => some (enumL xs)
  | _ => none
theorem i_enumA {elts : List Expr} {kk : Nat} (hk : c.C.K = X.K) (hm : X.mg "enumerate" = none) (ha : PE X e (tM c m)) (hg : Gl X "enumerate" := by rfl) (hs : starEach [e] X.env = [(false, eval e X.env)] := by rfl) :
    PI X (.Tuple elts kk tpos) (.Call (.Name "enumerate" p) [e] [] pos) (tI c (itM enumOfA m)) := by
  refine PIimp (pi_enumA hg hm (a_cons ha a_nil hs) hs) fun σ H R h => ?_
  obtain ⟨F, env, s, T, h⟩ := h
  refine ⟨F, env, s, T, ?_⟩
  unfold itM at h
  refine Fin.cons1 (h.bind.imp fun d s1 F1 H1 e1 T1 q us rus => ?_)
  obtain ⟨v, rfl, rv⟩ := reps1 rus
  obtain ⟨ds, ed, q2⟩ := q.opt T1
  unfold enumOfA at ed
  split at ed
  · cases ed
    obtain ⟨a, vs, rfl, h2, h3⟩ := rv
    exact ⟨a, vs, rfl, .inl ⟨by rw [← hk]; exact T1.sub.seq h2, q2 F1 H1 (Same.refl _) T1 _ (jok_enum hk (by rw [← hk]; exact h2) h3)⟩⟩
  · cases ed
    obtain ⟨a, vs, rfl, h2, h3⟩ := rv
    exact ⟨a, vs, rfl, .inr ⟨by rw [← hk]; exact sqT_same T1.sub h2, q2 F1 H1 (Same.refl _) T1 _ (jok_enumT hk (by rw [← hk]; exact h2) h3)⟩⟩
  · cases ed
end
end DL
set_option Elab.async false
set_option linter.all false
set_option maxRecDepth 100000
set_option maxHeartbeats 1000000
namespace DL
open PySem PySem.Spec PyProof.Rows L2
section
variable {S : Type} {c : Ct S} {X : Cx} {a b e e2 tg : Expr} {es : List Expr} {sts : List Stmt} {pos p tpos : Pos} {m : M S D} {ms : M S (List D)}
theorem ss_bad : PSs X sts (tS c badS) := ⟨fun pins s σ H D I h => by
  obtain ⟨F, env, s', T, h⟩ := h
  exact h.elim⟩
theorem reps3 {C : DC} {F : Hp} {d d' d'' : D} {vs : List V} (h : Reps C F [d, d', d''] vs) : ∃ v v' v'', vs = [v, v', v''] ∧ Rep C F d v ∧ Rep C F d' v' ∧ Rep C F d'' v'' := by
  obtain ⟨v, r, rfl, h1, h2⟩ := h
  obtain ⟨v', v'', rfl, h3, h4⟩ := reps2 h2
  exact ⟨v, v', v'', rfl, h1, h3, h4⟩
/-- x, y, z = e1, e2, e3 -/
def par3S (i j l : Nat) (ms : M S (List D)) : MS S := thenS ms fun ds => fun env s => match ds with
  | [x, y, z] => .ok (.nx (((env.set i (.d x)).set j (.d y)).set l (.d z)), s)
  | _ => .bad
theorem s_par3 {i j l : Nat} {x y z : Str} {px py pz pt : Pos} {kt k2 pt2} (hc : X.calm = true) (hN : X.N.Nodup) (ha : PA X [a, b, e] (tA c ms)) (hi : X.N[i]? = some x := by rfl) (hj : X.N[j]? = some y := by rfl) (hl : X.N[l]? = some z := by rfl) (hij : i ≠ j := by decide) (hil : i ≠ l := by decide) (hjl : j ≠ l := by decide)
    (hx : X.env.scope.names.lookup x = some .local := by rfl) (hy : X.env.scope.names.lookup y = some .local := by rfl) (hz : X.env.scope.names.lookup z = some .local := by rfl)
    (hw : swappedStores [.Tuple [.Name x px, .Name y py, .Name z pz] kt pt] (.Tuple [a, b, e] k2 pt2) X.env = pure (some [x, y, z]) := by rfl)
    (hs : swapsWithSole [.Tuple [.Name x px, .Name y py, .Name z pz] kt pt] (.Tuple [a, b, e] k2 pt2) pos.line X.env = pure false := by rfl) :
    PS X (.Assign [.Tuple [.Name x px, .Name y py, .Name z pz] kt pt] (.Tuple [a, b, e] k2 pt2) pos) (tS c (par3S i j l ms)) := by
  refine PSimp (ps_par3 hc hN hi hj hl hij hil hjl hx hy hz ha hw hs) fun D σ H h => ?_
  obtain ⟨F, env, s, T, h⟩ := h
  refine ⟨F, env, s, T, h.bind.imp fun ds s1 F1 H1 e1 T1 q vs rvs => ?_⟩
  match ds, q, rvs with
  | [x, y, z], q, rvs =>
    obtain ⟨v, v', v'', rfl, r1, r2, r3⟩ := reps3 rvs
    exact ⟨v, v', v'', rfl, q _ F1 H1 (Same.refl _) (((T1.setD r1).setD r2).setD r3)⟩
  | [], q, _ => exact q.elim
  | [_], q, _ => exact q.elim
  | [_, _], q, _ => exact q.elim
  | _ :: _ :: _ :: _ :: _, q, _ => exact q.elim
/-- x, y = e, [..], the list to be made longer -/
def parOS (i j : Nat) (m : M S D) (ms : M S (List D)) : MS S := thenS m fun d => thenS ms fun ds env s => if ds.length ≤ 1000 then .ok (.nx ((env.set i (.d d)).set j (.own ds)), s) else .bad
theorem s_parO {i j : Nat} {x y : Str} {px py pt lp : Pos} {kt k2 pt2} (hc : X.calm = true) (hN : X.N.Nodup) (he : PE X a (tM c m)) (ha : PA X es (tA c ms)) (hi : X.N[i]? = some x := by rfl) (hj : X.N[j]? = some y := by rfl) (hij : i ≠ j := by decide)
    (hx : X.env.scope.names.lookup x = some .local := by rfl) (hy : X.env.scope.names.lookup y = some .local := by rfl)
    (hs1 : starEach [a, .List es lp] X.env = (false, eval a X.env) :: starEach [.List es lp] X.env := by rfl) (hs2 : starEach [.List es lp] X.env = (false, eval (.List es lp) X.env) :: starEach [] X.env := by rfl)
    (hw : swappedStores [.Tuple [.Name x px, .Name y py] kt pt] (.Tuple [a, .List es lp] k2 pt2) X.env = pure (some [x, y]) := by rfl)
    (hs : swapsWithSole [.Tuple [.Name x px, .Name y py] kt pt] (.Tuple [a, .List es lp] k2 pt2) pos.line X.env = pure false := by rfl) :
    PS X (.Assign [.Tuple [.Name x px, .Name y py] kt pt] (.Tuple [a, .List es lp] k2 pt2) pos) (tS c (parOS i j m ms)) := by
  refine PSimp (ps_par hc hN hi hj hij hx hy (L2.pa_cons he (L2.pa_cons (pe_lst ha) L2.pa_nil hs2) hs1) hw hs) fun D σ H h => ?_
  obtain ⟨F, env, s, T, h⟩ := h
  refine ⟨F, env, s, T, h.bind.imp fun d s1 F1 H1 e1 T1 q v rv => ?_⟩
  refine ⟨F1, env, s1, T1, q.bind.imp fun ds s2 F2 H2 e2 T2 q2 vs rvs => ?_⟩
  split at q2
  · rename_i hl
    refine ⟨by rw [rvs.length]; exact le_line hl, fun p np => ⟨v, .ref p, rfl, ?_⟩⟩
    have T3 := T2.setD (i := i) (rv.mono e2)
    have T4 := T3.newM (o := .lst vs) np
    have no : ∀ k, ¬ OwnAt (env.set i (.d d)) (σ.set i (some v)) k p := fun k z => (T3.own_there z).2.1 np
    exact q2 _ F2 _ (Same.refl _) (T4.setOwn upd_same (T2.ff np) rvs (fun z => T2.exfree np z) no (T2.h0 np))
  · exact q2.elim
/-- for x in v, v a list or a tuple -/
def iSeqA (K : PySem.W.Frag) (tl : TE) : TI := fun σ H R => tl σ H fun x H1 => ∃ a, x = .ref a ∧ (((∃ xs, SqL K H1 a xs) ∧ R (Itl K a) H1) ∨ ((∃ xs, SqT K H1 a xs) ∧ R (Itt K a) H1))
theorem pi_seqA {l : Expr} {tl : TE} (hl : PE X l tl) : PI X tg l (iSeqA X.K tl) := by
  refine ⟨fun pins s σ H R I h => ?_⟩
  refine thn (hl.run pins s σ H _ I h) fun v s1 ⟨x, H1, I1, r1, q1⟩ => ?_
  obtain ⟨a, rfl, q1⟩ := q1
  cases r1
  have fr : ∀ b, b ∈ [s1.heap.objs.size] → FpOk X pins H1 b := fun b hb => by
    have z : b = s1.heap.objs.size := by simpa using hb
    subst z
    exact I1.fpOk (Nat.le_refl _) (I1.hok.fresh (Nat.le_refl _))
  rcases q1 with ⟨⟨xs, hq⟩, q⟩ | ⟨⟨xs, hq⟩, q⟩
  · obtain ⟨its, rv, p, _⟩ := I1.list hq
    refine wpAny_pyIter_list p.isList ?_
    exact ⟨s1.heap.objs.size, [s1.heap.objs.size], _, _, H1, rfl, I1.kept (t' := s1.toks) fun b o z => Heap.get?_push_of_some _ z, turn_list a _, ⟨_, Heap.get?_push_size _ rfl, rfl, rfl⟩, fr, q⟩
  · obtain ⟨its, rv, p, _⟩ := I1.tuple hq
    refine wpAny_pyIter_tuple (show s1.heap.IsTuple a its.toArray from p) ?_
    exact ⟨s1.heap.objs.size, [s1.heap.objs.size], _, _, H1, rfl, I1.kept (t' := s1.toks) fun b o z => Heap.get?_push_of_some _ z, turn_tuple a _, ⟨_, Heap.get?_push_size _ rfl, rfl, rfl⟩, fr, q⟩
def seqOf : D → Option (List D)
  | .lst xs => some xs
  | .tup xs => some xs
  | _ => none
theorem i_seq (hk : c.C.K = X.K) (he : PE X e (tM c m)) : PI X tg e (tI c (itM seqOf m)) := by
  refine PIimp (pi_seqA he) fun σ H R h => ?_
  obtain ⟨F, env, s, T, h⟩ := h
  refine ⟨F, env, s, T, h.bind.imp fun d s1 F1 H1 e1 T1 q v rv => ?_⟩
  obtain ⟨ds, ed, q2⟩ := q.opt T1
  unfold seqOf at ed
  split at ed
  · cases ed
    obtain ⟨a, vs, rfl, h2, h3⟩ := rv
    have h2' : SqL X.K F1 a vs := by rw [← hk]; exact h2
    exact ⟨a, rfl, .inl ⟨⟨vs, by rw [← hk]; exact T1.sub.seq h2⟩, q2 F1 H1 (Same.refl _) T1 _ (jok_list hk h2' h3)⟩⟩
  · cases ed
    obtain ⟨a, vs, rfl, h2, h3⟩ := rv
    have h2' : SqT X.K F1 a vs := by rw [← hk]; exact h2
    exact ⟨a, rfl, .inr ⟨⟨vs, by rw [← hk]; exact sqT_same T1.sub h2⟩, q2 F1 H1 (Same.refl _) T1 _ (jok_tup hk h2' h3)⟩⟩
  · cases ed
def isi2D (f g : D → Option D) (d : D) : Option D := match f d, g d with | some (.bl x), some (.bl y) => some (.bl (x || y)) | _, _ => none
end
end DL

set_option Elab.async false
set_option linter.all false
set_option maxRecDepth 100000
set_option maxHeartbeats 1000000
namespace DL
open PySem PySem.Spec PyProof.Rows L2
theorem ev_yesM {S : Type} {env : DL.Env} {s : S} : (yesM : M S Bool) env s = .ok (true, s) := Eq.trans rfl rfl
theorem ev_m1 {S : Type} {f : D → Option D} {ma : M S D} {env : DL.Env} {s : S} : m1 f ma env s = (DL.bindM ma fun x => optM (f x)) env s := Eq.trans rfl rfl
theorem ev_m2 {S : Type} {f : D → D → Option D} {ma mb : M S D} {env : DL.Env} {s : S} : m2 f ma mb env s = (DL.bindM ma fun x => DL.bindM mb fun y => optM (f x y)) env s := Eq.trans rfl rfl
theorem ev_consM {S : Type} {ma : M S D} {ms : M S (List D)} {env : DL.Env} {s : S} : consM ma ms env s = (DL.bindM ma fun x => DL.bindM ms fun xs => retM (x :: xs)) env s := Eq.trans rfl rfl
theorem ev_callM {S : Type} {f : List D → Option D} {ms : M S (List D)} {env : DL.Env} {s : S} : callM f ms env s = (DL.bindM ms fun ds => optM (f ds)) env s := Eq.trans rfl rfl
theorem ev_callF {S : Type} {n : Nat} {mf : List D → S → R (D × S) S} {dds : List D} {ms : M S (List D)} {env : DL.Env} {s : S} : callF n mf dds ms env s = (DL.bindM ms fun ds _ s => if (ds ++ dds).length = n then mf (ds ++ dds) s else .bad) env s := Eq.trans rfl rfl
theorem ev_truM {S : Type} {ma : M S D} {env : DL.Env} {s : S} : truM ma env s = (DL.bindM ma fun x => optM (truD x)) env s := Eq.trans rfl rfl
theorem ev_andT {S : Type} {ta tb : M S Bool} {env : DL.Env} {s : S} : andT ta tb env s = (DL.bindM ta fun k => if k = true then tb else retM false) env s := Eq.trans rfl rfl
theorem ev_orT {S : Type} {ta tb : M S Bool} {env : DL.Env} {s : S} : orT ta tb env s = (DL.bindM ta fun k => if k = true then retM true else tb) env s := Eq.trans rfl rfl
theorem ev_notT {S : Type} {ta : M S Bool} {env : DL.Env} {s : S} : notT ta env s = (DL.bindM ta fun k => retM (!k)) env s := Eq.trans rfl rfl
theorem ev_andV {S : Type} {ma mb : M S D} {env : DL.Env} {s : S} : andV ma mb env s = (DL.bindM ma fun x => DL.bindM (optM (truD x)) fun k => if k = true then mb else retM x) env s := Eq.trans rfl rfl
theorem ev_orV {S : Type} {ma mb : M S D} {env : DL.Env} {s : S} : orV ma mb env s = (DL.bindM ma fun x => DL.bindM (optM (truD x)) fun k => if k = true then retM x else mb) env s := Eq.trans rfl rfl
theorem ev_notV {S : Type} {ma : M S D} {env : DL.Env} {s : S} : notV ma env s = (m1 (fun x => (truD x).map fun k => .bl (!k)) ma) env s := Eq.trans rfl rfl
theorem ev_ifM {S : Type} {t : M S Bool} {ma mb : M S D} {env : DL.Env} {s : S} : ifM t ma mb env s = (DL.bindM t fun k => if k = true then ma else mb) env s := Eq.trans rfl rfl
theorem ev_tupM {S : Type} {ms : M S (List D)} {env : DL.Env} {s : S} : tupM ms env s = (DL.bindM ms fun ds => optM (tupD ds)) env s := Eq.trans rfl rfl
theorem ev_lstM {S : Type} {ms : M S (List D)} {env : DL.Env} {s : S} : lstM ms env s = (DL.bindM ms fun ds => optM (lstD ds)) env s := Eq.trans rfl rfl
theorem ev_partM {S : Type} {m : M S D} {env : DL.Env} {s : S} : partM m env s = (DL.bindM m fun x => optM (partD x)) env s := Eq.trans rfl rfl
theorem ev_parS {S : Type} {i j : Nat} {ms : M S (List D)} {env : DL.Env} {s : S} : parS i j ms env s = (thenS ms fun ds => fun env s => match ds with
  | [x, y] => .ok (.nx ((env.set i (.d x)).set j (.d y)), s)
  | _ => .bad) env s := Eq.trans rfl rfl
theorem ev_par3S {S : Type} {i j l : Nat} {ms : M S (List D)} {env : DL.Env} {s : S} : par3S i j l ms env s = (thenS ms fun ds => fun env s => match ds with
  | [x, y, z] => .ok (.nx (((env.set i (.d x)).set j (.d y)).set l (.d z)), s)
  | _ => .bad) env s := Eq.trans rfl rfl
theorem ev_parOS {S : Type} {i j : Nat} {m : M S D} {ms : M S (List D)} {env : DL.Env} {s : S} : parOS i j m ms env s = (thenS m fun d => thenS ms fun ds env s => if ds.length ≤ 1000 then .ok (.nx ((env.set i (.d d)).set j (.own ds)), s) else .bad) env s := Eq.trans rfl rfl
theorem ev_asgS {S : Type} {tg : Tg} {m : M S D} {env : DL.Env} {s : S} : asgS tg m env s = (thenS m fun d => fun env s => match assignT tg d env with
  | some env' => .ok (.nx env', s)
  | none => .bad) env s := Eq.trans rfl rfl
theorem ev_setS {S : Type} {i : Nat} {m : M S D} {env : DL.Env} {s : S} : setS i m env s = (thenS m fun d => fun env s => .ok (.nx (env.set i (.d d)), s)) env s := Eq.trans rfl rfl
theorem ev_retS {S : Type} {m : M S D} {env : DL.Env} {s : S} : retS m env s = (thenS m fun d => fun _ s => .ok (.rt d, s)) env s := Eq.trans rfl rfl
theorem ev_exprS {S : Type} {m : M S D} {env : DL.Env} {s : S} : exprS m env s = (thenS m fun _ => nextS) env s := Eq.trans rfl rfl
theorem ev_ifS {S : Type} {t : M S Bool} {m1 m2 : MS S} {env : DL.Env} {s : S} : ifS t m1 m2 env s = (thenS t fun k => if k = true then m1 else m2) env s := Eq.trans rfl rfl
theorem ev_ownS {S : Type} {i : Nat} {ms : M S (List D)} {env : DL.Env} {s : S} : ownS i ms env s = (thenS ms fun ds env s => if ds.length ≤ 1000 then .ok (.nx (env.set i (.own ds)), s) else .bad) env s := Eq.trans rfl rfl
theorem ev_raiseS {S : Type} {k n : Nat} {ms : M S (List D)} {env : DL.Env} {s : S} : raiseS k n ms env s = (thenS ms fun ds env s => if ds.length = n then .exc k ds (env, s) else .bad) env s := Eq.trans rfl rfl
theorem ev_makeF {S : Type} {q n : Nat} {mi : List D → S → R (List D × S) S} {dds : List D} {ms : M S (List D)} {env : DL.Env} {s : S} : makeF q n mi dds ms env s = (DL.bindM ms fun ds _ s => makeR q n mi (ds ++ dds) s) env s := Eq.trans rfl rfl
theorem ev_methF {S : Type} {q n : Nat} {mf : List D → S → R (D × S) S} {dds : List D} {mo : M S D} {ms : M S (List D)} {env : DL.Env} {s : S} : methF q n mf dds mo ms env s = (DL.bindM mo fun x => match x with
  | .obj k _ => if k = q then (DL.bindM ms fun ds _ s => if (x :: (ds ++ dds)).length = n then mf (x :: (ds ++ dds)) s else .bad) else fun _ _ => .bad
  | _ => fun _ _ => .bad) env s := Eq.trans rfl rfl
theorem ev_chT {S : Type} {f g : D → D → Option D} {ma mb mc : M S D} {env : DL.Env} {s : S} : chT f g ma mb mc env s = (DL.bindM ma fun x => DL.bindM mb fun y => DL.bindM (optM (f x y)) fun r => DL.bindM (optM (truB r)) fun k => if k = true then DL.bindM mc fun z => DL.bindM (optM (g y z)) fun r2 => optM (truB r2) else retM false) env s := Eq.trans rfl rfl
theorem ev_itM {S : Type} {f : D → Option (List D)} {m : M S D} {env : DL.Env} {s : S} : itM f m env s = (DL.bindM m fun d => optM (f d)) env s := Eq.trans rfl rfl
theorem ev_itA {S : Type} {f : List D → Option (List D)} {ms : M S (List D)} {env : DL.Env} {s : S} : itA f ms env s = (DL.bindM ms fun ds => optM (f ds)) env s := Eq.trans rfl rfl
theorem ev_sliceM {S : Type} {m : M S D} {ml mh : M S (Option Int)} {env : DL.Env} {s : S} : sliceM m ml mh env s = (DL.bindM m fun x => DL.bindM ml fun lo => DL.bindM mh fun hi => optM (sliceD lo hi x)) env s := Eq.trans rfl rfl
theorem ev_selfS {S : Type} {i q jx : Nat} {m : M S D} {env : DL.Env} {s : S} : selfS i q jx m env s = (thenS m fun d => fun env s => match env[i]? with
  | some (.ins k fs) => if k = q ∧ fs.length = jx then .ok (.nx (env.set i (.ins q (fs ++ [d]))), s) else .bad
  | _ => .bad) env s := Eq.trans rfl rfl
theorem ev_penGet {i : Nat} {mo : M Pen D} {env : DL.Env} {s : Pen} : penGet i mo env s = (DL.bindM mo fun x => fun _ s => match x with
  | .st => match s.get i with | some d => .ok (d, s) | none => .bad
  | _ => .bad) env s := Eq.trans rfl rfl
theorem ev_penPut {i : Nat} {mo mv : M Pen D} {env : DL.Env} {s : Pen} : penPut i mo mv env s = (thenS mv fun v => thenS mo fun x => fun env s => match x, v with
  | .st, .int z => match s.put i z with | some s' => .ok (.nx env, s') | none => .bad
  | _, _ => .bad) env s := Eq.trans rfl rfl
theorem ev_mStr1 {S : Type} {f : D → D → Option D} {ma mb : M S D} {env : DL.Env} {s : S} : mStr1 f ma mb env s = (DL.bindM ma fun x => if isStr x = true then DL.bindM mb fun y => optM (f x y) else fun _ _ => .bad) env s := Eq.trans rfl rfl
theorem ev_binO {S : Type} {q : Nat} {mf : List D → S → R (D × S) S} {ma mb : M S D} {env : DL.Env} {s : S} : binO q mf ma mb env s = (DL.bindM ma fun x => DL.bindM mb fun y => fun _ s => match x, y with
  | .obj k fs, .obj k2 fs2 => if k = q ∧ k2 = q then mf [.obj k fs, .obj k2 fs2] s else .bad
  | _, _ => .bad) env s := Eq.trans rfl rfl
theorem ev_negO {S : Type} {q : Nat} {mf : List D → S → R (D × S) S} {ma : M S D} {env : DL.Env} {s : S} : negO q mf ma env s = (DL.bindM ma fun x => match x with
  | .int i => retM (.int (-i))
  | _ => oneF q mf x) env s := Eq.trans rfl rfl
theorem ev_strO {S : Type} {q : Nat} {mf : List D → S → R (D × S) S} {ma : M S D} {env : DL.Env} {s : S} : strO q mf ma env s = (DL.bindM ma fun x => match x with
  | .int i => if i.natAbs.log2 < 1920 then retM (.str (toString i)) else fun _ _ => .bad
  | .obj k _ => fun _ s => if k = q then (match mf [x] s with
    | .ok (.str y, s') => .ok (.str y, s')
    | .exc k fs s' => .exc k fs s'
    | _ => .bad) else .bad
  | _ => fun _ _ => .bad) env s := Eq.trans rfl rfl
theorem ev_forS {S : Type} {tg : Tg} {mi : M S (List D)} {mb : MS S} {env : DL.Env} {s : S} : forS tg mi mb env s = (thenS mi fun ds => forLoop tg mb ds) env s := Eq.trans rfl rfl
theorem ev_bindM {S α β : Type} {m : M S α} {f : α → M S β} {env : DL.Env} {s : S} : DL.bindM m f env s = (match m env s with
  | .ok (a, s') => f a env s'
  | .exc k fs s' => .exc k fs s'
  | .bad => .bad) := Eq.trans rfl rfl
theorem ev_thenS {S α : Type} {m : M S α} {f : α → MS S} {env : DL.Env} {s : S} : thenS m f env s = (match m env s with
  | .ok (a, s') => f a env s'
  | .exc k fs s' => .exc k fs (env, s')
  | .bad => .bad) := Eq.trans rfl rfl
theorem ev_retM {S α : Type} {a : α} {env : DL.Env} {s : S} : (retM a : M S α) env s = .ok (a, s) := Eq.trans rfl rfl
theorem ev_optM {S α : Type} {o : Option α} {env : DL.Env} {s : S} : (optM o : M S α) env s = (match o with | some a => .ok (a, s) | none => .bad) := Eq.trans rfl rfl
theorem ev_mVar {S : Type} {i : Nat} {env : DL.Env} {s : S} : (mVar i : M S D) env s = (match env[i]? with | some (.d x) => .ok (x, s) | _ => .bad) := Eq.trans rfl rfl
theorem ev_nextS {S : Type} {env : DL.Env} {s : S} : (nextS : MS S) env s = .ok (.nx env, s) := Eq.trans rfl rfl
section
variable {S α ε : Type}
/-- (a structure, that nothing looks through it) -/
structure W (r : R α ε) (P : α → Prop) (E : Nat → List D → ε → Prop) : Prop where
  out : match r with
    | .ok a => P a
    | .exc k fs e => E k fs e
    | .bad => False
theorem W_ok {a : α} {P : α → Prop} {E : Nat → List D → ε → Prop} : W (.ok a) P E = P a := propext ⟨fun h => h.out, fun h => ⟨h⟩⟩
theorem W_exc {k : Nat} {fs : List D} {e : ε} {P : α → Prop} {E : Nat → List D → ε → Prop} : W (.exc k fs e) P E = E k fs e := propext ⟨fun h => h.out, fun h => ⟨h⟩⟩
theorem W.eq {r : R α ε} {v : α} {E : Nat → List D → ε → Prop} (h : W r (fun a => a = v) E) (hE : ∀ k fs e, ¬ E k fs e) : r = .ok v := by
  cases r with
  | ok a => exact congrArg R.ok h.out
  | exc k fs e => exact absurd h.out (hE k fs e)
  | bad => exact h.out.elim
theorem W.ex {r : R α ε} {P : α → Prop} {E : Nat → List D → ε → Prop} (h : W r P E) (hE : ∀ k fs e, ¬ E k fs e) : ∃ a, r = .ok a ∧ P a := by
  cases r with
  | ok a => exact ⟨a, rfl, h.out⟩
  | exc k fs e => exact absurd h.out (hE k fs e)
  | bad => exact h.out.elim
theorem W.imp {r : R α ε} {P Q : α → Prop} {E : Nat → List D → ε → Prop} (h : W r P E) (k : ∀ a, P a → Q a) : W r Q E := by
  cases r with
  | ok a => exact ⟨k a h.out⟩
  | exc k fs e => exact ⟨h.out⟩
  | bad => exact h.out.elim
/-- no error -/
abbrev noE : Nat → List D → ε → Prop := fun _ _ _ => False
/-- what follows a statement -/
def KS (m : MS S) (P : Out × S → Prop) (E : Nat → List D → DL.Env × S → Prop) : Out × S → Prop
  | (.nx e, s) => W (m e s) P E
  | os => P os
theorem KS_nx {m : MS S} {P : Out × S → Prop} {E : Nat → List D → DL.Env × S → Prop} {e : DL.Env} {s : S} : KS m P E (.nx e, s) = W (m e s) P E := rfl
theorem KS_rt {m : MS S} {P : Out × S → Prop} {E : Nat → List D → DL.Env × S → Prop} {d : D} {s : S} : KS m P E (.rt d, s) = P (.rt d, s) := rfl
variable {m1' m2' mb : MS S} {env env' : DL.Env} {s s' s1 : S} {P : Out × S → Prop} {E : Nat → List D → DL.Env × S → Prop} {tg : Tg} {mi : M S (List D)} {ds : List D} {mt : M S Bool} {me : M S D} {vs : List Nat}
theorem W.seq (h : W (m1' env s) (KS m2' P E) E) : W (seqS m1' m2' env s) P E := by
  unfold seqS
  cases q : m1' env s with
  | ok a =>
    rw [q] at h
    obtain ⟨o, s'⟩ := a
    cases o with
    | nx e => exact h.out
    | _ => exact ⟨h.out⟩
  | exc k fs e => rw [q] at h; exact ⟨h.out⟩
  | bad => rw [q] at h; exact h.out.elim
theorem W.step {e : DL.Env} (h : m1' env s = .ok (.nx e, s')) (h2 : W (m2' e s') P E) : W (seqS m1' m2' env s) P E := W.seq (by rw [h]; exact ⟨h2⟩)
theorem W.at {o : Out} (h : mb env s = .ok (o, s')) (h2 : P (o, s')) : W (mb env s) P E := by rw [h]; exact ⟨h2⟩
/-- the end of a lap -/
def KL (I : DL.Env → S → Prop) (P : Out × S → Prop) : Out × S → Prop
  | (.nx e, s) => I e s
  | (.ct e, s) => I e s
  | (.bk e, s) => P (.nx e, s)
  | (.rt d, s) => P (.rt d, s)
theorem KL_nx {I : DL.Env → S → Prop} {e : DL.Env} : KL I P (.nx e, s) = I e s := rfl
theorem KL_rt {I : DL.Env → S → Prop} {d : D} : KL I P (.rt d, s) = P (.rt d, s) := rfl
theorem W.loop (I : List D → DL.Env → S → Prop) (hs : ∀ d r env s, I (d :: r) env s → ∃ e1, assignT tg d env = some e1 ∧ W (mb e1 s) (KL (I r) P) E) (he : ∀ env s, I [] env s → P (.nx env, s)) :
    ∀ (ds : List D) (env : DL.Env) (s : S), I ds env s → W (forLoop tg mb ds env s) P E
  | [], env, s, h => ⟨he env s h⟩
  | d :: r, env, s, h => by
    obtain ⟨e1, h1, h2⟩ := hs d r env s h
    unfold forLoop
    rw [h1]
    dsimp only
    cases q : mb e1 s with
    | ok a =>
      rw [q] at h2
      obtain ⟨o, s'⟩ := a
      cases o with
      | nx e => exact W.loop I hs he r e s' h2.out
      | ct e => exact W.loop I hs he r e s' h2.out
      | bk e => exact ⟨h2.out⟩
      | rt d => exact ⟨h2.out⟩
    | exc k fs e => rw [q] at h2; exact ⟨h2.out⟩
    | bad => rw [q] at h2; exact h2.out.elim
theorem W.for (hi : mi env s = .ok (ds, s1)) (I : List D → DL.Env → S → Prop) (h0 : I ds env s1) (hs : ∀ d r env s, I (d :: r) env s → ∃ e1, assignT tg d env = some e1 ∧ W (mb e1 s) (KL (I r) P) E) (he : ∀ env s, I [] env s → P (.nx env, s)) : W (forS tg mi mb env s) P E := by
  unfold forS thenS
  rw [hi]
  exact W.loop I hs he ds env s1 h0
/-- a loop over data of a kind -/
theorem W.forT {α : Type} (enc : α → D) {xs : List α} (hi : mi env s = .ok (xs.map enc, s1)) (I : List α → DL.Env → S → Prop) (h0 : I xs env s1) (hs : ∀ x r env s, I (x :: r) env s → ∃ e1, assignT tg (enc x) env = some e1 ∧ W (mb e1 s) (KL (I r) P) E) (he : ∀ env s, I [] env s → P (.nx env, s)) : W (forS tg mi mb env s) P E := by
  refine W.for hi (fun ds env s => ∃ r, ds = r.map enc ∧ I r env s) ⟨xs, rfl, h0⟩ (fun d r env s h => ?_) fun env s h => ?_
  · obtain ⟨r', e, h⟩ := h
    cases r' with
    | nil => cases e
    | cons x r' =>
      cases e
      obtain ⟨e1, h1, h2⟩ := hs x r' env s h
      refine ⟨e1, h1, h2.imp fun a ha => ?_⟩
      obtain ⟨o, s'⟩ := a
      cases o with
      | nx e => exact ⟨r', rfl, ha⟩
      | ct e => exact ⟨r', rfl, ha⟩
      | bk e => exact ha
      | rt d => exact ha
  · obtain ⟨r', e, h⟩ := h
    cases r' with
    | nil => exact he env s h
    | cons x r' => cases e
/-- a comprehension over data of a kind, by what holds of the gathered -/
theorem lcLoop_inv {α : Type} (enc : α → D) {g : Tg} {e0 : DL.Env} (I : List α → List D → S → Prop) (hs : ∀ x r acc s, I (x :: r) acc s → ∃ e1 b s1, assignT g (enc x) e0 = some e1 ∧ mt e1 s = .ok (b, s1) ∧ (b = false → I r acc s1) ∧ (b = true → acc.length < 1000000 ∧ ∃ d s2, me e1 s1 = .ok (d, s2) ∧ I r (acc ++ [d]) s2)) :
    ∀ (xs : List α) (acc : List D) (s : S), I xs acc s → ∃ acc' s', lcLoop g mt me (xs.map enc) acc e0 s = .ok (acc', s') ∧ I [] acc' s'
  | [], acc, s, h => ⟨acc, s, rfl, h⟩
  | x :: xs, acc, s, h => by
    obtain ⟨e1, b, s1, h1, h2, h3, h4⟩ := hs x xs acc s h
    cases b with
    | false =>
      obtain ⟨acc', s', k1, k2⟩ := lcLoop_inv enc I hs xs acc s1 (h3 rfl)
      exact ⟨acc', s', by rw [List.map_cons, lc_skip h1 h2]; exact k1, k2⟩
    | true =>
      obtain ⟨hl, d, s2, h5, h6⟩ := h4 rfl
      obtain ⟨acc', s', k1, k2⟩ := lcLoop_inv enc I hs xs (acc ++ [d]) s2 h6
      exact ⟨acc', s', by rw [List.map_cons, lc_pass h1 h2 hl h5]; exact k1, k2⟩
theorem lc_inv {α : Type} (enc : α → D) {xs : List α} {g : Tg} (hi : mi env s = .ok (xs.map enc, s1)) (hno : noOwn env vs = true) (I : List α → List D → S → Prop) (h0 : I xs [] s1)
    (hs : ∀ x r acc s, I (x :: r) acc s → ∃ e1 b s1, assignT g (enc x) (wipeE env vs) = some e1 ∧ mt e1 s = .ok (b, s1) ∧ (b = false → I r acc s1) ∧ (b = true → acc.length < 1000000 ∧ ∃ d s2, me e1 s1 = .ok (d, s2) ∧ I r (acc ++ [d]) s2)) :
    ∃ acc s', lcM g mi mt me vs env s = .ok (.lst acc, s') ∧ I [] acc s' := by
  obtain ⟨acc, s', k1, k2⟩ := lcLoop_inv enc I hs xs [] s1 h0
  refine ⟨acc, s', ?_, k2⟩
  unfold lcM DL.bindM
  rw [hi]
  dsimp only
  rw [if_pos hno, k1]
/-- .. that changes nothing -/
theorem lc_map {α : Type} (enc : α → D) {xs : List α} {g : Tg} (hi : mi env s = .ok (xs.map enc, s1)) (hno : noOwn env vs = true) (p : α → Bool) (f : α → D) (hl : xs.length < 1000000)
    (hs : ∀ x ∈ xs, ∃ e1, assignT g (enc x) (wipeE env vs) = some e1 ∧ mt e1 s1 = .ok (p x, s1) ∧ (p x = true → me e1 s1 = .ok (f x, s1))) :
    lcM g mi mt me vs env s = .ok (.lst ((xs.filter p).map f), s1) := by
  obtain ⟨acc, s', k1, k2⟩ := lc_inv (mt := mt) (me := me) (g := g) enc hi hno (fun r acc s' => s' = s1 ∧ ∃ l, xs = l ++ r ∧ acc = (l.filter p).map f) ⟨rfl, [], rfl, rfl⟩ fun x r acc s' h => by
    obtain ⟨hz, l, e1, hacc⟩ := h
    subst hz
    subst hacc
    have hx : x ∈ xs := by rw [e1]; simp
    obtain ⟨e2, h1, h2, h3⟩ := hs x hx
    refine ⟨e2, p x, _, h1, h2, fun hp => ⟨rfl, l ++ [x], by rw [e1]; simp, by simp [hp]⟩, fun hp => ⟨?_, _, _, h3 hp, rfl, l ++ [x], by rw [e1]; simp, by simp [hp]⟩⟩
    have := List.length_filter_le p l
    have : l.length ≤ xs.length := by rw [e1]; simp
    rw [List.length_map]; omega
  obtain ⟨rfl, l, e, rfl⟩ := k2
  rw [List.append_nil] at e
  subst e
  exact k1
/-- a while, by a measure -/
theorem W.whileN (I : Nat → DL.Env → S → Prop) (hs : ∀ n env s, I n env s → ∃ b s1, mt env s = .ok (b, s1) ∧ (b = false → P (.nx env, s1)) ∧ (b = true → W (mb env s1) (KL (fun e s => ∃ k, k < n ∧ I k e s) P) E)) :
    ∀ (f n : Nat) (env : DL.Env) (s : S), n < f → I n env s → W (DL.whileN mt mb f env s) P E
  | 0, _, _, _, h, _ => absurd h (Nat.not_lt_zero _)
  | f + 1, n, env, s, hf, h => by
    obtain ⟨b, s1, h1, h2, h3⟩ := hs n env s h
    unfold DL.whileN
    rw [h1]
    cases b with
    | false => exact ⟨h2 rfl⟩
    | true =>
      have h3 := h3 rfl
      dsimp only
      cases q : mb env s1 with
      | ok a =>
        rw [q] at h3
        obtain ⟨o, s'⟩ := a
        cases o with
        | nx e => obtain ⟨k, k1, k2⟩ := h3.out; exact W.whileN I hs f k e s' (by omega) k2
        | ct e => obtain ⟨k, k1, k2⟩ := h3.out; exact W.whileN I hs f k e s' (by omega) k2
        | bk e => exact ⟨h3.out⟩
        | rt d => exact ⟨h3.out⟩
      | exc k fs e => rw [q] at h3; exact ⟨h3.out⟩
      | bad => rw [q] at h3; exact h3.out.elim
/-- a def that returns -/
theorem runF_W {n : Nat} {mb : MS S} {ds : List D} {v : D} (he : env = ds.map Slot.d ++ List.replicate (n - ds.length) Slot.no) (h : W (mb env s) (fun os => os = (.rt v, s')) noE) : runF n mb ds s = .ok (v, s') := runF_rt he (h.eq fun _ _ _ z => z)
theorem runF_WX {n : Nat} {mb : MS S} {ds : List D} {P : D → S → Prop} (he : env = ds.map Slot.d ++ List.replicate (n - ds.length) Slot.no) (h : W (mb env s) (fun os => ∃ v s', os = (.rt v, s') ∧ P v s') noE) : ∃ v s', runF n mb ds s = .ok (v, s') ∧ P v s' := by
  obtain ⟨os, h1, v, s', rfl, h2⟩ := h.ex fun _ _ _ z => z
  exact ⟨v, s', runF_rt he h1, h2⟩
theorem runF_E {n : Nat} {mb : MS S} {ds : List D} {k : Nat} {fs : List D} (he : env = ds.map Slot.d ++ List.replicate (n - ds.length) Slot.no) (h : W (mb env s) (fun _ => False) (fun k2 fs2 es => k2 = k ∧ fs2 = fs ∧ es.2 = s')) : runF n mb ds s = .exc k fs s' := by
  cases q : mb env s with
  | ok a => rw [q] at h; exact h.out.elim
  | exc k2 fs2 es =>
    rw [q] at h
    obtain ⟨rfl, rfl, h3⟩ := h.out
    obtain ⟨e1, s2⟩ := es
    cases h3
    exact runF_exc he q
  | bad => rw [q] at h; exact h.out.elim
end
mutual
theorem toPy_lay : ∀ {d : D} {p : PyData}, toPy d = some p → p.canLay0 = true
  | .non, _, h => by cases h; rfl
  | .bl _, _, h => by cases h; rfl
  | .int _, _, h => by cases h; rfl
  | .str x, _, h => by
    unfold toPy at h
    split at h
    · rename_i hx; cases h; exact hx
    · cases h
  | .tup xs, p, h => by
    unfold toPy at h
    cases z : toPys xs with
    | none => rw [z] at h; cases h
    | some ps => rw [z] at h; cases h; exact toPys_lay z
  | .lst xs, p, h => by
    unfold toPy at h
    cases z : toPys xs with
    | none => rw [z] at h; cases h
    | some ps => rw [z] at h; cases h; exact toPys_lay z
  | .obj _ _, _, h => by cases h
  | .st, _, h => by cases h
theorem toPys_lay : ∀ {ds : List D} {ps : List PyData}, toPys ds = some ps → PyData.canLayAll0 ps = true
  | [], _, h => by cases h; rfl
  | d :: ds, ps, h => by
    unfold toPys at h
    cases z : toPy d with
    | none => rw [z] at h; cases h
    | some p =>
      cases z2 : toPys ds with
      | none => rw [z, z2] at h; cases h
      | some ps => rw [z, z2] at h; cases h; exact Bool.and_eq_true_iff.mpr ⟨toPy_lay z, toPys_lay z2⟩
end
/-- plain data, at most so deep -/
def Pl (n : Nat) (d : D) : Prop := ∃ p, toPy d = some p ∧ p.depth ≤ n
theorem toPys_all {n : Nat} : ∀ {ds : List D}, (∀ d ∈ ds, Pl n d) → ∃ ps, toPys ds = some ps ∧ PyData.depthAll ps ≤ n
  | [], _ => ⟨[], rfl, Nat.zero_le _⟩
  | d :: ds, h => by
    obtain ⟨p, h1, h2⟩ := h d (List.mem_cons_self ..)
    obtain ⟨ps, h3, h4⟩ := toPys_all fun d hd => h d (List.mem_cons_of_mem _ hd)
    refine ⟨p :: ps, by unfold toPys; rw [h1, h3], ?_⟩
    show max p.depth (PyData.depthAll ps) ≤ n
    omega
theorem Pl.int {n : Nat} (i : Int) : Pl n (.int i) := ⟨_, rfl, Nat.zero_le _⟩
theorem Pl.bl {n : Nat} (i : Bool) : Pl n (.bl i) := ⟨_, rfl, Nat.zero_le _⟩
theorem Pl.non {n : Nat} : Pl n .non := ⟨_, rfl, Nat.zero_le _⟩
theorem Pl.str {n : Nat} {x : Str} (h : PyData.strOk x = true) : Pl n (.str x) := ⟨.str x, if_pos h, Nat.zero_le _⟩
theorem Pl.tup {n : Nat} {ds : List D} (h : ∀ d ∈ ds, Pl n d) : Pl (n + 1) (.tup ds) := by
  obtain ⟨ps, h1, h2⟩ := toPys_all h
  exact ⟨.tuple ps, by unfold toPy; rw [h1]; rfl, Nat.succ_le_succ h2⟩
theorem Pl.lst {n : Nat} {ds : List D} (h : ∀ d ∈ ds, Pl n d) : Pl (n + 1) (.lst ds) := by
  obtain ⟨ps, h1, h2⟩ := toPys_all h
  exact ⟨.list ps, by unfold toPy; rw [h1]; rfl, Nat.succ_le_succ h2⟩
theorem Pl.mono {n m : Nat} {d : D} (h : Pl n d) (k : n ≤ m) : Pl m d := by
  obtain ⟨p, h1, h2⟩ := h
  exact ⟨p, h1, Nat.le_trans h2 k⟩
theorem eqD_self {n : Nat} {x : D} (h : Pl n x) (hn : n ≤ 64) : eqD x x = some (.bl true) := by
  obtain ⟨p, h1, h2⟩ := h
  unfold eqD eqvD
  rw [h1]
  simp only
  rw [if_pos ⟨by omega, by omega⟩, PySem.SeqAt.eqv_refl p (toPy_lay h1)]
  rfl
theorem neD_self {n : Nat} {x : D} (h : Pl n x) (hn : n ≤ 64) : neD x x = some (.bl false) := by
  obtain ⟨p, h1, h2⟩ := h
  unfold neD eqvD
  rw [h1]
  simp only
  rw [if_pos ⟨by omega, by omega⟩, PySem.SeqAt.eqv_refl p (toPy_lay h1)]
  rfl
end DL
set_option Elab.async false
set_option linter.all false
set_option maxRecDepth 100000
set_option maxHeartbeats 1000000
namespace DL
open PySem PySem.Spec PyProof.Rows L2
def low (top bottom : Int) : Int × Int :=
  let g : Int := if 0 < bottom then ((Nat.gcd top.natAbs bottom.natAbs : Nat) : Int) else -((Nat.gcd top.natAbs bottom.natAbs : Nat) : Int)
  (top.fdiv g, bottom.fdiv g)
theorem abs_nat (a : Int) : (if a < 0 then -a else a) = (a.natAbs : Int) := by split <;> omega
theorem gcd_small {a b : Int} {k : Nat} (hb : b ≠ 0) (h : b.natAbs < 2 ^ k) : Nat.gcd a.natAbs b.natAbs < 2 ^ k := Nat.lt_of_le_of_lt (Nat.gcd_le_right _ (by omega)) h
theorem gcd_pos {a b : Int} (hb : b ≠ 0) : 0 < Nat.gcd a.natAbs b.natAbs := Nat.gcd_pos_of_pos_right _ (by omega)
theorem low_eq (a b : Int) (h : 0 < b) : low a b = (a / (Nat.gcd a.natAbs b.natAbs : Int), b / (Nat.gcd a.natAbs b.natAbs : Int)) := by
  unfold low
  simp only [if_pos h]
  rw [Int.fdiv_eq_ediv_of_nonneg _ (Int.natCast_nonneg _), Int.fdiv_eq_ediv_of_nonneg _ (Int.natCast_nonneg _)]
theorem low_neg (a b : Int) (h : 0 < b) : low (-a) b = (-(low a b).1, (low a b).2) := by
  rw [low_eq _ _ h, low_eq _ _ h, Int.natAbs_neg]
  have hd : ((Nat.gcd a.natAbs b.natAbs : Nat) : Int) ∣ a := Int.ofNat_dvd_left.mpr (Nat.gcd_dvd_left _ _)
  rw [Int.neg_ediv_of_dvd hd]
theorem low_pos (a b : Int) (h : 0 < b) : 0 < (low a b).2 := by
  rw [low_eq _ _ h]
  have hd : ((Nat.gcd a.natAbs b.natAbs : Nat) : Int) ∣ b := Int.ofNat_dvd_left.mpr (Nat.gcd_dvd_right _ _)
  have hg : 0 < Nat.gcd a.natAbs b.natAbs := gcd_pos (by omega)
  exact Int.ediv_pos_of_pos_of_dvd h (by omega) hd
theorem low_one (a b : Int) (h : 0 < b) : Nat.gcd (low a b).1.natAbs (low a b).2.natAbs = 1 := by
  rw [low_eq _ _ h]
  have hg : 0 < Nat.gcd a.natAbs b.natAbs := gcd_pos (by omega)
  have h1 : ((Nat.gcd a.natAbs b.natAbs : Nat) : Int) ∣ a := Int.ofNat_dvd_left.mpr (Nat.gcd_dvd_left _ _)
  have h2 : ((Nat.gcd a.natAbs b.natAbs : Nat) : Int) ∣ b := Int.ofNat_dvd_left.mpr (Nat.gcd_dvd_right _ _)
  show Nat.gcd (a / _).natAbs (b / _).natAbs = 1
  rw [Int.natAbs_ediv_of_dvd h1, Int.natAbs_ediv_of_dvd h2, Int.natAbs_natCast]
  rw [Nat.gcd_div (Nat.gcd_dvd_left _ _) (Nat.gcd_dvd_right _ _)]
  exact Nat.div_self hg
theorem low_idem {a b : Int} (h : 0 < b) (g : Nat.gcd a.natAbs b.natAbs = 1) : low a b = (a, b) := by
  rw [low_eq _ _ h, g]
  show (a / ((1 : Nat) : Int), b / ((1 : Nat) : Int)) = _
  rw [Int.natCast_one, Int.ediv_one, Int.ediv_one]
theorem low_low (a b : Int) (h : 0 < b) : low (low a b).1 (low a b).2 = low a b := low_idem (low_pos a b h) (low_one a b h)
theorem low_abs1 (a b : Int) (h : 0 < b) : (low a b).1.natAbs ≤ a.natAbs := by
  rw [low_eq _ _ h]
  exact Int.natAbs_ediv_le_natAbs _ _
theorem low_abs2 (a b : Int) (h : 0 < b) : (low a b).2.natAbs ≤ b.natAbs := by
  rw [low_eq _ _ h]
  exact Int.natAbs_ediv_le_natAbs _ _
/-- a pair in lowest terms whose numbers have at most k bits -/
structure Lo (k : Nat) (p : Int × Int) : Prop where
  pos : 0 < p.2
  one : Nat.gcd p.1.natAbs p.2.natAbs = 1
  b1 : p.1.natAbs < 2 ^ k
  b2 : p.2.natAbs < 2 ^ k
theorem Lo.mono {k m : Nat} {p : Int × Int} (h : Lo k p) (l : k ≤ m) : Lo m p :=
  ⟨h.pos, h.one, Nat.lt_of_lt_of_le h.b1 (Nat.pow_le_pow_right (by decide) l), Nat.lt_of_lt_of_le h.b2 (Nat.pow_le_pow_right (by decide) l)⟩
theorem Lo.low {k : Nat} {a b : Int} (h : 0 < b) (h1 : a.natAbs < 2 ^ k) (h2 : b.natAbs < 2 ^ k) : Lo k (low a b) :=
  ⟨low_pos _ _ h, low_one _ _ h, Nat.lt_of_le_of_lt (low_abs1 _ _ h) h1, Nat.lt_of_le_of_lt (low_abs2 _ _ h) h2⟩
theorem Lo.idem {k : Nat} {p : Int × Int} (h : Lo k p) : DL.low p.1 p.2 = p := low_idem h.pos h.one
theorem mul_small {a b : Int} {k m : Nat} (h1 : a.natAbs < 2 ^ k) (h2 : b.natAbs < 2 ^ m) : (a * b).natAbs < 2 ^ (k + m) := by
  rw [Int.natAbs_mul, Nat.pow_add]
  have p1 : 0 < 2 ^ k := Nat.pow_pos (by decide)
  exact Nat.mul_lt_mul_of_lt_of_le h1 (Nat.le_of_lt h2) (Nat.pow_pos (by decide))
theorem log2_lt {a : Int} {k : Nat} (h : a.natAbs < 2 ^ k) : a.natAbs.log2 < k + 1 := by
  rcases Nat.eq_zero_or_pos k with z | z
  · subst z
    have : a.natAbs = 0 := by omega
    rw [this]; decide
  · have := log2_small h z; omega
theorem mulOk_small {a b : Int} {k m : Nat} (h1 : a.natAbs < 2 ^ k) (h2 : b.natAbs < 2 ^ m) (h : k + m < 134000000 - 2) : mulOk a b := by
  have := log2_lt h1
  have := log2_lt h2
  unfold mulOk; omega
/-- the product of two -/
def lmul (p q : Int × Int) : Int × Int := low (p.1 * q.1) (p.2 * q.2)
theorem Lo.mul {k m : Nat} {p q : Int × Int} (h : Lo k p) (g : Lo m q) : Lo (k + m) (lmul p q) :=
  Lo.low (Int.mul_pos h.pos g.pos) (mul_small h.b1 g.b1) (mul_small h.b2 g.b2)
theorem Lo.neg {k : Nat} {p : Int × Int} (h : Lo k p) : Lo k (-p.1, p.2) :=
  ⟨h.pos, by show Nat.gcd (-p.1).natAbs p.2.natAbs = 1; rw [Int.natAbs_neg]; exact h.one, by show (-p.1).natAbs < _; rw [Int.natAbs_neg]; exact h.b1, h.b2⟩
theorem Lo.whole {k : Nat} {a : Int} (hk : 0 < k) (h : a.natAbs < 2 ^ k) : Lo k (a, 1) := ⟨Int.one_pos, Nat.gcd_one_right _, h, Nat.one_lt_two_pow (by omega)⟩
/-- a tree that isinstance can answer for -/
def tbOk (tb : List (Nat × Bool)) : D → Prop
  | .obj q _ => tb.lookup q = some false
  | .st => False
  | _ => True
def isIntD : D → Bool
  | .int _ => true
  | _ => false
def pkInt (tb : List (Nat × Bool)) : List D → Pen → R (D × Pen) Pen := runF 1 (retS (andV (m1 (isiD false true true false false false tb) (mVar 0)) (notV (m1 (isiD false true false false false false tb) (mVar 0)))))
theorem pkInt_ok {tb : List (Nat × Bool)} {d : D} (h : tbOk tb d) (s : Pen) : pkInt tb [d] s = .ok (.bl (isIntD d), s) := by
  refine runF_rt (env := [.d d]) rfl ?_
  cases d with
  | obj q fs => have h : tb.lookup q = some false := h; simp only [callF, List.append_nil, List.cons_append, List.nil_append, List.length_cons, List.length_nil, Nat.zero_add, Nat.reduceAdd, reduceIte, seqS, setS, retS, exprS, nextS, ifS, thenS, DL.bindM, retM, optM, m1, m2, mVar, consM, callM, truM, andT, orT, notT, andV, orV, notV, ifM, penGet, penPut, parS, asgS, tupM, lstM, partM, addD, subD, ltD, gtD, geD, leD, negD, DL.intD, absD, lenD, truD, isNon, strCD, List.getElem?_cons_succ, List.getElem?_cons_zero, List.set_cons_succ, List.set_cons_zero, if_true, Bool.false_eq_true, if_false, Bool.not_true, Bool.not_false, isiD, h, Option.map_some, isIntD]
  | st => exact h.elim
  | _ => simp only [callF, List.append_nil, List.cons_append, List.nil_append, List.length_cons, List.length_nil, Nat.zero_add, Nat.reduceAdd, reduceIte, seqS, setS, retS, exprS, nextS, ifS, thenS, DL.bindM, retM, optM, m1, m2, mVar, consM, callM, truM, andT, orT, notT, andV, orV, notV, ifM, penGet, penPut, parS, asgS, tupM, lstM, partM, addD, subD, ltD, gtD, geD, leD, negD, DL.intD, absD, lenD, truD, isNon, strCD, List.getElem?_cons_succ, List.getElem?_cons_zero, List.set_cons_succ, List.set_cons_zero, if_true, Bool.false_eq_true, if_false, Bool.not_true, Bool.not_false, isiD, Option.map_some, isIntD]
theorem pkInt_int {tb : List (Nat × Bool)} {i : Int} (s : Pen) : pkInt tb [.int i] s = .ok (.bl true, s) := pkInt_ok (d := .int i) trivial s
def pkCount (tb : List (Nat × Bool)) : List D → Pen → R (D × Pen) Pen := runF 2 (retS (andV (callF 1 (pkInt tb) [] (consM (mVar 0) (retM []))) (andV (m2 geD (mVar 0) (retM (.int 0))) (orV (m1 (fun x => some (.bl (isNon x))) (mVar 1)) (m2 leD (mVar 0) (mVar 1))))))
def isCountD (most : Option Int) : D → Bool
  | .int i => decide (0 ≤ i) && (match most with | none => true | some m => decide (i ≤ m))
  | _ => false
def mostD : Option Int → D
  | none => .non
  | some m => .int m
theorem pkCount_ok {tb : List (Nat × Bool)} {d : D} (h : tbOk tb d) (most : Option Int) (s : Pen) : pkCount tb [d, mostD most] s = .ok (.bl (isCountD most d), s) := by
  refine runF_rt (env := [.d d, .d (mostD most)]) rfl ?_
  have e := pkInt_ok h s
  cases d with
  | int i =>
    by_cases h0 : 0 ≤ i
    · cases most with
      | none => simp only [callF, List.append_nil, List.cons_append, List.nil_append, List.length_cons, List.length_nil, Nat.zero_add, Nat.reduceAdd, reduceIte, seqS, setS, retS, exprS, nextS, ifS, thenS, DL.bindM, retM, optM, m1, m2, mVar, consM, callM, truM, andT, orT, notT, andV, orV, notV, ifM, penGet, penPut, parS, asgS, tupM, lstM, partM, addD, subD, ltD, gtD, geD, leD, negD, DL.intD, absD, lenD, truD, isNon, strCD, List.getElem?_cons_succ, List.getElem?_cons_zero, List.set_cons_succ, List.set_cons_zero, if_true, Bool.false_eq_true, if_false, Bool.not_true, Bool.not_false, e, isIntD, isCountD, decide_eq_true (show i ≥ 0 from h0), decide_eq_true h0, mostD, Bool.and_self]
      | some m => simp only [callF, List.append_nil, List.cons_append, List.nil_append, List.length_cons, List.length_nil, Nat.zero_add, Nat.reduceAdd, reduceIte, seqS, setS, retS, exprS, nextS, ifS, thenS, DL.bindM, retM, optM, m1, m2, mVar, consM, callM, truM, andT, orT, notT, andV, orV, notV, ifM, penGet, penPut, parS, asgS, tupM, lstM, partM, addD, subD, ltD, gtD, geD, leD, negD, DL.intD, absD, lenD, truD, isNon, strCD, List.getElem?_cons_succ, List.getElem?_cons_zero, List.set_cons_succ, List.set_cons_zero, if_true, Bool.false_eq_true, if_false, Bool.not_true, Bool.not_false, e, isIntD, isCountD, decide_eq_true (show i ≥ 0 from h0), decide_eq_true h0, mostD, Bool.true_and]
    · simp only [callF, List.append_nil, List.cons_append, List.nil_append, List.length_cons, List.length_nil, Nat.zero_add, Nat.reduceAdd, reduceIte, seqS, setS, retS, exprS, nextS, ifS, thenS, DL.bindM, retM, optM, m1, m2, mVar, consM, callM, truM, andT, orT, notT, andV, orV, notV, ifM, penGet, penPut, parS, asgS, tupM, lstM, partM, addD, subD, ltD, gtD, geD, leD, negD, DL.intD, absD, lenD, truD, isNon, strCD, List.getElem?_cons_succ, List.getElem?_cons_zero, List.set_cons_succ, List.set_cons_zero, if_true, Bool.false_eq_true, if_false, Bool.not_true, Bool.not_false, e, isIntD, isCountD, decide_eq_false (show ¬ i ≥ 0 from h0), decide_eq_false h0, Bool.false_and]
  | st => exact h.elim
  | _ => simp only [callF, List.append_nil, List.cons_append, List.nil_append, List.length_cons, List.length_nil, Nat.zero_add, Nat.reduceAdd, reduceIte, seqS, setS, retS, exprS, nextS, ifS, thenS, DL.bindM, retM, optM, m1, m2, mVar, consM, callM, truM, andT, orT, notT, andV, orV, notV, ifM, penGet, penPut, parS, asgS, tupM, lstM, partM, addD, subD, ltD, gtD, geD, leD, negD, DL.intD, absD, lenD, truD, isNon, strCD, List.getElem?_cons_succ, List.getElem?_cons_zero, List.set_cons_succ, List.set_cons_zero, if_true, Bool.false_eq_true, if_false, Bool.not_true, Bool.not_false, e, isIntD, isCountD]
def isRowD : D → Bool
  | .lst _ => true
  | .tup _ => true
  | _ => false
def pkRow (tb : List (Nat × Bool)) : List D → Pen → R (D × Pen) Pen := runF 1 (retS (m1 (isi2D (isiD false false false false false true tb) (isiD false false false false true false tb)) (mVar 0)))
theorem pkRow_ok {tb : List (Nat × Bool)} {d : D} (h : tbOk tb d) (s : Pen) : pkRow tb [d] s = .ok (.bl (isRowD d), s) := by
  refine runF_rt (env := [.d d]) rfl ?_
  cases d with
  | obj q fs => have h : tb.lookup q = some false := h; simp only [callF, List.append_nil, List.cons_append, List.nil_append, List.length_cons, List.length_nil, Nat.zero_add, Nat.reduceAdd, reduceIte, seqS, setS, retS, exprS, nextS, ifS, thenS, DL.bindM, retM, optM, m1, m2, mVar, consM, callM, truM, andT, orT, notT, andV, orV, notV, ifM, penGet, penPut, parS, asgS, tupM, lstM, partM, addD, subD, ltD, gtD, geD, leD, negD, DL.intD, absD, lenD, truD, isNon, strCD, List.getElem?_cons_succ, List.getElem?_cons_zero, List.set_cons_succ, List.set_cons_zero, if_true, Bool.false_eq_true, if_false, Bool.not_true, Bool.not_false, isiD, isi2D, h, Option.map_some, isRowD, Bool.or_self]
  | st => exact h.elim
  | _ => simp only [callF, List.append_nil, List.cons_append, List.nil_append, List.length_cons, List.length_nil, Nat.zero_add, Nat.reduceAdd, reduceIte, seqS, setS, retS, exprS, nextS, ifS, thenS, DL.bindM, retM, optM, m1, m2, mVar, consM, callM, truM, andT, orT, notT, andV, orV, notV, ifM, penGet, penPut, parS, asgS, tupM, lstM, partM, addD, subD, ltD, gtD, geD, leD, negD, DL.intD, absD, lenD, truD, isNon, strCD, List.getElem?_cons_succ, List.getElem?_cons_zero, List.set_cons_succ, List.set_cons_zero, if_true, Bool.false_eq_true, if_false, Bool.not_true, Bool.not_false, isiD, isi2D, isRowD, Bool.or_self, Bool.or_true, Bool.or_false, Bool.true_or]
/-- the Ratio of a pair in lowest terms, c its class -/
def rat (c : Nat) (p : Int × Int) : D := .obj c [.int p.1, .int p.2, .int ((if 0 < p.1 then 1 else 0) - (if p.1 < 0 then 1 else 0)), .bl (p.2 == 1)]
theorem rat_top {c : Nat} {p : Int × Int} : fldD [(c, 0)] (rat c p) = some (.int p.1) := by unfold rat fldD; simp only [List.lookup, beq_self_eq_true]; rfl
theorem rat_bot {c : Nat} {p : Int × Int} : fldD [(c, 1)] (rat c p) = some (.int p.2) := by unfold rat fldD; simp only [List.lookup, beq_self_eq_true]; rfl
theorem rat_sgn {c : Nat} {p : Int × Int} : fldD [(c, 2)] (rat c p) = some (.int ((if 0 < p.1 then 1 else 0) - (if p.1 < 0 then 1 else 0))) := by unfold rat fldD; simp only [List.lookup, beq_self_eq_true]; rfl
def pkRInit (c e : Nat) (tb : List (Nat × Bool)) : List D → Pen → R (List D × Pen) Pen := runI 4 c 4
    (seqS (ifS (notT (truM (callF 1 (pkInt tb) [] (consM (mVar 1) (retM []))))) (raiseS e 2 (consM (retM (.str "top")) (consM (mVar 1) (retM [])))) nextS)
    (seqS (ifS (orT (notT (truM (callF 1 (pkInt tb) [] (consM (mVar 2) (retM []))))) (truM (m2 eqD (mVar 2) (retM (.int 0))))) (raiseS e 2 (consM (retM (.str "bottom")) (consM (mVar 2) (retM [])))) nextS)
    (seqS (setS 3 (ifM (truM (m2 gtD (mVar 2) (retM (.int 0)))) (callM gcdD (consM (mVar 1) (consM (mVar 2) (retM [])))) (m1 negD (callM gcdD (consM (mVar 1) (consM (mVar 2) (retM [])))))))
    (seqS (selfS 0 c 0 (m2 fdivD (mVar 1) (mVar 3)))
    (seqS (selfS 0 c 1 (m2 fdivD (mVar 2) (mVar 3)))
    (seqS (selfS 0 c 2 (m2 subD (m2 gtD (mSelf 0 c 0) (retM (.int 0))) (m2 ltD (mSelf 0 c 0) (retM (.int 0)))))
    (selfS 0 c 3 (m2 eqD (mSelf 0 c 1) (retM (.int 1))))))))))
theorem runI_W {S : Type} {n q many : Nat} {mb : MS S} {ds : List D} {fs : List D} {s s' : S} {env : DL.Env} (he : env = Slot.ins q [] :: (ds.map Slot.d ++ List.replicate (n - (ds.length + 1)) Slot.no)) (hm : fs.length = many) (h : W (mb env s) (fun os => ∃ r, os = (.nx (Slot.ins q fs :: r), s')) noE) : runI n q many mb ds s = .ok (fs, s') := by
  obtain ⟨os, h1, r, rfl⟩ := h.ex fun _ _ _ z => z
  subst he
  unfold runI
  rw [h1]
  simp [hm]
theorem lg_gcd {a b : Int} (hb : b ≠ 0) (h : b.natAbs < 2 ^ 8000) : ((Nat.gcd a.natAbs b.natAbs : Nat) : Int).natAbs.log2 < 9000 := by
  have := log2_small (i := ((Nat.gcd a.natAbs b.natAbs : Nat) : Int)) (k := 8000) (by rw [Int.natAbs_natCast]; exact gcd_small hb h) (by decide)
  omega
theorem rinit_ok {c e : Nat} {tb : List (Nat × Bool)} {a b : Int} (hb : b ≠ 0) (h : b.natAbs < 2 ^ 8000) (s : Pen) : pkRInit c e tb [.int a, .int b] s =
    .ok ([.int (low a b).1, .int (low a b).2, .int ((if 0 < (low a b).1 then 1 else 0) - (if (low a b).1 < 0 then 1 else 0)), .bl ((low a b).2 == 1)], s) := by
  have hp := gcd_pos (a := a) (b := b) hb
  have e0 : (b == 0) = false := beq_eq_false_iff_ne.mpr hb
  have lg := lg_gcd (a := a) hb h
  have lg2 : (-((Nat.gcd a.natAbs b.natAbs : Nat) : Int)).natAbs.log2 < 9000 := by rw [Int.natAbs_neg]; exact lg
  obtain ⟨g, hg, d1, hl⟩ : ∃ g : Int, (ifM (truM (m2 gtD (mVar 2) (retM (.int 0)))) (callM gcdD (consM (mVar 1) (consM (mVar 2) (retM [])))) (m1 negD (callM gcdD (consM (mVar 1) (consM (mVar 2) (retM []))))) : M Pen D) [Slot.ins c [], .d (.int a), .d (.int b), .no] s = .ok (.int g, s) ∧ (∀ i, fdivD (.int i) (.int g) = some (.int (i.fdiv g))) ∧ low a b = (a.fdiv g, b.fdiv g) := by
    by_cases hbp : 0 < b
    · exact ⟨_, by simp only [ev_m1, ev_m2, ev_consM, ev_callM, ev_callF, ev_truM, ev_andT, ev_orT, ev_notT, ev_andV, ev_orV, ev_notV, ev_ifM, ev_tupM, ev_lstM, ev_partM, ev_parS, ev_par3S, ev_parOS, ev_asgS, ev_setS, ev_retS, ev_exprS, ev_ifS, ev_ownS, ev_raiseS, ev_makeF, ev_methF, ev_chT, ev_itM, ev_itA, ev_sliceM, ev_selfS, ev_penGet, ev_penPut, ev_mStr1, ev_thenS, ev_bindM, ev_retM, ev_optM, ev_mVar, ev_nextS, frzS, ev_yesM, List.append_nil, List.cons_append, List.nil_append, List.length_cons, List.length_nil, Nat.zero_add, Nat.reduceAdd, reduceIte, addD, subD, ltD, gtD, geD, leD, negD, DL.intD, absD, lenD, truD, DL.isNon, truB, strCD, extS, apS, DL.setAll, DL.assignT, List.getElem?_cons_succ, List.getElem?_cons_zero, List.set_cons_succ, List.set_cons_zero, if_true, Bool.false_eq_true, if_false, Bool.not_true, Bool.not_false, decide_eq_true hbp, gcdD], fun i => fdivD_ok (by omega) lg, by unfold low; simp only [if_pos hbp]⟩
    · exact ⟨_, by simp only [ev_m1, ev_m2, ev_consM, ev_callM, ev_callF, ev_truM, ev_andT, ev_orT, ev_notT, ev_andV, ev_orV, ev_notV, ev_ifM, ev_tupM, ev_lstM, ev_partM, ev_parS, ev_par3S, ev_parOS, ev_asgS, ev_setS, ev_retS, ev_exprS, ev_ifS, ev_ownS, ev_raiseS, ev_makeF, ev_methF, ev_chT, ev_itM, ev_itA, ev_sliceM, ev_selfS, ev_penGet, ev_penPut, ev_mStr1, ev_thenS, ev_bindM, ev_retM, ev_optM, ev_mVar, ev_nextS, frzS, ev_yesM, List.append_nil, List.cons_append, List.nil_append, List.length_cons, List.length_nil, Nat.zero_add, Nat.reduceAdd, reduceIte, addD, subD, ltD, gtD, geD, leD, negD, DL.intD, absD, lenD, truD, DL.isNon, truB, strCD, extS, apS, DL.setAll, DL.assignT, List.getElem?_cons_succ, List.getElem?_cons_zero, List.set_cons_succ, List.set_cons_zero, if_true, Bool.false_eq_true, if_false, Bool.not_true, Bool.not_false, decide_eq_false hbp, gcdD], fun i => fdivD_ok (by omega) lg2, by unfold low; simp only [if_neg hbp]⟩
  unfold pkRInit
  refine runI_W (env := [Slot.ins c [], .d (.int a), .d (.int b), .no]) rfl rfl ?_
  refine W.step (by simp only [ev_m1, ev_m2, ev_consM, ev_callM, ev_callF, ev_truM, ev_andT, ev_orT, ev_notT, ev_andV, ev_orV, ev_notV, ev_ifM, ev_tupM, ev_lstM, ev_partM, ev_parS, ev_par3S, ev_parOS, ev_asgS, ev_setS, ev_retS, ev_exprS, ev_ifS, ev_ownS, ev_raiseS, ev_makeF, ev_methF, ev_chT, ev_itM, ev_itA, ev_sliceM, ev_selfS, ev_penGet, ev_penPut, ev_mStr1, ev_thenS, ev_bindM, ev_retM, ev_optM, ev_mVar, ev_nextS, frzS, ev_yesM, List.append_nil, List.cons_append, List.nil_append, List.length_cons, List.length_nil, Nat.zero_add, Nat.reduceAdd, reduceIte, addD, subD, ltD, gtD, geD, leD, negD, DL.intD, absD, lenD, truD, DL.isNon, truB, strCD, extS, apS, DL.setAll, DL.assignT, List.getElem?_cons_succ, List.getElem?_cons_zero, List.set_cons_succ, List.set_cons_zero, if_true, Bool.false_eq_true, if_false, Bool.not_true, Bool.not_false, W_ok, W_exc, KS_nx, KS_rt, Bool.true_and, Bool.and_true, Bool.false_or, Bool.or_false, Bool.and_false, Bool.or_true, Bool.false_and, Bool.true_or, pkInt_int] <;> rfl) ?_
  refine W.step (by simp only [ev_m1, ev_m2, ev_consM, ev_callM, ev_callF, ev_truM, ev_andT, ev_orT, ev_notT, ev_andV, ev_orV, ev_notV, ev_ifM, ev_tupM, ev_lstM, ev_partM, ev_parS, ev_par3S, ev_parOS, ev_asgS, ev_setS, ev_retS, ev_exprS, ev_ifS, ev_ownS, ev_raiseS, ev_makeF, ev_methF, ev_chT, ev_itM, ev_itA, ev_sliceM, ev_selfS, ev_penGet, ev_penPut, ev_mStr1, ev_thenS, ev_bindM, ev_retM, ev_optM, ev_mVar, ev_nextS, frzS, ev_yesM, List.append_nil, List.cons_append, List.nil_append, List.length_cons, List.length_nil, Nat.zero_add, Nat.reduceAdd, reduceIte, addD, subD, ltD, gtD, geD, leD, negD, DL.intD, absD, lenD, truD, DL.isNon, truB, strCD, extS, apS, DL.setAll, DL.assignT, List.getElem?_cons_succ, List.getElem?_cons_zero, List.set_cons_succ, List.set_cons_zero, if_true, Bool.false_eq_true, if_false, Bool.not_true, Bool.not_false, W_ok, W_exc, KS_nx, KS_rt, Bool.true_and, Bool.and_true, Bool.false_or, Bool.or_false, Bool.and_false, Bool.or_true, Bool.false_and, Bool.true_or, pkInt_int, eqD_int, e0] <;> rfl) ?_
  refine W.step (by simp only [setS, thenS, hg, List.set_cons_succ, List.set_cons_zero] <;> rfl) ?_
  refine W.step (by simp only [ev_m1, ev_m2, ev_consM, ev_callM, ev_callF, ev_truM, ev_andT, ev_orT, ev_notT, ev_andV, ev_orV, ev_notV, ev_ifM, ev_tupM, ev_lstM, ev_partM, ev_parS, ev_par3S, ev_parOS, ev_asgS, ev_setS, ev_retS, ev_exprS, ev_ifS, ev_ownS, ev_raiseS, ev_makeF, ev_methF, ev_chT, ev_itM, ev_itA, ev_sliceM, ev_selfS, ev_penGet, ev_penPut, ev_mStr1, ev_thenS, ev_bindM, ev_retM, ev_optM, ev_mVar, ev_nextS, frzS, ev_yesM, List.append_nil, List.cons_append, List.nil_append, List.length_cons, List.length_nil, Nat.zero_add, Nat.reduceAdd, reduceIte, addD, subD, ltD, gtD, geD, leD, negD, DL.intD, absD, lenD, truD, DL.isNon, truB, strCD, extS, apS, DL.setAll, DL.assignT, List.getElem?_cons_succ, List.getElem?_cons_zero, List.set_cons_succ, List.set_cons_zero, if_true, Bool.false_eq_true, if_false, Bool.not_true, Bool.not_false, W_ok, W_exc, KS_nx, KS_rt, Bool.true_and, Bool.and_true, Bool.false_or, Bool.or_false, Bool.and_false, Bool.or_true, Bool.false_and, Bool.true_or, d1, selfS, and_self] <;> rfl) ?_
  refine W.step (by simp only [ev_m1, ev_m2, ev_consM, ev_callM, ev_callF, ev_truM, ev_andT, ev_orT, ev_notT, ev_andV, ev_orV, ev_notV, ev_ifM, ev_tupM, ev_lstM, ev_partM, ev_parS, ev_par3S, ev_parOS, ev_asgS, ev_setS, ev_retS, ev_exprS, ev_ifS, ev_ownS, ev_raiseS, ev_makeF, ev_methF, ev_chT, ev_itM, ev_itA, ev_sliceM, ev_selfS, ev_penGet, ev_penPut, ev_mStr1, ev_thenS, ev_bindM, ev_retM, ev_optM, ev_mVar, ev_nextS, frzS, ev_yesM, List.append_nil, List.cons_append, List.nil_append, List.length_cons, List.length_nil, Nat.zero_add, Nat.reduceAdd, reduceIte, addD, subD, ltD, gtD, geD, leD, negD, DL.intD, absD, lenD, truD, DL.isNon, truB, strCD, extS, apS, DL.setAll, DL.assignT, List.getElem?_cons_succ, List.getElem?_cons_zero, List.set_cons_succ, List.set_cons_zero, if_true, Bool.false_eq_true, if_false, Bool.not_true, Bool.not_false, W_ok, W_exc, KS_nx, KS_rt, Bool.true_and, Bool.and_true, Bool.false_or, Bool.or_false, Bool.and_false, Bool.or_true, Bool.false_and, Bool.true_or, d1, selfS, and_self] <;> rfl) ?_
  rw [hl]
  generalize a.fdiv g = x
  generalize b.fdiv g = y
  have e3 : (m2 subD (m2 gtD (mSelf 0 c 0) (retM (.int 0))) (m2 ltD (mSelf 0 c 0) (retM (.int 0))) : M Pen D) [Slot.ins c [.int x, .int y], .d (.int a), .d (.int b), .d (.int g)] s = .ok (.int ((if 0 < x then 1 else 0) - (if x < 0 then 1 else 0)), s) := by
    by_cases h1 : 0 < x
    · have h2 : ¬ x < 0 := by omega
      simp only [ev_m1, ev_m2, ev_consM, ev_callM, ev_callF, ev_truM, ev_andT, ev_orT, ev_notT, ev_andV, ev_orV, ev_notV, ev_ifM, ev_tupM, ev_lstM, ev_partM, ev_parS, ev_par3S, ev_parOS, ev_asgS, ev_setS, ev_retS, ev_exprS, ev_ifS, ev_ownS, ev_raiseS, ev_makeF, ev_methF, ev_chT, ev_itM, ev_itA, ev_sliceM, ev_selfS, ev_penGet, ev_penPut, ev_mStr1, ev_thenS, ev_bindM, ev_retM, ev_optM, ev_mVar, ev_nextS, frzS, ev_yesM, List.append_nil, List.cons_append, List.nil_append, List.length_cons, List.length_nil, Nat.zero_add, Nat.reduceAdd, reduceIte, addD, subD, ltD, gtD, geD, leD, negD, DL.intD, absD, lenD, truD, DL.isNon, truB, strCD, extS, apS, DL.setAll, DL.assignT, List.getElem?_cons_succ, List.getElem?_cons_zero, List.set_cons_succ, List.set_cons_zero, if_true, Bool.false_eq_true, if_false, Bool.not_true, Bool.not_false, mSelf, and_self, decide_eq_true h1, decide_eq_false h2, if_pos h1, if_neg h2, b2i]
    · by_cases h2 : x < 0
      · simp only [ev_m1, ev_m2, ev_consM, ev_callM, ev_callF, ev_truM, ev_andT, ev_orT, ev_notT, ev_andV, ev_orV, ev_notV, ev_ifM, ev_tupM, ev_lstM, ev_partM, ev_parS, ev_par3S, ev_parOS, ev_asgS, ev_setS, ev_retS, ev_exprS, ev_ifS, ev_ownS, ev_raiseS, ev_makeF, ev_methF, ev_chT, ev_itM, ev_itA, ev_sliceM, ev_selfS, ev_penGet, ev_penPut, ev_mStr1, ev_thenS, ev_bindM, ev_retM, ev_optM, ev_mVar, ev_nextS, frzS, ev_yesM, List.append_nil, List.cons_append, List.nil_append, List.length_cons, List.length_nil, Nat.zero_add, Nat.reduceAdd, reduceIte, addD, subD, ltD, gtD, geD, leD, negD, DL.intD, absD, lenD, truD, DL.isNon, truB, strCD, extS, apS, DL.setAll, DL.assignT, List.getElem?_cons_succ, List.getElem?_cons_zero, List.set_cons_succ, List.set_cons_zero, if_true, Bool.false_eq_true, if_false, Bool.not_true, Bool.not_false, mSelf, and_self, decide_eq_false h1, decide_eq_true h2, if_neg h1, if_pos h2, b2i]
      · simp only [ev_m1, ev_m2, ev_consM, ev_callM, ev_callF, ev_truM, ev_andT, ev_orT, ev_notT, ev_andV, ev_orV, ev_notV, ev_ifM, ev_tupM, ev_lstM, ev_partM, ev_parS, ev_par3S, ev_parOS, ev_asgS, ev_setS, ev_retS, ev_exprS, ev_ifS, ev_ownS, ev_raiseS, ev_makeF, ev_methF, ev_chT, ev_itM, ev_itA, ev_sliceM, ev_selfS, ev_penGet, ev_penPut, ev_mStr1, ev_thenS, ev_bindM, ev_retM, ev_optM, ev_mVar, ev_nextS, frzS, ev_yesM, List.append_nil, List.cons_append, List.nil_append, List.length_cons, List.length_nil, Nat.zero_add, Nat.reduceAdd, reduceIte, addD, subD, ltD, gtD, geD, leD, negD, DL.intD, absD, lenD, truD, DL.isNon, truB, strCD, extS, apS, DL.setAll, DL.assignT, List.getElem?_cons_succ, List.getElem?_cons_zero, List.set_cons_succ, List.set_cons_zero, if_true, Bool.false_eq_true, if_false, Bool.not_true, Bool.not_false, mSelf, and_self, decide_eq_false h1, decide_eq_false h2, if_neg h1, if_neg h2, b2i]
  refine W.step (by simp only [selfS, thenS, e3, List.getElem?_cons_zero, List.length_cons, List.length_nil, Nat.zero_add, Nat.reduceAdd, and_self, if_true, List.set_cons_zero, List.cons_append, List.nil_append] <;> rfl) ?_
  simp only [ev_m1, ev_m2, ev_consM, ev_callM, ev_callF, ev_truM, ev_andT, ev_orT, ev_notT, ev_andV, ev_orV, ev_notV, ev_ifM, ev_tupM, ev_lstM, ev_partM, ev_parS, ev_par3S, ev_parOS, ev_asgS, ev_setS, ev_retS, ev_exprS, ev_ifS, ev_ownS, ev_raiseS, ev_makeF, ev_methF, ev_chT, ev_itM, ev_itA, ev_sliceM, ev_selfS, ev_penGet, ev_penPut, ev_mStr1, ev_thenS, ev_bindM, ev_retM, ev_optM, ev_mVar, ev_nextS, frzS, ev_yesM, List.append_nil, List.cons_append, List.nil_append, List.length_cons, List.length_nil, Nat.zero_add, Nat.reduceAdd, reduceIte, addD, subD, ltD, gtD, geD, leD, negD, DL.intD, absD, lenD, truD, DL.isNon, truB, strCD, extS, apS, DL.setAll, DL.assignT, List.getElem?_cons_succ, List.getElem?_cons_zero, List.set_cons_succ, List.set_cons_zero, if_true, Bool.false_eq_true, if_false, Bool.not_true, Bool.not_false, W_ok, W_exc, KS_nx, KS_rt, Bool.true_and, Bool.and_true, Bool.false_or, Bool.or_false, Bool.and_false, Bool.or_true, Bool.false_and, Bool.true_or, selfS, mSelf, and_self, eqD_int]
  exact ⟨_, rfl⟩
theorem rmake_ok {c e : Nat} {tb : List (Nat × Bool)} {a b : Int} (hb : b ≠ 0) (h : b.natAbs < 2 ^ 8000) (s : Pen) : makeR c 2 (pkRInit c e tb) [.int a, .int b] s = .ok (rat c (low a b), s) := by
  unfold makeR
  rw [if_pos (show ([D.int a, .int b] : List D).length = 2 from rfl), rinit_ok hb h]
  rfl
theorem rmake_lo {c e : Nat} {tb : List (Nat × Bool)} {k : Nat} {p : Int × Int} (h : Lo k p) (hk : k ≤ 8000) (s : Pen) : makeR c 2 (pkRInit c e tb) [.int p.1, .int p.2] s = .ok (rat c p, s) := by
  rw [rmake_ok (by have := h.pos; omega) (Nat.lt_of_lt_of_le h.b2 (Nat.pow_le_pow_right (by decide) hk)), h.idem]
def isNumD (c : Nat) : D → Bool
  | .int _ => true
  | .obj q _ => q == c
  | _ => false
def pkNum (tb tbR : List (Nat × Bool)) : List D → Pen → R (D × Pen) Pen := runF 1 (retS (orV (callF 1 (pkInt tb) [] (consM (mVar 0) (retM []))) (m1 (isiD false false false false false false tbR) (mVar 0))))
theorem pkNum_int {tb tbR : List (Nat × Bool)} {i : Int} (s : Pen) : pkNum tb tbR [.int i] s = .ok (.bl true, s) := by
  refine runF_rt (env := [.d (.int i)]) rfl ?_
  simp only [callF, List.append_nil, List.cons_append, List.nil_append, List.length_cons, List.length_nil, Nat.zero_add, Nat.reduceAdd, reduceIte, seqS, setS, retS, exprS, nextS, ifS, thenS, DL.bindM, retM, optM, m1, m2, mVar, consM, callM, truM, andT, orT, notT, andV, orV, notV, ifM, penGet, penPut, parS, asgS, tupM, lstM, partM, addD, subD, ltD, gtD, geD, leD, negD, DL.intD, absD, lenD, truD, isNon, strCD, List.getElem?_cons_succ, List.getElem?_cons_zero, List.set_cons_succ, List.set_cons_zero, if_true, Bool.false_eq_true, if_false, Bool.not_true, Bool.not_false, pkInt_int]
theorem pkNum_rat {tb tbR : List (Nat × Bool)} {c : Nat} {p : Int × Int} (h1 : tb.lookup c = some false) (h2 : tbR.lookup c = some true) (s : Pen) : pkNum tb tbR [rat c p] s = .ok (.bl true, s) := by
  refine runF_rt (env := [.d (rat c p)]) rfl ?_
  have e := pkInt_ok (d := rat c p) h1 s
  have e0 : isIntD (rat c p) = false := rfl
  have e2 : isiD false false false false false false tbR (rat c p) = some (.bl true) := by unfold rat; simp only [isiD, h2, Option.map_some]
  simp only [callF, List.append_nil, List.cons_append, List.nil_append, List.length_cons, List.length_nil, Nat.zero_add, Nat.reduceAdd, reduceIte, seqS, setS, retS, exprS, nextS, ifS, thenS, DL.bindM, retM, optM, m1, m2, mVar, consM, callM, truM, andT, orT, notT, andV, orV, notV, ifM, penGet, penPut, parS, asgS, tupM, lstM, partM, addD, subD, ltD, gtD, geD, leD, negD, DL.intD, absD, lenD, truD, isNon, strCD, List.getElem?_cons_succ, List.getElem?_cons_zero, List.set_cons_succ, List.set_cons_zero, if_true, Bool.false_eq_true, if_false, Bool.not_true, Bool.not_false, e, e0, e2]
def pkPlain (c e : Nat) (tb : List (Nat × Bool)) : List D → Pen → R (D × Pen) Pen := runF 1 (retS (ifM (truM (callF 1 (pkInt tb) [] (consM (mVar 0) (retM [])))) (makeF c 2 (pkRInit c e tb) [.int 1] (consM (mVar 0) (retM []))) (mVar 0)))
theorem low_whole (a : Int) : low a 1 = (a, 1) := low_idem (by decide) (Nat.gcd_one_right _)
theorem pkPlain_int {c e : Nat} {tb : List (Nat × Bool)} {i : Int} (s : Pen) : pkPlain c e tb [.int i] s = .ok (rat c (i, 1), s) := by
  refine runF_rt (env := [.d (.int i)]) rfl ?_
  have mk := rmake_ok (c := c) (e := e) (tb := tb) (a := i) (b := 1) (by decide) (by decide +kernel) s
  rw [low_whole] at mk
  unfold makeF
  simp only [callF, List.append_nil, List.cons_append, List.nil_append, List.length_cons, List.length_nil, Nat.zero_add, Nat.reduceAdd, reduceIte, seqS, setS, retS, exprS, nextS, ifS, thenS, DL.bindM, retM, optM, m1, m2, mVar, consM, callM, truM, andT, orT, notT, andV, orV, notV, ifM, penGet, penPut, parS, asgS, tupM, lstM, partM, addD, subD, ltD, gtD, geD, leD, negD, DL.intD, absD, lenD, truD, isNon, strCD, List.getElem?_cons_succ, List.getElem?_cons_zero, List.set_cons_succ, List.set_cons_zero, if_true, Bool.false_eq_true, if_false, Bool.not_true, Bool.not_false, pkInt_int, mk]
theorem pkPlain_rat {c e : Nat} {tb : List (Nat × Bool)} {p : Int × Int} (h : tb.lookup c = some false) (s : Pen) : pkPlain c e tb [rat c p] s = .ok (rat c p, s) := by
  refine runF_rt (env := [.d (rat c p)]) rfl ?_
  have e1 := pkInt_ok (d := rat c p) h s
  have e2 : isIntD (rat c p) = false := rfl
  unfold makeF
  simp only [callF, List.append_nil, List.cons_append, List.nil_append, List.length_cons, List.length_nil, Nat.zero_add, Nat.reduceAdd, reduceIte, seqS, setS, retS, exprS, nextS, ifS, thenS, DL.bindM, retM, optM, m1, m2, mVar, consM, callM, truM, andT, orT, notT, andV, orV, notV, ifM, penGet, penPut, parS, asgS, tupM, lstM, partM, addD, subD, ltD, gtD, geD, leD, negD, DL.intD, absD, lenD, truD, isNon, strCD, List.getElem?_cons_succ, List.getElem?_cons_zero, List.set_cons_succ, List.set_cons_zero, if_true, Bool.false_eq_true, if_false, Bool.not_true, Bool.not_false, e1, e2]
def pkRMul (c e : Nat) (tb tbR : List (Nat × Bool)) : List D → Pen → R (D × Pen) Pen := runF 2
    (seqS (ifS (truM (callF 1 (pkInt tb) [] (consM (mVar 1) (retM [])))) (retS (makeF c 2 (pkRInit c e tb) [] (consM (m2 mulD (m1 (fldD [(c, 0)]) (mVar 0)) (mVar 1)) (consM (m1 (fldD [(c, 1)]) (mVar 0)) (retM []))))) nextS)
    (seqS (ifS (notT (truM (m1 (isiD false false false false false false tbR) (mVar 1)))) badS nextS)
    (retS (makeF c 2 (pkRInit c e tb) [] (consM (m2 mulD (m1 (fldD [(c, 0)]) (mVar 0)) (m1 (fldD [(c, 0)]) (mVar 1))) (consM (m2 mulD (m1 (fldD [(c, 1)]) (mVar 0)) (m1 (fldD [(c, 1)]) (mVar 1))) (retM [])))))))
theorem rmul_ok {c e k m : Nat} {tb tbR : List (Nat × Bool)} {p q : Int × Int} (h1 : tb.lookup c = some false) (h2 : tbR.lookup c = some true) (hp : Lo k p) (hq : Lo m q) (hk : k + m ≤ 8000) (s : Pen) : pkRMul c e tb tbR [rat c p, rat c q] s = .ok (rat c (lmul p q), s) := by
  unfold pkRMul
  refine runF_W (env := [.d (rat c p), .d (rat c q)]) rfl ?_
  have e1 := pkInt_ok (d := rat c q) h1 s
  have e2 : isIntD (rat c q) = false := rfl
  have e3 : isiD false false false false false false tbR (rat c q) = some (.bl true) := by unfold rat; simp only [isiD, h2, Option.map_some]
  have m1' := mulD_ok (mulOk_small hp.b1 hq.b1 (by omega))
  have m2' := mulD_ok (mulOk_small hp.b2 hq.b2 (by omega))
  have ps := mul_small hp.b2 hq.b2
  have pp := Int.mul_pos hp.pos hq.pos
  have mk := rmake_ok (c := c) (e := e) (tb := tb) (a := p.1 * q.1) (b := p.2 * q.2) (by omega) (Nat.lt_of_lt_of_le ps (Nat.pow_le_pow_right (by decide) hk)) s
  refine W.step (by simp only [ev_m1, ev_m2, ev_consM, ev_callM, ev_callF, ev_truM, ev_andT, ev_orT, ev_notT, ev_andV, ev_orV, ev_notV, ev_ifM, ev_tupM, ev_lstM, ev_partM, ev_parS, ev_par3S, ev_parOS, ev_asgS, ev_setS, ev_retS, ev_exprS, ev_ifS, ev_ownS, ev_raiseS, ev_makeF, ev_methF, ev_chT, ev_itM, ev_itA, ev_sliceM, ev_selfS, ev_penGet, ev_penPut, ev_mStr1, ev_thenS, ev_bindM, ev_retM, ev_optM, ev_mVar, ev_nextS, frzS, ev_yesM, List.append_nil, List.cons_append, List.nil_append, List.length_cons, List.length_nil, Nat.zero_add, Nat.reduceAdd, reduceIte, addD, subD, ltD, gtD, geD, leD, negD, DL.intD, absD, lenD, truD, DL.isNon, truB, strCD, extS, apS, DL.setAll, DL.assignT, List.getElem?_cons_succ, List.getElem?_cons_zero, List.set_cons_succ, List.set_cons_zero, if_true, Bool.false_eq_true, if_false, Bool.not_true, Bool.not_false, W_ok, W_exc, KS_nx, KS_rt, Bool.true_and, Bool.and_true, Bool.false_or, Bool.or_false, Bool.and_false, Bool.or_true, Bool.false_and, Bool.true_or, e1, e2] <;> rfl) ?_
  refine W.step (by simp only [ev_m1, ev_m2, ev_consM, ev_callM, ev_callF, ev_truM, ev_andT, ev_orT, ev_notT, ev_andV, ev_orV, ev_notV, ev_ifM, ev_tupM, ev_lstM, ev_partM, ev_parS, ev_par3S, ev_parOS, ev_asgS, ev_setS, ev_retS, ev_exprS, ev_ifS, ev_ownS, ev_raiseS, ev_makeF, ev_methF, ev_chT, ev_itM, ev_itA, ev_sliceM, ev_selfS, ev_penGet, ev_penPut, ev_mStr1, ev_thenS, ev_bindM, ev_retM, ev_optM, ev_mVar, ev_nextS, frzS, ev_yesM, List.append_nil, List.cons_append, List.nil_append, List.length_cons, List.length_nil, Nat.zero_add, Nat.reduceAdd, reduceIte, addD, subD, ltD, gtD, geD, leD, negD, DL.intD, absD, lenD, truD, DL.isNon, truB, strCD, extS, apS, DL.setAll, DL.assignT, List.getElem?_cons_succ, List.getElem?_cons_zero, List.set_cons_succ, List.set_cons_zero, if_true, Bool.false_eq_true, if_false, Bool.not_true, Bool.not_false, W_ok, W_exc, KS_nx, KS_rt, Bool.true_and, Bool.and_true, Bool.false_or, Bool.or_false, Bool.and_false, Bool.or_true, Bool.false_and, Bool.true_or, e3] <;> rfl) ?_
  simp only [ev_m1, ev_m2, ev_consM, ev_callM, ev_callF, ev_truM, ev_andT, ev_orT, ev_notT, ev_andV, ev_orV, ev_notV, ev_ifM, ev_tupM, ev_lstM, ev_partM, ev_parS, ev_par3S, ev_parOS, ev_asgS, ev_setS, ev_retS, ev_exprS, ev_ifS, ev_ownS, ev_raiseS, ev_makeF, ev_methF, ev_chT, ev_itM, ev_itA, ev_sliceM, ev_selfS, ev_penGet, ev_penPut, ev_mStr1, ev_thenS, ev_bindM, ev_retM, ev_optM, ev_mVar, ev_nextS, frzS, ev_yesM, List.append_nil, List.cons_append, List.nil_append, List.length_cons, List.length_nil, Nat.zero_add, Nat.reduceAdd, reduceIte, addD, subD, ltD, gtD, geD, leD, negD, DL.intD, absD, lenD, truD, DL.isNon, truB, strCD, extS, apS, DL.setAll, DL.assignT, List.getElem?_cons_succ, List.getElem?_cons_zero, List.set_cons_succ, List.set_cons_zero, if_true, Bool.false_eq_true, if_false, Bool.not_true, Bool.not_false, W_ok, W_exc, KS_nx, KS_rt, Bool.true_and, Bool.and_true, Bool.false_or, Bool.or_false, Bool.and_false, Bool.or_true, Bool.false_and, Bool.true_or, rat_top, rat_bot, m1', m2', mk]
  rfl
theorem binO_rat {c : Nat} {mf : List D → Pen → R (D × Pen) Pen} {ma mb : M Pen D} {env : DL.Env} {s s1 s2 : Pen} {p q : Int × Int} (ha : ma env s = .ok (rat c p, s1)) (hb : mb env s1 = .ok (rat c q, s2)) : binO c mf ma mb env s = mf [rat c p, rat c q] s2 := by
  unfold binO DL.bindM
  rw [ha]
  dsimp only
  rw [hb]
  exact if_pos ⟨rfl, rfl⟩
end DL
set_option Elab.async false
set_option linter.all false
set_option maxRecDepth 100000
set_option maxHeartbeats 1000000
set_option exponentiation.threshold 9000
namespace DL
open PySem PySem.Spec PyProof.Rows L2
abbrev pkDraw : List D → Pen → R (D × Pen) Pen := runF 5 drawM
abbrev pkPick : List D → Pen → R (D × Pen) Pen := runF 2 pickM
theorem draw1 {n : Nat} {p : Pen} (h : PenOk n p) (hn : n < 1000000000000) {many : Int} (hm : 0 < many) (hl : many < 1000000000000) : ∃ r p', pkDraw [.st, .int many] p = .ok (.int r, p') ∧ 0 ≤ r ∧ r < many ∧ PenOk (n + 1) p' := by
  have := log2_small (i := many) (k := 200) (by have : (1000000000000 : Nat) < 2 ^ 200 := (by decide +kernel); omega) (by decide)
  exact draw_ok h hn hm (by omega)
theorem rng1_ok {j : Int} (h : j < 1000000000000) (h0 : -1000000000000 < j) : rng1 [.int j] = some (rangeL 0 j.toNat) := by unfold rng1; exact if_pos (by omega)
theorem rangeL_map (n : Nat) : rangeL 0 n = (List.range n).map fun i : Nat => D.int (i : Int) := by unfold rangeL; congr 1; funext i; rw [Int.zero_add]
/-- (never by simp over rng1: the kernel would count to 2^62) -/
theorem it_rng1 {ms : M Pen (List D)} {env : DL.Env} {s s1 : Pen} {n : Nat} (h : ms env s = .ok ([.int (n : Int)], s1)) (hn : n < 1000000000) : itA rng1 ms env s = .ok ((List.range n).map fun i : Nat => D.int (i : Int), s1) := by
  have e := rng1_ok (j := (n : Int)) (by omega) (by omega)
  rw [Int.toNat_natCast, rangeL_map] at e
  unfold itA DL.bindM
  rw [h]
  generalize rng1 = f at e ⊢
  show optM (f [.int (n : Int)]) env s1 = _
  rw [e]
  rfl
def frac (p : Int × Int) : D := .tup [.int p.1, .int p.2]
theorem frac0 {p : Int × Int} : ixD (frac p) (.int 0) = some (.int p.1) := by unfold frac ixD atI ixN; simp
theorem frac1 {p : Int × Int} : ixD (frac p) (.int 1) = some (.int p.2) := by unfold frac ixD atI ixN; simp
theorem frac_pl {n : Nat} {p : Int × Int} : Pl (n + 1) (frac p) := Pl.tup fun d hd => by
  simp only [List.mem_cons, List.not_mem_nil, or_false] at hd
  rcases hd with rfl | rfl <;> exact Pl.int _
def gcdFuel : DL.Env → Nat := fun env => match env[1]? with | some (Slot.d (D.int b)) => b.natAbs + 1 | _ => 0
def lwGcd : List D → Pen → R (D × Pen) Pen := runF 2
    (seqS (parS 0 1 (consM (callM absD (consM (mVar 0) (retM []))) (consM (callM absD (consM (mVar 1) (retM []))) (retM []))))
    (seqS (whileS gcdFuel (truM (m2 gtD (mVar 1) (retM (.int 0)))) (parS 0 1 (consM (mVar 1) (consM (m2 modD (callM intD (consM (mVar 0) (retM []))) (mVar 1)) (retM [])))))
    (retS (mVar 0))))
theorem lwGcd_ok (a b : Int) (s : Pen) : lwGcd [.int a, .int b] s = .ok (.int ((Nat.gcd a.natAbs b.natAbs : Nat) : Int), s) := by
  unfold lwGcd
  refine runF_W (env := [.d (.int a), .d (.int b)]) rfl ?_
  refine W.step (by simp only [ev_m1, ev_m2, ev_consM, ev_callM, ev_callF, ev_truM, ev_andT, ev_orT, ev_notT, ev_andV, ev_orV, ev_notV, ev_ifM, ev_tupM, ev_lstM, ev_partM, ev_parS, ev_par3S, ev_parOS, ev_asgS, ev_setS, ev_retS, ev_exprS, ev_ifS, ev_ownS, ev_raiseS, ev_makeF, ev_methF, ev_chT, ev_itM, ev_itA, ev_sliceM, ev_selfS, ev_penGet, ev_penPut, ev_mStr1, ev_thenS, ev_bindM, ev_retM, ev_optM, ev_mVar, ev_nextS, frzS, ev_yesM, List.append_nil, List.cons_append, List.nil_append, List.length_cons, List.length_nil, Nat.zero_add, Nat.reduceAdd, reduceIte, addD, subD, ltD, gtD, geD, leD, negD, DL.intD, absD, lenD, truD, DL.isNon, truB, strCD, extS, apS, DL.setAll, DL.assignT, List.getElem?_cons_succ, List.getElem?_cons_zero, List.set_cons_succ, List.set_cons_zero, if_true, Bool.false_eq_true, if_false, Bool.not_true, Bool.not_false, W_ok, W_exc, KS_nx, KS_rt, Bool.true_and, Bool.and_true, Bool.false_or, Bool.or_false, Bool.and_false, Bool.or_true, Bool.false_and, Bool.true_or, abs_nat] <;> rfl) ?_
  refine W.seq (W.whileN (fun n env s' => s' = s ∧ ∃ x y : Nat, n = y ∧ env = [.d (.int x), .d (.int y)] ∧ Nat.gcd x y = Nat.gcd a.natAbs b.natAbs) ?_ _ b.natAbs _ _ (by show _ < ((b.natAbs : Int)).natAbs + 1; omega) ⟨rfl, _, _, rfl, rfl, rfl⟩)
  rintro n env s' ⟨hs', x, y, hn, he, hg⟩
  subst hs' hn he
  refine ⟨decide ((0 : Int) < (n : Int)), s', by simp only [ev_m1, ev_m2, ev_consM, ev_callM, ev_callF, ev_truM, ev_andT, ev_orT, ev_notT, ev_andV, ev_orV, ev_notV, ev_ifM, ev_tupM, ev_lstM, ev_partM, ev_parS, ev_par3S, ev_parOS, ev_asgS, ev_setS, ev_retS, ev_exprS, ev_ifS, ev_ownS, ev_raiseS, ev_makeF, ev_methF, ev_chT, ev_itM, ev_itA, ev_sliceM, ev_selfS, ev_penGet, ev_penPut, ev_mStr1, ev_thenS, ev_bindM, ev_retM, ev_optM, ev_mVar, ev_nextS, frzS, ev_yesM, List.append_nil, List.cons_append, List.nil_append, List.length_cons, List.length_nil, Nat.zero_add, Nat.reduceAdd, reduceIte, addD, subD, ltD, gtD, geD, leD, negD, DL.intD, absD, lenD, truD, DL.isNon, truB, strCD, extS, apS, DL.setAll, DL.assignT, List.getElem?_cons_succ, List.getElem?_cons_zero, List.set_cons_succ, List.set_cons_zero, if_true, Bool.false_eq_true, if_false, Bool.not_true, Bool.not_false], fun hb => ?_, fun hb => ?_⟩
  · have hy : n = 0 := by have := of_decide_eq_false hb; omega
    subst hy
    rw [KS_nx]
    rw [Nat.gcd_zero_right] at hg
    simp only [ev_m1, ev_m2, ev_consM, ev_callM, ev_callF, ev_truM, ev_andT, ev_orT, ev_notT, ev_andV, ev_orV, ev_notV, ev_ifM, ev_tupM, ev_lstM, ev_partM, ev_parS, ev_par3S, ev_parOS, ev_asgS, ev_setS, ev_retS, ev_exprS, ev_ifS, ev_ownS, ev_raiseS, ev_makeF, ev_methF, ev_chT, ev_itM, ev_itA, ev_sliceM, ev_selfS, ev_penGet, ev_penPut, ev_mStr1, ev_thenS, ev_bindM, ev_retM, ev_optM, ev_mVar, ev_nextS, frzS, ev_yesM, List.append_nil, List.cons_append, List.nil_append, List.length_cons, List.length_nil, Nat.zero_add, Nat.reduceAdd, reduceIte, addD, subD, ltD, gtD, geD, leD, negD, DL.intD, absD, lenD, truD, DL.isNon, truB, strCD, extS, apS, DL.setAll, DL.assignT, List.getElem?_cons_succ, List.getElem?_cons_zero, List.set_cons_succ, List.set_cons_zero, if_true, Bool.false_eq_true, if_false, Bool.not_true, Bool.not_false, W_ok, W_exc, KS_nx, KS_rt, Bool.true_and, Bool.and_true, Bool.false_or, Bool.or_false, Bool.and_false, Bool.or_true, Bool.false_and, Bool.true_or, hg]
  · have hy : 0 < (n : Int) := of_decide_eq_true hb
    have e2 : modD (.int (x : Int)) (.int (n : Int)) = some (.int ((x % n : Nat) : Int)) := by
      rw [modD_ok (by omega), Int.fmod_eq_emod_of_nonneg _ (by omega)]
      rfl
    simp only [ev_m1, ev_m2, ev_consM, ev_callM, ev_callF, ev_truM, ev_andT, ev_orT, ev_notT, ev_andV, ev_orV, ev_notV, ev_ifM, ev_tupM, ev_lstM, ev_partM, ev_parS, ev_par3S, ev_parOS, ev_asgS, ev_setS, ev_retS, ev_exprS, ev_ifS, ev_ownS, ev_raiseS, ev_makeF, ev_methF, ev_chT, ev_itM, ev_itA, ev_sliceM, ev_selfS, ev_penGet, ev_penPut, ev_mStr1, ev_thenS, ev_bindM, ev_retM, ev_optM, ev_mVar, ev_nextS, frzS, ev_yesM, List.append_nil, List.cons_append, List.nil_append, List.length_cons, List.length_nil, Nat.zero_add, Nat.reduceAdd, reduceIte, addD, subD, ltD, gtD, geD, leD, negD, DL.intD, absD, lenD, truD, DL.isNon, truB, strCD, extS, apS, DL.setAll, DL.assignT, List.getElem?_cons_succ, List.getElem?_cons_zero, List.set_cons_succ, List.set_cons_zero, if_true, Bool.false_eq_true, if_false, Bool.not_true, Bool.not_false, W_ok, W_exc, KS_nx, KS_rt, Bool.true_and, Bool.and_true, Bool.false_or, Bool.or_false, Bool.and_false, Bool.or_true, Bool.false_and, Bool.true_or, e2, KL_nx, true_and]
    exact ⟨x % n, Nat.mod_lt _ (by omega), n, x % n, rfl, rfl, by rw [Nat.gcd_comm n, ← Nat.gcd_rec, Nat.gcd_comm]; exact hg⟩
def lwOf : List D → Pen → R (D × Pen) Pen := runF 3
    (seqS (setS 2 (callF 2 lwGcd [] (consM (mVar 0) (consM (mVar 1) (retM [])))))
    (seqS (setS 2 (ifM (truM (m2 gtD (mVar 1) (retM (.int 0)))) (mVar 2) (m1 negD (mVar 2))))
    (retS (tupM (consM (m2 fdivD (mVar 0) (mVar 2)) (consM (m2 fdivD (mVar 1) (mVar 2)) (retM [])))))))
theorem lwOf_ok {a b : Int} (hb : b ≠ 0) (h : b.natAbs < 2 ^ 8000) (s : Pen) : lwOf [.int a, .int b] s = .ok (frac (low a b), s) := by
  have hp := gcd_pos (a := a) hb
  have lg := lg_gcd (a := a) hb h
  have lg2 : (-((Nat.gcd a.natAbs b.natAbs : Nat) : Int)).natAbs.log2 < 9000 := by rw [Int.natAbs_neg]; exact lg
  unfold lwOf
  refine runF_W (env := [.d (.int a), .d (.int b), .no]) rfl ?_
  refine W.step (by simp only [ev_m1, ev_m2, ev_consM, ev_callM, ev_callF, ev_truM, ev_andT, ev_orT, ev_notT, ev_andV, ev_orV, ev_notV, ev_ifM, ev_tupM, ev_lstM, ev_partM, ev_parS, ev_par3S, ev_parOS, ev_asgS, ev_setS, ev_retS, ev_exprS, ev_ifS, ev_ownS, ev_raiseS, ev_makeF, ev_methF, ev_chT, ev_itM, ev_itA, ev_sliceM, ev_selfS, ev_penGet, ev_penPut, ev_mStr1, ev_thenS, ev_bindM, ev_retM, ev_optM, ev_mVar, ev_nextS, frzS, ev_yesM, List.append_nil, List.cons_append, List.nil_append, List.length_cons, List.length_nil, Nat.zero_add, Nat.reduceAdd, reduceIte, addD, subD, ltD, gtD, geD, leD, negD, DL.intD, absD, lenD, truD, DL.isNon, truB, strCD, extS, apS, DL.setAll, DL.assignT, List.getElem?_cons_succ, List.getElem?_cons_zero, List.set_cons_succ, List.set_cons_zero, if_true, Bool.false_eq_true, if_false, Bool.not_true, Bool.not_false, W_ok, W_exc, KS_nx, KS_rt, Bool.true_and, Bool.and_true, Bool.false_or, Bool.or_false, Bool.and_false, Bool.or_true, Bool.false_and, Bool.true_or, lwGcd_ok] <;> rfl) ?_
  by_cases hbp : 0 < b
  · have d1 : ∀ i, fdivD (.int i) (.int ((Nat.gcd a.natAbs b.natAbs : Nat) : Int)) = some (.int (i.fdiv ((Nat.gcd a.natAbs b.natAbs : Nat) : Int))) := fun i => fdivD_ok (by omega) lg
    refine W.step (by simp only [ev_m1, ev_m2, ev_consM, ev_callM, ev_callF, ev_truM, ev_andT, ev_orT, ev_notT, ev_andV, ev_orV, ev_notV, ev_ifM, ev_tupM, ev_lstM, ev_partM, ev_parS, ev_par3S, ev_parOS, ev_asgS, ev_setS, ev_retS, ev_exprS, ev_ifS, ev_ownS, ev_raiseS, ev_makeF, ev_methF, ev_chT, ev_itM, ev_itA, ev_sliceM, ev_selfS, ev_penGet, ev_penPut, ev_mStr1, ev_thenS, ev_bindM, ev_retM, ev_optM, ev_mVar, ev_nextS, frzS, ev_yesM, List.append_nil, List.cons_append, List.nil_append, List.length_cons, List.length_nil, Nat.zero_add, Nat.reduceAdd, reduceIte, addD, subD, ltD, gtD, geD, leD, negD, DL.intD, absD, lenD, truD, DL.isNon, truB, strCD, extS, apS, DL.setAll, DL.assignT, List.getElem?_cons_succ, List.getElem?_cons_zero, List.set_cons_succ, List.set_cons_zero, if_true, Bool.false_eq_true, if_false, Bool.not_true, Bool.not_false, W_ok, W_exc, KS_nx, KS_rt, Bool.true_and, Bool.and_true, Bool.false_or, Bool.or_false, Bool.and_false, Bool.or_true, Bool.false_and, Bool.true_or, decide_eq_true hbp] <;> rfl) ?_
    simp only [ev_m1, ev_m2, ev_consM, ev_callM, ev_callF, ev_truM, ev_andT, ev_orT, ev_notT, ev_andV, ev_orV, ev_notV, ev_ifM, ev_tupM, ev_lstM, ev_partM, ev_parS, ev_par3S, ev_parOS, ev_asgS, ev_setS, ev_retS, ev_exprS, ev_ifS, ev_ownS, ev_raiseS, ev_makeF, ev_methF, ev_chT, ev_itM, ev_itA, ev_sliceM, ev_selfS, ev_penGet, ev_penPut, ev_mStr1, ev_thenS, ev_bindM, ev_retM, ev_optM, ev_mVar, ev_nextS, frzS, ev_yesM, List.append_nil, List.cons_append, List.nil_append, List.length_cons, List.length_nil, Nat.zero_add, Nat.reduceAdd, reduceIte, addD, subD, ltD, gtD, geD, leD, negD, DL.intD, absD, lenD, truD, DL.isNon, truB, strCD, extS, apS, DL.setAll, DL.assignT, List.getElem?_cons_succ, List.getElem?_cons_zero, List.set_cons_succ, List.set_cons_zero, if_true, Bool.false_eq_true, if_false, Bool.not_true, Bool.not_false, W_ok, W_exc, KS_nx, KS_rt, Bool.true_and, Bool.and_true, Bool.false_or, Bool.or_false, Bool.and_false, Bool.or_true, Bool.false_and, Bool.true_or, d1, tupD, frac, low, if_pos hbp, Nat.reduceLeDiff]
  · have d1 : ∀ i, fdivD (.int i) (.int (-((Nat.gcd a.natAbs b.natAbs : Nat) : Int))) = some (.int (i.fdiv (-((Nat.gcd a.natAbs b.natAbs : Nat) : Int)))) := fun i => fdivD_ok (by omega) lg2
    refine W.step (by simp only [ev_m1, ev_m2, ev_consM, ev_callM, ev_callF, ev_truM, ev_andT, ev_orT, ev_notT, ev_andV, ev_orV, ev_notV, ev_ifM, ev_tupM, ev_lstM, ev_partM, ev_parS, ev_par3S, ev_parOS, ev_asgS, ev_setS, ev_retS, ev_exprS, ev_ifS, ev_ownS, ev_raiseS, ev_makeF, ev_methF, ev_chT, ev_itM, ev_itA, ev_sliceM, ev_selfS, ev_penGet, ev_penPut, ev_mStr1, ev_thenS, ev_bindM, ev_retM, ev_optM, ev_mVar, ev_nextS, frzS, ev_yesM, List.append_nil, List.cons_append, List.nil_append, List.length_cons, List.length_nil, Nat.zero_add, Nat.reduceAdd, reduceIte, addD, subD, ltD, gtD, geD, leD, negD, DL.intD, absD, lenD, truD, DL.isNon, truB, strCD, extS, apS, DL.setAll, DL.assignT, List.getElem?_cons_succ, List.getElem?_cons_zero, List.set_cons_succ, List.set_cons_zero, if_true, Bool.false_eq_true, if_false, Bool.not_true, Bool.not_false, W_ok, W_exc, KS_nx, KS_rt, Bool.true_and, Bool.and_true, Bool.false_or, Bool.or_false, Bool.and_false, Bool.or_true, Bool.false_and, Bool.true_or, decide_eq_false hbp] <;> rfl) ?_
    simp only [ev_m1, ev_m2, ev_consM, ev_callM, ev_callF, ev_truM, ev_andT, ev_orT, ev_notT, ev_andV, ev_orV, ev_notV, ev_ifM, ev_tupM, ev_lstM, ev_partM, ev_parS, ev_par3S, ev_parOS, ev_asgS, ev_setS, ev_retS, ev_exprS, ev_ifS, ev_ownS, ev_raiseS, ev_makeF, ev_methF, ev_chT, ev_itM, ev_itA, ev_sliceM, ev_selfS, ev_penGet, ev_penPut, ev_mStr1, ev_thenS, ev_bindM, ev_retM, ev_optM, ev_mVar, ev_nextS, frzS, ev_yesM, List.append_nil, List.cons_append, List.nil_append, List.length_cons, List.length_nil, Nat.zero_add, Nat.reduceAdd, reduceIte, addD, subD, ltD, gtD, geD, leD, negD, DL.intD, absD, lenD, truD, DL.isNon, truB, strCD, extS, apS, DL.setAll, DL.assignT, List.getElem?_cons_succ, List.getElem?_cons_zero, List.set_cons_succ, List.set_cons_zero, if_true, Bool.false_eq_true, if_false, Bool.not_true, Bool.not_false, W_ok, W_exc, KS_nx, KS_rt, Bool.true_and, Bool.and_true, Bool.false_or, Bool.or_false, Bool.and_false, Bool.or_true, Bool.false_and, Bool.true_or, d1, tupD, frac, low, if_neg hbp, Nat.reduceLeDiff]
def lwMul : List D → Pen → R (D × Pen) Pen := runF 2
    (retS (callF 2 lwOf [] (consM (m2 mulD (m2 ixD (mVar 0) (retM (.int 0))) (m2 ixD (mVar 1) (retM (.int 0)))) (consM (m2 mulD (m2 ixD (mVar 0) (retM (.int 1))) (m2 ixD (mVar 1) (retM (.int 1)))) (retM [])))))
theorem lwMul_ok {k m : Nat} {p q : Int × Int} (hp : Lo k p) (hq : Lo m q) (hk : k + m ≤ 8000) (s : Pen) : lwMul [frac p, frac q] s = .ok (frac (lmul p q), s) := by
  unfold lwMul
  refine runF_W (env := [.d (frac p), .d (frac q)]) rfl ?_
  have m1' := mulD_ok (mulOk_small hp.b1 hq.b1 (by omega))
  have m2' := mulD_ok (mulOk_small hp.b2 hq.b2 (by omega))
  have ps := mul_small hp.b2 hq.b2
  have pp := Int.mul_pos hp.pos hq.pos
  have mk := lwOf_ok (a := p.1 * q.1) (b := p.2 * q.2) (by omega) (Nat.lt_of_lt_of_le ps (Nat.pow_le_pow_right (by decide) hk)) s
  simp only [ev_m1, ev_m2, ev_consM, ev_callM, ev_callF, ev_truM, ev_andT, ev_orT, ev_notT, ev_andV, ev_orV, ev_notV, ev_ifM, ev_tupM, ev_lstM, ev_partM, ev_parS, ev_par3S, ev_parOS, ev_asgS, ev_setS, ev_retS, ev_exprS, ev_ifS, ev_ownS, ev_raiseS, ev_makeF, ev_methF, ev_chT, ev_itM, ev_itA, ev_sliceM, ev_selfS, ev_penGet, ev_penPut, ev_mStr1, ev_thenS, ev_bindM, ev_retM, ev_optM, ev_mVar, ev_nextS, frzS, ev_yesM, List.append_nil, List.cons_append, List.nil_append, List.length_cons, List.length_nil, Nat.zero_add, Nat.reduceAdd, reduceIte, addD, subD, ltD, gtD, geD, leD, negD, DL.intD, absD, lenD, truD, DL.isNon, truB, strCD, extS, apS, DL.setAll, DL.assignT, List.getElem?_cons_succ, List.getElem?_cons_zero, List.set_cons_succ, List.set_cons_zero, if_true, Bool.false_eq_true, if_false, Bool.not_true, Bool.not_false, W_ok, W_exc, KS_nx, KS_rt, Bool.true_and, Bool.and_true, Bool.false_or, Bool.or_false, Bool.and_false, Bool.or_true, Bool.false_and, Bool.true_or, frac0, frac1, m1', m2', mk]
  rfl
def lwNeg : List D → Pen → R (D × Pen) Pen := runF 1
    (retS (tupM (consM (m1 negD (m2 ixD (mVar 0) (retM (.int 0)))) (consM (m2 ixD (mVar 0) (retM (.int 1))) (retM [])))))
theorem lwNeg_ok (p : Int × Int) (s : Pen) : lwNeg [frac p] s = .ok (frac (-p.1, p.2), s) := by
  unfold lwNeg
  refine runF_W (env := [.d (frac p)]) rfl ?_
  simp only [ev_m1, ev_m2, ev_consM, ev_callM, ev_callF, ev_truM, ev_andT, ev_orT, ev_notT, ev_andV, ev_orV, ev_notV, ev_ifM, ev_tupM, ev_lstM, ev_partM, ev_parS, ev_par3S, ev_parOS, ev_asgS, ev_setS, ev_retS, ev_exprS, ev_ifS, ev_ownS, ev_raiseS, ev_makeF, ev_methF, ev_chT, ev_itM, ev_itA, ev_sliceM, ev_selfS, ev_penGet, ev_penPut, ev_mStr1, ev_thenS, ev_bindM, ev_retM, ev_optM, ev_mVar, ev_nextS, frzS, ev_yesM, List.append_nil, List.cons_append, List.nil_append, List.length_cons, List.length_nil, Nat.zero_add, Nat.reduceAdd, reduceIte, addD, subD, ltD, gtD, geD, leD, negD, DL.intD, absD, lenD, truD, DL.isNon, truB, strCD, extS, apS, DL.setAll, DL.assignT, List.getElem?_cons_succ, List.getElem?_cons_zero, List.set_cons_succ, List.set_cons_zero, if_true, Bool.false_eq_true, if_false, Bool.not_true, Bool.not_false, W_ok, W_exc, KS_nx, KS_rt, Bool.true_and, Bool.and_true, Bool.false_or, Bool.or_false, Bool.and_false, Bool.or_true, Bool.false_and, Bool.true_or, frac0, frac1, tupD, Nat.reduceLeDiff]
  rfl
def lwIs (c : Nat) (tb tbR : List (Nat × Bool)) : List D → Pen → R (D × Pen) Pen := runF 2
    (seqS (ifS (orT (notT (truM (m1 (isiD false false false false false false tbR) (mVar 0)))) (orT (notT (truM (m1 (isiD false true true false false false tb) (m1 (fldD [(c, 0)]) (mVar 0))))) (notT (truM (m1 (isiD false true true false false false tb) (m1 (fldD [(c, 1)]) (mVar 0))))))) (retS (retM (.bl false))) nextS)
    (retS (m2 eqD (tupM (consM (m1 (fldD [(c, 0)]) (mVar 0)) (consM (m1 (fldD [(c, 1)]) (mVar 0)) (retM [])))) (mVar 1))))
theorem lwIs_ok {c : Nat} {tb tbR : List (Nat × Bool)} (h2 : tbR.lookup c = some true) (p : Int × Int) (s : Pen) : lwIs c tb tbR [rat c p, frac p] s = .ok (.bl true, s) := by
  unfold lwIs
  refine runF_W (env := [.d (rat c p), .d (frac p)]) rfl ?_
  have e3 : isiD false false false false false false tbR (rat c p) = some (.bl true) := by unfold rat; simp only [isiD, h2, Option.map_some]
  have e4 : ∀ i : Int, isiD false true true false false false tb (.int i) = some (.bl true) := fun _ => rfl
  have e5 : eqD (.tup [.int p.1, .int p.2]) (frac p) = some (.bl true) := eqD_self (n := 1) frac_pl (by decide)
  refine W.step (by simp only [ev_m1, ev_m2, ev_consM, ev_callM, ev_callF, ev_truM, ev_andT, ev_orT, ev_notT, ev_andV, ev_orV, ev_notV, ev_ifM, ev_tupM, ev_lstM, ev_partM, ev_parS, ev_par3S, ev_parOS, ev_asgS, ev_setS, ev_retS, ev_exprS, ev_ifS, ev_ownS, ev_raiseS, ev_makeF, ev_methF, ev_chT, ev_itM, ev_itA, ev_sliceM, ev_selfS, ev_penGet, ev_penPut, ev_mStr1, ev_thenS, ev_bindM, ev_retM, ev_optM, ev_mVar, ev_nextS, frzS, ev_yesM, List.append_nil, List.cons_append, List.nil_append, List.length_cons, List.length_nil, Nat.zero_add, Nat.reduceAdd, reduceIte, addD, subD, ltD, gtD, geD, leD, negD, DL.intD, absD, lenD, truD, DL.isNon, truB, strCD, extS, apS, DL.setAll, DL.assignT, List.getElem?_cons_succ, List.getElem?_cons_zero, List.set_cons_succ, List.set_cons_zero, if_true, Bool.false_eq_true, if_false, Bool.not_true, Bool.not_false, W_ok, W_exc, KS_nx, KS_rt, Bool.true_and, Bool.and_true, Bool.false_or, Bool.or_false, Bool.and_false, Bool.or_true, Bool.false_and, Bool.true_or, e3, e4, rat_top, rat_bot] <;> rfl) ?_
  simp only [ev_m1, ev_m2, ev_consM, ev_callM, ev_callF, ev_truM, ev_andT, ev_orT, ev_notT, ev_andV, ev_orV, ev_notV, ev_ifM, ev_tupM, ev_lstM, ev_partM, ev_parS, ev_par3S, ev_parOS, ev_asgS, ev_setS, ev_retS, ev_exprS, ev_ifS, ev_ownS, ev_raiseS, ev_makeF, ev_methF, ev_chT, ev_itM, ev_itA, ev_sliceM, ev_selfS, ev_penGet, ev_penPut, ev_mStr1, ev_thenS, ev_bindM, ev_retM, ev_optM, ev_mVar, ev_nextS, frzS, ev_yesM, List.append_nil, List.cons_append, List.nil_append, List.length_cons, List.length_nil, Nat.zero_add, Nat.reduceAdd, reduceIte, addD, subD, ltD, gtD, geD, leD, negD, DL.intD, absD, lenD, truD, DL.isNon, truB, strCD, extS, apS, DL.setAll, DL.assignT, List.getElem?_cons_succ, List.getElem?_cons_zero, List.set_cons_succ, List.set_cons_zero, if_true, Bool.false_eq_true, if_false, Bool.not_true, Bool.not_false, W_ok, W_exc, KS_nx, KS_rt, Bool.true_and, Bool.and_true, Bool.false_or, Bool.or_false, Bool.and_false, Bool.or_true, Bool.false_and, Bool.true_or, rat_top, rat_bot, tupD, Nat.reduceLeDiff, e5]
def gv (c : Nat) (g : (Int × Int) × Bool) : D := if g.2 = true then .int g.1.1 else rat c g.1
/-- what is given for the fractions qs -/
structure Given (k : Nat) (gs : List ((Int × Int) × Bool)) : Prop where
  lo : ∀ g ∈ gs, Lo k g.1
  wh : ∀ g ∈ gs, g.2 = true → g.1.2 = 1
def lwMade (c e : Nat) (tb : List (Nat × Bool)) : List D → Pen → R (D × Pen) Pen := runF 2
    (retS (ifM (andT (truM (m2 eqD (m2 ixD (mVar 1) (retM (.int 1))) (retM (.int 1)))) (truM (m2 eqD (callF 2 pkDraw [] (consM (mVar 0) (consM (retM (.int 2)) (retM [])))) (retM (.int 0))))) (m2 ixD (mVar 1) (retM (.int 0))) (makeF c 2 (pkRInit c e tb) [] (consM (m2 ixD (mVar 1) (retM (.int 0))) (consM (m2 ixD (mVar 1) (retM (.int 1))) (retM []))))))
theorem lwMade_ok {c e k n : Nat} {tb : List (Nat × Bool)} {p : Pen} {q : Int × Int} (h : PenOk n p) (hn : n < 1000000000000) (hq : Lo k q) (hk : k ≤ 8000) :
    ∃ b p', lwMade c e tb [.st, frac q] p = .ok (gv c (q, b), p') ∧ (b = true → q.2 = 1) ∧ PenOk (n + 1) p' := by
  have mk : ∀ s, makeR c 2 (pkRInit c e tb) [.int q.1, .int q.2] s = .ok (rat c q, s) := rmake_lo hq hk
  obtain ⟨r, p1, e1, r0, r1, h1⟩ := draw1 h hn (many := 2) (by decide) (by decide)
  by_cases hb : q.2 = 1
  · have eb : (q.2 == 1) = true := beq_iff_eq.mpr hb
    by_cases hr : r = 0
    · have er : (r == 0) = true := beq_iff_eq.mpr hr
      refine ⟨true, p1, ?_, fun _ => hb, h1⟩
      unfold lwMade makeF
      refine runF_W (env := [.d .st, .d (frac q)]) rfl ?_
      simp only [ev_m1, ev_m2, ev_consM, ev_callM, ev_callF, ev_truM, ev_andT, ev_orT, ev_notT, ev_andV, ev_orV, ev_notV, ev_ifM, ev_tupM, ev_lstM, ev_partM, ev_parS, ev_par3S, ev_parOS, ev_asgS, ev_setS, ev_retS, ev_exprS, ev_ifS, ev_ownS, ev_raiseS, ev_makeF, ev_methF, ev_chT, ev_itM, ev_itA, ev_sliceM, ev_selfS, ev_penGet, ev_penPut, ev_mStr1, ev_thenS, ev_bindM, ev_retM, ev_optM, ev_mVar, ev_nextS, frzS, ev_yesM, List.append_nil, List.cons_append, List.nil_append, List.length_cons, List.length_nil, Nat.zero_add, Nat.reduceAdd, reduceIte, addD, subD, ltD, gtD, geD, leD, negD, DL.intD, absD, lenD, truD, DL.isNon, truB, strCD, extS, apS, DL.setAll, DL.assignT, List.getElem?_cons_succ, List.getElem?_cons_zero, List.set_cons_succ, List.set_cons_zero, if_true, Bool.false_eq_true, if_false, Bool.not_true, Bool.not_false, W_ok, W_exc, KS_nx, KS_rt, Bool.true_and, Bool.and_true, Bool.false_or, Bool.or_false, Bool.and_false, Bool.or_true, Bool.false_and, Bool.true_or, frac0, frac1, eqD_int, eb, e1, er]
      rfl
    · have er : (r == 0) = false := beq_eq_false_iff_ne.mpr hr
      refine ⟨false, p1, ?_, (fun z => by cases z), h1⟩
      unfold lwMade makeF
      refine runF_W (env := [.d .st, .d (frac q)]) rfl ?_
      simp only [ev_m1, ev_m2, ev_consM, ev_callM, ev_callF, ev_truM, ev_andT, ev_orT, ev_notT, ev_andV, ev_orV, ev_notV, ev_ifM, ev_tupM, ev_lstM, ev_partM, ev_parS, ev_par3S, ev_parOS, ev_asgS, ev_setS, ev_retS, ev_exprS, ev_ifS, ev_ownS, ev_raiseS, ev_makeF, ev_methF, ev_chT, ev_itM, ev_itA, ev_sliceM, ev_selfS, ev_penGet, ev_penPut, ev_mStr1, ev_thenS, ev_bindM, ev_retM, ev_optM, ev_mVar, ev_nextS, frzS, ev_yesM, List.append_nil, List.cons_append, List.nil_append, List.length_cons, List.length_nil, Nat.zero_add, Nat.reduceAdd, reduceIte, addD, subD, ltD, gtD, geD, leD, negD, DL.intD, absD, lenD, truD, DL.isNon, truB, strCD, extS, apS, DL.setAll, DL.assignT, List.getElem?_cons_succ, List.getElem?_cons_zero, List.set_cons_succ, List.set_cons_zero, if_true, Bool.false_eq_true, if_false, Bool.not_true, Bool.not_false, W_ok, W_exc, KS_nx, KS_rt, Bool.true_and, Bool.and_true, Bool.false_or, Bool.or_false, Bool.and_false, Bool.or_true, Bool.false_and, Bool.true_or, frac0, frac1, eqD_int, eb, e1, er, mk]
      rfl
  · have eb : (q.2 == 1) = false := beq_eq_false_iff_ne.mpr hb
    refine ⟨false, p, ?_, (fun z => by cases z), h.mono (by omega)⟩
    unfold lwMade makeF
    refine runF_W (env := [.d .st, .d (frac q)]) rfl ?_
    simp only [ev_m1, ev_m2, ev_consM, ev_callM, ev_callF, ev_truM, ev_andT, ev_orT, ev_notT, ev_andV, ev_orV, ev_notV, ev_ifM, ev_tupM, ev_lstM, ev_partM, ev_parS, ev_par3S, ev_parOS, ev_asgS, ev_setS, ev_retS, ev_exprS, ev_ifS, ev_ownS, ev_raiseS, ev_makeF, ev_methF, ev_chT, ev_itM, ev_itA, ev_sliceM, ev_selfS, ev_penGet, ev_penPut, ev_mStr1, ev_thenS, ev_bindM, ev_retM, ev_optM, ev_mVar, ev_nextS, frzS, ev_yesM, List.append_nil, List.cons_append, List.nil_append, List.length_cons, List.length_nil, Nat.zero_add, Nat.reduceAdd, reduceIte, addD, subD, ltD, gtD, geD, leD, negD, DL.intD, absD, lenD, truD, DL.isNon, truB, strCD, extS, apS, DL.setAll, DL.assignT, List.getElem?_cons_succ, List.getElem?_cons_zero, List.set_cons_succ, List.set_cons_zero, if_true, Bool.false_eq_true, if_false, Bool.not_true, Bool.not_false, W_ok, W_exc, KS_nx, KS_rt, Bool.true_and, Bool.and_true, Bool.false_or, Bool.or_false, Bool.and_false, Bool.or_true, Bool.false_and, Bool.true_or, frac0, frac1, eqD_int, eb, mk]
    rfl
/-- a list or a tuple -/
def rowD (b : Bool) (ds : List D) : D := if b = true then .lst ds else .tup ds
theorem rowD_row {b : Bool} {ds : List D} : isRowD (rowD b ds) = true := by cases b <;> rfl
theorem rowD_seq {b : Bool} {ds : List D} : seqOf (rowD b ds) = some ds := by cases b <;> rfl
theorem rowD_enum {b : Bool} {ds : List D} : enumOfA (rowD b ds) = some (enumL ds) := by cases b <;> rfl
theorem rowD_list {b : Bool} {ds : List D} : listD [rowD b ds] = some (.lst ds) := by cases b <;> rfl
theorem rowD_tb {b : Bool} {ds : List D} {tb : List (Nat × Bool)} : tbOk tb (rowD b ds) := by cases b <;> trivial
def lwListed : List D → Pen → R (D × Pen) Pen := runF 2
    (retS (ifM (truM (m2 eqD (callF 2 pkDraw [] (consM (mVar 0) (consM (retM (.int 2)) (retM [])))) (retM (.int 0)))) (callM listD (consM (mVar 1) (retM []))) (callM tupleD (consM (mVar 1) (retM [])))))
theorem lwListed_ok {n : Nat} {p : Pen} (h : PenOk n p) (hn : n < 1000000000000) (ds : List D) : ∃ b p', lwListed [.st, .lst ds] p = .ok (rowD b ds, p') ∧ PenOk (n + 1) p' := by
  obtain ⟨r, p1, e1, r0, r1, h1⟩ := draw1 h hn (many := 2) (by decide) (by decide)
  by_cases hr : r = 0
  · have er : (r == 0) = true := beq_iff_eq.mpr hr
    refine ⟨true, p1, ?_, h1⟩
    unfold lwListed
    refine runF_W (env := [.d .st, .d (.lst ds)]) rfl ?_
    simp only [ev_m1, ev_m2, ev_consM, ev_callM, ev_callF, ev_truM, ev_andT, ev_orT, ev_notT, ev_andV, ev_orV, ev_notV, ev_ifM, ev_tupM, ev_lstM, ev_partM, ev_parS, ev_par3S, ev_parOS, ev_asgS, ev_setS, ev_retS, ev_exprS, ev_ifS, ev_ownS, ev_raiseS, ev_makeF, ev_methF, ev_chT, ev_itM, ev_itA, ev_sliceM, ev_selfS, ev_penGet, ev_penPut, ev_mStr1, ev_thenS, ev_bindM, ev_retM, ev_optM, ev_mVar, ev_nextS, frzS, ev_yesM, List.append_nil, List.cons_append, List.nil_append, List.length_cons, List.length_nil, Nat.zero_add, Nat.reduceAdd, reduceIte, addD, subD, ltD, gtD, geD, leD, negD, DL.intD, absD, lenD, truD, DL.isNon, truB, strCD, extS, apS, DL.setAll, DL.assignT, List.getElem?_cons_succ, List.getElem?_cons_zero, List.set_cons_succ, List.set_cons_zero, if_true, Bool.false_eq_true, if_false, Bool.not_true, Bool.not_false, W_ok, W_exc, KS_nx, KS_rt, Bool.true_and, Bool.and_true, Bool.false_or, Bool.or_false, Bool.and_false, Bool.or_true, Bool.false_and, Bool.true_or, eqD_int, e1, er, listD, rowD]
  · have er : (r == 0) = false := beq_eq_false_iff_ne.mpr hr
    refine ⟨false, p1, ?_, h1⟩
    unfold lwListed
    refine runF_W (env := [.d .st, .d (.lst ds)]) rfl ?_
    simp only [ev_m1, ev_m2, ev_consM, ev_callM, ev_callF, ev_truM, ev_andT, ev_orT, ev_notT, ev_andV, ev_orV, ev_notV, ev_ifM, ev_tupM, ev_lstM, ev_partM, ev_parS, ev_par3S, ev_parOS, ev_asgS, ev_setS, ev_retS, ev_exprS, ev_ifS, ev_ownS, ev_raiseS, ev_makeF, ev_methF, ev_chT, ev_itM, ev_itA, ev_sliceM, ev_selfS, ev_penGet, ev_penPut, ev_mStr1, ev_thenS, ev_bindM, ev_retM, ev_optM, ev_mVar, ev_nextS, frzS, ev_yesM, List.append_nil, List.cons_append, List.nil_append, List.length_cons, List.length_nil, Nat.zero_add, Nat.reduceAdd, reduceIte, addD, subD, ltD, gtD, geD, leD, negD, DL.intD, absD, lenD, truD, DL.isNon, truB, strCD, extS, apS, DL.setAll, DL.assignT, List.getElem?_cons_succ, List.getElem?_cons_zero, List.set_cons_succ, List.set_cons_zero, if_true, Bool.false_eq_true, if_false, Bool.not_true, Bool.not_false, W_ok, W_exc, KS_nx, KS_rt, Bool.true_and, Bool.and_true, Bool.false_or, Bool.or_false, Bool.and_false, Bool.or_true, Bool.false_and, Bool.true_or, eqD_int, e1, er, tupleD, rowD]
def lwGiven (c e : Nat) (tb : List (Nat × Bool)) : List D → Pen → R (D × Pen) Pen := runF 3
    (retS (callF 2 lwListed [] (consM (mVar 0) (consM (lcM (.nm 2) (itM seqOf (mVar 1)) yesM (callF 2 (lwMade c e tb) [] (consM (mVar 0) (consM (mVar 2) (retM [])))) [2]) (retM [])))))
theorem lwGiven_ok {c e k n : Nat} {tb : List (Nat × Bool)} {p : Pen} {qs : List (Int × Int)} (h : PenOk n p) (hn : n + qs.length < 100000000000) (hl : qs.length < 1000000) (hq : ∀ q ∈ qs, Lo k q) (hk : k ≤ 8000) :
    ∃ b gs p', lwGiven c e tb [.st, .lst (qs.map frac)] p = .ok (rowD b (gs.map (gv c)), p') ∧ gs.map (·.1) = qs ∧ Given k gs ∧ PenOk (n + qs.length + 1) p' := by
  obtain ⟨acc, p1, e1, gs, rfl, hg, hgv, h1⟩ : ∃ acc p1, (lcM (.nm 2) (itM seqOf (mVar 1)) yesM (callF 2 (lwMade c e tb) [] (consM (mVar 0) (consM (mVar 2) (retM [])))) [2] : M Pen D) [.d .st, .d (.lst (qs.map frac)), .no] p = .ok (.lst acc, p1) ∧ ∃ gs, acc = gs.map (gv c) ∧ gs.map (·.1) = qs ∧ Given k gs ∧ PenOk (n + qs.length) p1 := by
    obtain ⟨acc, p1, e1, l, gs, h0, rfl, h2, h3, h4⟩ := lc_inv (mt := (yesM : M Pen Bool)) (me := callF 2 (lwMade c e tb) [] (consM (mVar 0) (consM (mVar 2) (retM [])))) (g := .nm 2) (mi := itM seqOf (mVar 1)) (env := [.d .st, .d (.lst (qs.map frac)), .no]) (vs := [2]) frac (xs := qs) (s := p) (s1 := p) (by simp only [ev_m1, ev_m2, ev_consM, ev_callM, ev_callF, ev_truM, ev_andT, ev_orT, ev_notT, ev_andV, ev_orV, ev_notV, ev_ifM, ev_tupM, ev_lstM, ev_partM, ev_parS, ev_par3S, ev_parOS, ev_asgS, ev_setS, ev_retS, ev_exprS, ev_ifS, ev_ownS, ev_raiseS, ev_makeF, ev_methF, ev_chT, ev_itM, ev_itA, ev_sliceM, ev_selfS, ev_penGet, ev_penPut, ev_mStr1, ev_thenS, ev_bindM, ev_retM, ev_optM, ev_mVar, ev_nextS, frzS, ev_yesM, List.append_nil, List.cons_append, List.nil_append, List.length_cons, List.length_nil, Nat.zero_add, Nat.reduceAdd, reduceIte, addD, subD, ltD, gtD, geD, leD, negD, DL.intD, absD, lenD, truD, DL.isNon, truB, strCD, extS, apS, DL.setAll, DL.assignT, List.getElem?_cons_succ, List.getElem?_cons_zero, List.set_cons_succ, List.set_cons_zero, if_true, Bool.false_eq_true, if_false, Bool.not_true, Bool.not_false, itM, seqOf]) rfl
      (fun r acc p' => ∃ l gs, qs = l ++ r ∧ acc = gs.map (gv c) ∧ gs.map (·.1) = l ∧ Given k gs ∧ PenOk (n + l.length) p') ⟨[], [], rfl, rfl, rfl, ⟨fun g hg => absurd hg List.not_mem_nil, fun g hg => absurd hg List.not_mem_nil⟩, h⟩ (fun q r acc p' hI => by
        obtain ⟨l, gs, h0, rfl, h2, h3, h4⟩ := hI
        have lq : l.length + (r.length + 1) = qs.length := by rw [h0]; simp
        obtain ⟨b, p2, e2, hb, h5⟩ := lwMade_ok (c := c) (e := e) (tb := tb) h4 (by omega) (hq q (by rw [h0]; simp)) hk
        refine ⟨[.d .st, .d (.lst (qs.map frac)), .d (frac q)], true, p', rfl, rfl, (fun z => by cases z), fun _ => ⟨?_, gv c (q, b), p2, ?_, l ++ [q], gs ++ [(q, b)], by rw [h0]; simp, by simp, by simp [h2], ⟨?_, ?_⟩, ?_⟩⟩
        · have := congrArg List.length h2
          rw [List.length_map] at this
          rw [List.length_map]; omega
        · simp only [ev_m1, ev_m2, ev_consM, ev_callM, ev_callF, ev_truM, ev_andT, ev_orT, ev_notT, ev_andV, ev_orV, ev_notV, ev_ifM, ev_tupM, ev_lstM, ev_partM, ev_parS, ev_par3S, ev_parOS, ev_asgS, ev_setS, ev_retS, ev_exprS, ev_ifS, ev_ownS, ev_raiseS, ev_makeF, ev_methF, ev_chT, ev_itM, ev_itA, ev_sliceM, ev_selfS, ev_penGet, ev_penPut, ev_mStr1, ev_thenS, ev_bindM, ev_retM, ev_optM, ev_mVar, ev_nextS, frzS, ev_yesM, List.append_nil, List.cons_append, List.nil_append, List.length_cons, List.length_nil, Nat.zero_add, Nat.reduceAdd, reduceIte, addD, subD, ltD, gtD, geD, leD, negD, DL.intD, absD, lenD, truD, DL.isNon, truB, strCD, extS, apS, DL.setAll, DL.assignT, List.getElem?_cons_succ, List.getElem?_cons_zero, List.set_cons_succ, List.set_cons_zero, if_true, Bool.false_eq_true, if_false, Bool.not_true, Bool.not_false, e2]
        · intro g hg
          rcases List.mem_append.mp hg with z | z
          · exact h3.lo g z
          · rw [List.mem_singleton.mp z]; exact hq q (by rw [h0]; simp)
        · intro g hg
          rcases List.mem_append.mp hg with z | z
          · exact h3.wh g z
          · rw [List.mem_singleton.mp z]; exact hb
        · rw [List.length_append]; exact h5)
    rw [List.append_nil] at h0
    subst h0
    exact ⟨_, p1, e1, gs, rfl, h2, h3, h4⟩
  obtain ⟨b, p2, e2, h2⟩ := lwListed_ok h1 (by omega) (gs.map (gv c))
  refine ⟨b, gs, p2, ?_, hg, hgv, h2⟩
  unfold lwGiven
  refine runF_W (env := [.d .st, .d (.lst (qs.map frac)), .no]) rfl ?_
  simp only [ev_m1, ev_m2, ev_consM, ev_callM, ev_callF, ev_truM, ev_andT, ev_orT, ev_notT, ev_andV, ev_orV, ev_notV, ev_ifM, ev_tupM, ev_lstM, ev_partM, ev_parS, ev_par3S, ev_parOS, ev_asgS, ev_setS, ev_retS, ev_exprS, ev_ifS, ev_ownS, ev_raiseS, ev_makeF, ev_methF, ev_chT, ev_itM, ev_itA, ev_sliceM, ev_selfS, ev_penGet, ev_penPut, ev_mStr1, ev_thenS, ev_bindM, ev_retM, ev_optM, ev_mVar, ev_nextS, frzS, ev_yesM, List.append_nil, List.cons_append, List.nil_append, List.length_cons, List.length_nil, Nat.zero_add, Nat.reduceAdd, reduceIte, addD, subD, ltD, gtD, geD, leD, negD, DL.intD, absD, lenD, truD, DL.isNon, truB, strCD, extS, apS, DL.setAll, DL.assignT, List.getElem?_cons_succ, List.getElem?_cons_zero, List.set_cons_succ, List.set_cons_zero, if_true, Bool.false_eq_true, if_false, Bool.not_true, Bool.not_false, W_ok, W_exc, KS_nx, KS_rt, Bool.true_and, Bool.and_true, Bool.false_or, Bool.or_false, Bool.and_false, Bool.or_true, Bool.false_and, Bool.true_or, e1, e2]
theorem gv_num {c : Nat} {tb tbR : List (Nat × Bool)} (h1 : tb.lookup c = some false) (h2 : tbR.lookup c = some true) (g : (Int × Int) × Bool) (s : Pen) : pkNum tb tbR [gv c g] s = .ok (.bl true, s) := by
  unfold gv
  split
  · exact pkNum_int s
  · exact pkNum_rat h1 h2 s
theorem gv_plain {c e : Nat} {tb : List (Nat × Bool)} (h1 : tb.lookup c = some false) (g : (Int × Int) × Bool) (hg : g.2 = true → g.1.2 = 1) (s : Pen) : pkPlain c e tb [gv c g] s = .ok (rat c g.1, s) := by
  unfold gv
  split
  · rename_i z
    rw [pkPlain_int]
    have := hg z
    rw [show (g.1.1, (1 : Int)) = g.1 from Prod.ext rfl this.symm]
  · exact pkPlain_rat h1 s
theorem all_true {α : Type} (xs : List α) : allD [.lst (xs.map fun _ => D.bl true)] = some (.bl true) := by
  show (blsD (xs.map fun _ => D.bl true)).map _ = _
  rw [bls_map (fun _ => true) xs]
  simp
def pkKept (c e er : Nat) (tb tbR : List (Nat × Bool)) : List D → Pen → R (D × Pen) Pen := runF 2
    (seqS (ifS (orT (notT (truM (callF 1 (pkRow tb) [] (consM (mVar 0) (retM []))))) (notT (truM (callM allD (consM (lcM (.nm 1) (itM seqOf (mVar 0)) yesM (callF 1 (pkNum tb tbR) [] (consM (mVar 1) (retM []))) [1]) (retM [])))))) (raiseS er 1 (consM (mVar 0) (retM []))) nextS)
    (retS (callM tupleD (consM (lcM (.nm 1) (itM seqOf (mVar 0)) yesM (callF 1 (pkPlain c e tb) [] (consM (mVar 1) (retM []))) [1]) (retM [])))))
theorem filter_yes {α : Type} (xs : List α) : xs.filter (fun _ => true) = xs := List.filter_eq_self.mpr fun _ _ => rfl
theorem pkKept_ok {c e er k : Nat} {tb tbR : List (Nat × Bool)} (h1 : tb.lookup c = some false) (h2 : tbR.lookup c = some true) {gs : List ((Int × Int) × Bool)} (hg : Given k gs) (hl : gs.length < 1000000) (b : Bool) (s : Pen) :
    pkKept c e er tb tbR [rowD b (gs.map (gv c))] s = .ok (.tup (gs.map fun g => rat c g.1), s) := by
  unfold pkKept
  refine runF_W (env := [.d (rowD b (gs.map (gv c))), .no]) rfl ?_
  have r1 := pkRow_ok (rowD_tb (b := b) (ds := gs.map (gv c)) (tb := tb)) s
  have it : (itM seqOf (mVar 0) : M Pen (List D)) [.d (rowD b (gs.map (gv c))), .no] s = .ok (gs.map (gv c), s) := by simp only [ev_m1, ev_m2, ev_consM, ev_callM, ev_callF, ev_truM, ev_andT, ev_orT, ev_notT, ev_andV, ev_orV, ev_notV, ev_ifM, ev_tupM, ev_lstM, ev_partM, ev_parS, ev_par3S, ev_parOS, ev_asgS, ev_setS, ev_retS, ev_exprS, ev_ifS, ev_ownS, ev_raiseS, ev_makeF, ev_methF, ev_chT, ev_itM, ev_itA, ev_sliceM, ev_selfS, ev_penGet, ev_penPut, ev_mStr1, ev_thenS, ev_bindM, ev_retM, ev_optM, ev_mVar, ev_nextS, frzS, ev_yesM, List.append_nil, List.cons_append, List.nil_append, List.length_cons, List.length_nil, Nat.zero_add, Nat.reduceAdd, reduceIte, addD, subD, ltD, gtD, geD, leD, negD, DL.intD, absD, lenD, truD, DL.isNon, truB, strCD, extS, apS, DL.setAll, DL.assignT, List.getElem?_cons_succ, List.getElem?_cons_zero, List.set_cons_succ, List.set_cons_zero, if_true, Bool.false_eq_true, if_false, Bool.not_true, Bool.not_false, itM, rowD_seq]
  have l1 := lc_map (mt := (yesM : M Pen Bool)) (me := callF 1 (pkNum tb tbR) [] (consM (mVar 1) (retM []))) (g := .nm 1) (vs := [1]) (gv c) it rfl (fun _ => true) (fun _ => .bl true) hl fun g _ => ⟨_, rfl, rfl, fun _ => by simp only [ev_m1, ev_m2, ev_consM, ev_callM, ev_callF, ev_truM, ev_andT, ev_orT, ev_notT, ev_andV, ev_orV, ev_notV, ev_ifM, ev_tupM, ev_lstM, ev_partM, ev_parS, ev_par3S, ev_parOS, ev_asgS, ev_setS, ev_retS, ev_exprS, ev_ifS, ev_ownS, ev_raiseS, ev_makeF, ev_methF, ev_chT, ev_itM, ev_itA, ev_sliceM, ev_selfS, ev_penGet, ev_penPut, ev_mStr1, ev_thenS, ev_bindM, ev_retM, ev_optM, ev_mVar, ev_nextS, frzS, ev_yesM, List.append_nil, List.cons_append, List.nil_append, List.length_cons, List.length_nil, Nat.zero_add, Nat.reduceAdd, reduceIte, addD, subD, ltD, gtD, geD, leD, negD, DL.intD, absD, lenD, truD, DL.isNon, truB, strCD, extS, apS, DL.setAll, DL.assignT, List.getElem?_cons_succ, List.getElem?_cons_zero, List.set_cons_succ, List.set_cons_zero, if_true, Bool.false_eq_true, if_false, Bool.not_true, Bool.not_false, wipeE, gv_num h1 h2]⟩
  have l2 := lc_map (mt := (yesM : M Pen Bool)) (me := callF 1 (pkPlain c e tb) [] (consM (mVar 1) (retM []))) (g := .nm 1) (vs := [1]) (gv c) it rfl (fun _ => true) (fun g => rat c g.1) hl fun g hg' => ⟨_, rfl, rfl, fun _ => by simp only [ev_m1, ev_m2, ev_consM, ev_callM, ev_callF, ev_truM, ev_andT, ev_orT, ev_notT, ev_andV, ev_orV, ev_notV, ev_ifM, ev_tupM, ev_lstM, ev_partM, ev_parS, ev_par3S, ev_parOS, ev_asgS, ev_setS, ev_retS, ev_exprS, ev_ifS, ev_ownS, ev_raiseS, ev_makeF, ev_methF, ev_chT, ev_itM, ev_itA, ev_sliceM, ev_selfS, ev_penGet, ev_penPut, ev_mStr1, ev_thenS, ev_bindM, ev_retM, ev_optM, ev_mVar, ev_nextS, frzS, ev_yesM, List.append_nil, List.cons_append, List.nil_append, List.length_cons, List.length_nil, Nat.zero_add, Nat.reduceAdd, reduceIte, addD, subD, ltD, gtD, geD, leD, negD, DL.intD, absD, lenD, truD, DL.isNon, truB, strCD, extS, apS, DL.setAll, DL.assignT, List.getElem?_cons_succ, List.getElem?_cons_zero, List.set_cons_succ, List.set_cons_zero, if_true, Bool.false_eq_true, if_false, Bool.not_true, Bool.not_false, wipeE, gv_plain h1 g (hg.wh g hg')]⟩
  rw [filter_yes] at l1 l2
  refine W.step (by simp only [ev_m1, ev_m2, ev_consM, ev_callM, ev_callF, ev_truM, ev_andT, ev_orT, ev_notT, ev_andV, ev_orV, ev_notV, ev_ifM, ev_tupM, ev_lstM, ev_partM, ev_parS, ev_par3S, ev_parOS, ev_asgS, ev_setS, ev_retS, ev_exprS, ev_ifS, ev_ownS, ev_raiseS, ev_makeF, ev_methF, ev_chT, ev_itM, ev_itA, ev_sliceM, ev_selfS, ev_penGet, ev_penPut, ev_mStr1, ev_thenS, ev_bindM, ev_retM, ev_optM, ev_mVar, ev_nextS, frzS, ev_yesM, List.append_nil, List.cons_append, List.nil_append, List.length_cons, List.length_nil, Nat.zero_add, Nat.reduceAdd, reduceIte, addD, subD, ltD, gtD, geD, leD, negD, DL.intD, absD, lenD, truD, DL.isNon, truB, strCD, extS, apS, DL.setAll, DL.assignT, List.getElem?_cons_succ, List.getElem?_cons_zero, List.set_cons_succ, List.set_cons_zero, if_true, Bool.false_eq_true, if_false, Bool.not_true, Bool.not_false, W_ok, W_exc, KS_nx, KS_rt, Bool.true_and, Bool.and_true, Bool.false_or, Bool.or_false, Bool.and_false, Bool.or_true, Bool.false_and, Bool.true_or, r1, rowD_row, l1, all_true] <;> rfl) ?_
  simp only [ev_m1, ev_m2, ev_consM, ev_callM, ev_callF, ev_truM, ev_andT, ev_orT, ev_notT, ev_andV, ev_orV, ev_notV, ev_ifM, ev_tupM, ev_lstM, ev_partM, ev_parS, ev_par3S, ev_parOS, ev_asgS, ev_setS, ev_retS, ev_exprS, ev_ifS, ev_ownS, ev_raiseS, ev_makeF, ev_methF, ev_chT, ev_itM, ev_itA, ev_sliceM, ev_selfS, ev_penGet, ev_penPut, ev_mStr1, ev_thenS, ev_bindM, ev_retM, ev_optM, ev_mVar, ev_nextS, frzS, ev_yesM, List.append_nil, List.cons_append, List.nil_append, List.length_cons, List.length_nil, Nat.zero_add, Nat.reduceAdd, reduceIte, addD, subD, ltD, gtD, geD, leD, negD, DL.intD, absD, lenD, truD, DL.isNon, truB, strCD, extS, apS, DL.setAll, DL.assignT, List.getElem?_cons_succ, List.getElem?_cons_zero, List.set_cons_succ, List.set_cons_zero, if_true, Bool.false_eq_true, if_false, Bool.not_true, Bool.not_false, W_ok, W_exc, KS_nx, KS_rt, Bool.true_and, Bool.and_true, Bool.false_or, Bool.or_false, Bool.and_false, Bool.or_true, Bool.false_and, Bool.true_or, l2, tupleD]
end DL
set_option Elab.async false
set_option linter.all false
set_option maxRecDepth 100000
set_option maxHeartbeats 1000000
set_option exponentiation.threshold 9000
namespace DL
open PySem PySem.Spec PyProof.Rows L2
theorem low_top_pos {a b : Int} (h : 0 < b) (ha : 0 < a) : 0 < (low a b).1 := by
  rw [low_eq _ _ h]
  have hd : ((Nat.gcd a.natAbs b.natAbs : Nat) : Int) ∣ a := Int.ofNat_dvd_left.mpr (Nat.gcd_dvd_left _ _)
  have hg : 0 < Nat.gcd a.natAbs b.natAbs := gcd_pos (by omega)
  exact Int.ediv_pos_of_pos_of_dvd ha (by omega) hd
def lwSome : List D → Pen → R (D × Pen) Pen := runF 3
    (seqS (setS 2 (m2 subD (callF 2 pkDraw [] (consM (mVar 0) (consM (m2 addD (m2 mulD (retM (.int 2)) (mVar 1)) (retM (.int 1))) (retM [])))) (mVar 1)))
    (retS (callF 2 lwOf [] (consM (mVar 2) (consM (callF 2 pkPick [] (consM (mVar 0) (consM (lstM (consM (retM (.int 1)) (consM (retM (.int 1)) (consM (retM (.int 1)) (consM (retM (.int 2)) (consM (retM (.int 3)) (consM (retM (.int 7)) (retM [])))))))) (retM [])))) (retM []))))))
theorem small_nat {d : D} {ns : List Int} {k : Nat} (h : d ∈ ns.map D.int) (hk : 3 ≤ k) (hn : ∀ i ∈ ns, 0 < i ∧ i < 8) : ∃ b : Int, d = .int b ∧ 0 < b ∧ b.natAbs < 2 ^ k := by
  obtain ⟨i, hi, rfl⟩ := List.mem_map.mp h
  obtain ⟨h0, h1⟩ := hn i hi
  refine ⟨i, rfl, h0, ?_⟩
  have : (2 : Nat) ^ 3 ≤ 2 ^ k := Nat.pow_le_pow_right (by decide) hk
  omega
theorem lwSome_ok {n k : Nat} {p : Pen} {far : Int} (h : PenOk n p) (hn : n + 2 < 1000000000000) (h0 : 0 < far) (h1 : far < 1000) (hk : far.natAbs < 2 ^ k) (k3 : 3 ≤ k) (k8 : k ≤ 8000) :
    ∃ q p', lwSome [.st, .int far] p = .ok (frac q, p') ∧ Lo k q ∧ PenOk (n + 2) p' := by
  have hm : mulD (.int 2) (.int far) = some (.int (2 * far)) := mulD_ok (mulOk_small (k := 2) (m := 10) (by decide) (by omega) (by decide))
  obtain ⟨r, p1, e1, r0, r1, h2⟩ := draw1 h (by omega) (many := 2 * far + 1) (by omega) (by omega)
  obtain ⟨d, p2, e2, hd, h3⟩ := pick_lst h2 (by omega) (xs := [.int 1, .int 1, .int 1, .int 2, .int 3, .int 7]) (by simp) (by decide)
  obtain ⟨b, rfl, b0, b1⟩ := small_nat (ns := [1, 1, 1, 2, 3, 7]) (k := k) hd k3 (by decide)
  have hof := lwOf_ok (a := r - far) (b := b) (by omega) (Nat.lt_of_lt_of_le b1 (Nat.pow_le_pow_right (by decide) k8)) p2
  refine ⟨low (r - far) b, p2, ?_, Lo.low b0 (by omega) b1, h3⟩
  unfold lwSome
  refine runF_W (env := [.d .st, .d (.int far), .no]) rfl ?_
  refine W.step (by simp only [ev_m1, ev_m2, ev_consM, ev_callM, ev_callF, ev_truM, ev_andT, ev_orT, ev_notT, ev_andV, ev_orV, ev_notV, ev_ifM, ev_tupM, ev_lstM, ev_partM, ev_parS, ev_par3S, ev_parOS, ev_asgS, ev_setS, ev_retS, ev_exprS, ev_ifS, ev_ownS, ev_raiseS, ev_makeF, ev_methF, ev_chT, ev_itM, ev_itA, ev_sliceM, ev_selfS, ev_penGet, ev_penPut, ev_mStr1, ev_thenS, ev_bindM, ev_retM, ev_optM, ev_mVar, ev_nextS, frzS, ev_yesM, List.append_nil, List.cons_append, List.nil_append, List.length_cons, List.length_nil, Nat.zero_add, Nat.reduceAdd, reduceIte, addD, subD, ltD, gtD, geD, leD, negD, DL.intD, absD, lenD, truD, DL.isNon, truB, strCD, extS, apS, DL.setAll, DL.assignT, List.getElem?_cons_succ, List.getElem?_cons_zero, List.set_cons_succ, List.set_cons_zero, if_true, Bool.false_eq_true, if_false, Bool.not_true, Bool.not_false, W_ok, W_exc, KS_nx, KS_rt, Bool.true_and, Bool.and_true, Bool.false_or, Bool.or_false, Bool.and_false, Bool.or_true, Bool.false_and, Bool.true_or, hm, e1] <;> rfl) ?_
  simp only [ev_m1, ev_m2, ev_consM, ev_callM, ev_callF, ev_truM, ev_andT, ev_orT, ev_notT, ev_andV, ev_orV, ev_notV, ev_ifM, ev_tupM, ev_lstM, ev_partM, ev_parS, ev_par3S, ev_parOS, ev_asgS, ev_setS, ev_retS, ev_exprS, ev_ifS, ev_ownS, ev_raiseS, ev_makeF, ev_methF, ev_chT, ev_itM, ev_itA, ev_sliceM, ev_selfS, ev_penGet, ev_penPut, ev_mStr1, ev_thenS, ev_bindM, ev_retM, ev_optM, ev_mVar, ev_nextS, frzS, ev_yesM, List.append_nil, List.cons_append, List.nil_append, List.length_cons, List.length_nil, Nat.zero_add, Nat.reduceAdd, reduceIte, addD, subD, ltD, gtD, geD, leD, negD, DL.intD, absD, lenD, truD, DL.isNon, truB, strCD, extS, apS, DL.setAll, DL.assignT, List.getElem?_cons_succ, List.getElem?_cons_zero, List.set_cons_succ, List.set_cons_zero, if_true, Bool.false_eq_true, if_false, Bool.not_true, Bool.not_false, W_ok, W_exc, KS_nx, KS_rt, Bool.true_and, Bool.and_true, Bool.false_or, Bool.or_false, Bool.and_false, Bool.or_true, Bool.false_and, Bool.true_or, lstD, Nat.reduceLeDiff, e2, hof]
def lwAbove : List D → Pen → R (D × Pen) Pen := runF 2
    (retS (callF 2 lwOf [] (consM (m2 addD (retM (.int 1)) (callF 2 pkDraw [] (consM (mVar 0) (consM (mVar 1) (retM []))))) (consM (callF 2 pkPick [] (consM (mVar 0) (consM (lstM (consM (retM (.int 1)) (consM (retM (.int 1)) (consM (retM (.int 1)) (consM (retM (.int 2)) (consM (retM (.int 3)) (consM (retM (.int 5)) (retM [])))))))) (retM [])))) (retM [])))))
theorem lwAbove_ok {n k : Nat} {p : Pen} {far : Int} (h : PenOk n p) (hn : n + 2 < 1000000000000) (h0 : 0 < far) (h1 : far < 1000) (hk : far.natAbs < 2 ^ k) (k3 : 3 ≤ k) (k8 : k ≤ 8000) :
    ∃ q p', lwAbove [.st, .int far] p = .ok (frac q, p') ∧ Lo k q ∧ 0 < q.1 ∧ PenOk (n + 2) p' := by
  obtain ⟨r, p1, e1, r0, r1, h2⟩ := draw1 h (by omega) (many := far) (by omega) (by omega)
  obtain ⟨d, p2, e2, hd, h3⟩ := pick_lst h2 (by omega) (xs := [.int 1, .int 1, .int 1, .int 2, .int 3, .int 5]) (by simp) (by decide)
  obtain ⟨b, rfl, b0, b1⟩ := small_nat (ns := [1, 1, 1, 2, 3, 5]) (k := k) hd k3 (by decide)
  have hof := lwOf_ok (a := 1 + r) (b := b) (by omega) (Nat.lt_of_lt_of_le b1 (Nat.pow_le_pow_right (by decide) k8)) p2
  refine ⟨low (1 + r) b, p2, ?_, Lo.low b0 (by omega) b1, low_top_pos b0 (by omega), h3⟩
  unfold lwAbove
  refine runF_W (env := [.d .st, .d (.int far)]) rfl ?_
  simp only [ev_m1, ev_m2, ev_consM, ev_callM, ev_callF, ev_truM, ev_andT, ev_orT, ev_notT, ev_andV, ev_orV, ev_notV, ev_ifM, ev_tupM, ev_lstM, ev_partM, ev_parS, ev_par3S, ev_parOS, ev_asgS, ev_setS, ev_retS, ev_exprS, ev_ifS, ev_ownS, ev_raiseS, ev_makeF, ev_methF, ev_chT, ev_itM, ev_itA, ev_sliceM, ev_selfS, ev_penGet, ev_penPut, ev_mStr1, ev_thenS, ev_bindM, ev_retM, ev_optM, ev_mVar, ev_nextS, frzS, ev_yesM, List.append_nil, List.cons_append, List.nil_append, List.length_cons, List.length_nil, Nat.zero_add, Nat.reduceAdd, reduceIte, addD, subD, ltD, gtD, geD, leD, negD, DL.intD, absD, lenD, truD, DL.isNon, truB, strCD, extS, apS, DL.setAll, DL.assignT, List.getElem?_cons_succ, List.getElem?_cons_zero, List.set_cons_succ, List.set_cons_zero, if_true, Bool.false_eq_true, if_false, Bool.not_true, Bool.not_false, W_ok, W_exc, KS_nx, KS_rt, Bool.true_and, Bool.and_true, Bool.false_or, Bool.or_false, Bool.and_false, Bool.or_true, Bool.false_and, Bool.true_or, e1, lstD, Nat.reduceLeDiff, e2, hof]
/-- a comprehension that draws: each item has P, c draws a turn -/
theorem lc_draw {α β : Type} (enc : α → D) (out : β → D) (P : α → β → Prop) {mi : M Pen (List D)} {mt : M Pen Bool} {me : M Pen D} {env : DL.Env} {vs : List Nat} {xs : List α} {g : Tg} {n c : Nat} {s s1 : Pen} (hi : mi env s = .ok (xs.map enc, s1)) (hno : noOwn env vs = true) (h : PenOk n s1) (hl : xs.length < 1000000) (hn : n + c * xs.length < 100000000000)
    (hs : ∀ x m p, x ∈ xs → PenOk m p → m < 100000000000 → ∃ e1, assignT g (enc x) (wipeE env vs) = some e1 ∧ mt e1 p = .ok (true, p) ∧ ∃ y p', me e1 p = .ok (out y, p') ∧ P x y ∧ PenOk (m + c) p') :
    ∃ (ys : List β) (p' : Pen), lcM g mi mt me vs env s = .ok (.lst (ys.map out), p') ∧ ys.length = xs.length ∧ (∀ y ∈ ys, ∃ x ∈ xs, P x y) ∧ PenOk (n + c * xs.length) p' := by
  obtain ⟨acc, p1, e1, l, ys, h0, rfl, h2, h3, h4⟩ := lc_inv (mt := mt) (me := me) (g := g) (mi := mi) (env := env) (vs := vs) enc hi hno
    (fun r acc p' => ∃ (l : List α) (ys : List β), xs = l ++ r ∧ acc = ys.map out ∧ ys.length = l.length ∧ (∀ y ∈ ys, ∃ x ∈ xs, P x y) ∧ PenOk (n + c * l.length) p') ⟨[], [], rfl, rfl, rfl, (fun y hy => absurd hy List.not_mem_nil), h⟩ (fun x r acc p' hI => by
      obtain ⟨l, ys, h0, hacc, h2, h3, h4⟩ := hI
      subst hacc
      have lq : xs.length = l.length + (r.length + 1) := by rw [h0]; simp
      have le : c * l.length ≤ c * xs.length := Nat.mul_le_mul_left _ (by omega)
      have hx : x ∈ xs := by rw [h0]; simp
      obtain ⟨e1, k1, k2, y, p2, k3, k4, k5⟩ := hs x _ p' hx h4 (by omega)
      refine ⟨e1, true, p', k1, k2, (fun z => by cases z), fun _ => ⟨by rw [List.length_map]; omega, out y, p2, k3, l ++ [x], ys ++ [y], by rw [h0]; simp, by simp, by simp [h2], ?_, ?_⟩⟩
      · intro z hz
        rcases List.mem_append.mp hz with w | w
        · exact h3 z w
        · rw [List.mem_singleton.mp w]; exact ⟨x, hx, k4⟩
      · rw [List.length_append]
        exact k5.mono (by simp [Nat.mul_add]; omega))
  rw [List.append_nil] at h0
  subst h0
  exact ⟨ys, p1, e1, h2, h3, h4⟩
def lwRule : List D → Pen → R (D × Pen) Pen := runF 8
    (seqS (setS 3 (m2 addD (retM (.int 1)) (callF 2 pkDraw [] (consM (mVar 0) (consM (mVar 1) (retM []))))))
    (seqS (setS 4 (lcM (.nm 5) (itA rng1 (consM (m2 subD (mVar 3) (callF 2 pkDraw [] (consM (mVar 0) (consM (retM (.int 2)) (retM []))))) (retM []))) yesM (callF 2 lwSome [] (consM (mVar 0) (consM (retM (.int 4)) (retM [])))) [5]))
    (seqS (setS 6 (lcM (.nm 5) (itA rng1 (consM (mVar 3) (retM []))) yesM (callF 2 lwAbove [] (consM (mVar 0) (consM (retM (.int 5)) (retM [])))) [5]))
    (seqS (ifS (notT (truM (mVar 2))) (setS 6 (lcM (.nm 7) (itM seqOf (mVar 6)) yesM (ifM (truM (m2 gtD (callF 2 pkDraw [] (consM (mVar 0) (consM (retM (.int 3)) (retM [])))) (retM (.int 0)))) (mVar 7) (callF 1 lwNeg [] (consM (mVar 7) (retM [])))) [7])) nextS)
    (retS (tupM (consM (mVar 4) (consM (mVar 6) (retM [])))))))))
theorem lwRule_ok {n : Nat} {p : Pen} {most : Nat} (h : PenOk n p) (h0 : 0 < most) (h1 : most < 1000) (hn : n < 10000000000) (ab : Bool) :
    ∃ (as bs : List (Int × Int)) (p' : Pen), lwRule [.st, .int most, .bl ab] p = .ok (.tup [.lst (as.map frac), .lst (bs.map frac)], p') ∧ (∀ q ∈ as, Lo 3 q) ∧ (∀ q ∈ bs, Lo 3 q ∧ q.1 ≠ 0 ∧ (ab = true → 0 < q.1)) ∧ 0 < bs.length ∧ bs.length ≤ most ∧ (as.length = bs.length ∨ as.length + 1 = bs.length) ∧ PenOk (n + 2 + 5 * most) p' := by
  obtain ⟨r, p1, e1, r0, r1, h2⟩ := draw1 h (by omega) (many := (most : Int)) (by omega) (by omega)
  obtain ⟨t, p2, e2, t0, t1, h3⟩ := draw1 h2 (by omega) (many := 2) (by decide) (by decide)
  have i1 : (itA rng1 (consM (m2 subD (mVar 3) (callF 2 pkDraw [] (consM (mVar 0) (consM (retM (.int 2)) (retM []))))) (retM [])) : M Pen (List D)) [.d .st, .d (.int most), .d (.bl ab), .d (.int (1 + r)), .no, .no, .no, .no] p1 = .ok ((List.range (1 + r - t).toNat).map fun i : Nat => D.int (i : Int), p2) := by
    simp only [ev_m1, ev_m2, ev_consM, ev_callM, ev_callF, ev_truM, ev_andT, ev_orT, ev_notT, ev_andV, ev_orV, ev_notV, ev_ifM, ev_tupM, ev_lstM, ev_partM, ev_parS, ev_par3S, ev_parOS, ev_asgS, ev_setS, ev_retS, ev_exprS, ev_ifS, ev_ownS, ev_raiseS, ev_makeF, ev_methF, ev_chT, ev_itM, ev_itA, ev_sliceM, ev_selfS, ev_penGet, ev_penPut, ev_mStr1, ev_thenS, ev_bindM, ev_retM, ev_optM, ev_mVar, ev_nextS, frzS, ev_yesM, List.append_nil, List.cons_append, List.nil_append, List.length_cons, List.length_nil, Nat.zero_add, Nat.reduceAdd, reduceIte, addD, subD, ltD, gtD, geD, leD, negD, DL.intD, absD, lenD, truD, DL.isNon, truB, strCD, extS, apS, DL.setAll, DL.assignT, List.getElem?_cons_succ, List.getElem?_cons_zero, List.set_cons_succ, List.set_cons_zero, if_true, Bool.false_eq_true, if_false, Bool.not_true, Bool.not_false, e2, rng1_ok (j := 1 + r - t) (by omega) (by omega), rangeL_map]
  obtain ⟨as, p3, e3, l3, a3, h4⟩ := lc_draw (mt := (yesM : M Pen Bool)) (me := callF 2 lwSome [] (consM (mVar 0) (consM (retM (.int 4)) (retM [])))) (g := .nm 5) (vs := [5]) (c := 2) (fun i : Nat => D.int (i : Int)) frac (fun _ q => Lo 3 q) i1 rfl h3 (by simp; omega) (by simp; omega) (fun x m p hx hm hlt => by
    obtain ⟨q, p', e, hq, h'⟩ := lwSome_ok (k := 3) hm (by omega) (far := 4) (by decide) (by decide) (by decide) (by decide) (by decide)
    exact ⟨_, rfl, rfl, q, p', by simp only [ev_m1, ev_m2, ev_consM, ev_callM, ev_callF, ev_truM, ev_andT, ev_orT, ev_notT, ev_andV, ev_orV, ev_notV, ev_ifM, ev_tupM, ev_lstM, ev_partM, ev_parS, ev_par3S, ev_parOS, ev_asgS, ev_setS, ev_retS, ev_exprS, ev_ifS, ev_ownS, ev_raiseS, ev_makeF, ev_methF, ev_chT, ev_itM, ev_itA, ev_sliceM, ev_selfS, ev_penGet, ev_penPut, ev_mStr1, ev_thenS, ev_bindM, ev_retM, ev_optM, ev_mVar, ev_nextS, frzS, ev_yesM, List.append_nil, List.cons_append, List.nil_append, List.length_cons, List.length_nil, Nat.zero_add, Nat.reduceAdd, reduceIte, addD, subD, ltD, gtD, geD, leD, negD, DL.intD, absD, lenD, truD, DL.isNon, truB, strCD, extS, apS, DL.setAll, DL.assignT, List.getElem?_cons_succ, List.getElem?_cons_zero, List.set_cons_succ, List.set_cons_zero, if_true, Bool.false_eq_true, if_false, Bool.not_true, Bool.not_false, wipeE, e], hq, h'⟩)
  rw [List.length_range] at l3 h4
  have i2 : (itA rng1 (consM (mVar 3) (retM [])) : M Pen (List D)) [.d .st, .d (.int most), .d (.bl ab), .d (.int (1 + r)), .d (.lst (as.map frac)), .no, .no, .no] p3 = .ok ((List.range (1 + r).toNat).map fun i : Nat => D.int (i : Int), p3) := by
    simp only [ev_m1, ev_m2, ev_consM, ev_callM, ev_callF, ev_truM, ev_andT, ev_orT, ev_notT, ev_andV, ev_orV, ev_notV, ev_ifM, ev_tupM, ev_lstM, ev_partM, ev_parS, ev_par3S, ev_parOS, ev_asgS, ev_setS, ev_retS, ev_exprS, ev_ifS, ev_ownS, ev_raiseS, ev_makeF, ev_methF, ev_chT, ev_itM, ev_itA, ev_sliceM, ev_selfS, ev_penGet, ev_penPut, ev_mStr1, ev_thenS, ev_bindM, ev_retM, ev_optM, ev_mVar, ev_nextS, frzS, ev_yesM, List.append_nil, List.cons_append, List.nil_append, List.length_cons, List.length_nil, Nat.zero_add, Nat.reduceAdd, reduceIte, addD, subD, ltD, gtD, geD, leD, negD, DL.intD, absD, lenD, truD, DL.isNon, truB, strCD, extS, apS, DL.setAll, DL.assignT, List.getElem?_cons_succ, List.getElem?_cons_zero, List.set_cons_succ, List.set_cons_zero, if_true, Bool.false_eq_true, if_false, Bool.not_true, Bool.not_false, rng1_ok (j := 1 + r) (by omega) (by omega), rangeL_map]
  obtain ⟨bs, p4, e4, l4, b4, h5⟩ := lc_draw (mt := (yesM : M Pen Bool)) (me := callF 2 lwAbove [] (consM (mVar 0) (consM (retM (.int 5)) (retM [])))) (g := .nm 5) (vs := [5]) (c := 2) (fun i : Nat => D.int (i : Int)) frac (fun _ q => Lo 3 q ∧ 0 < q.1) i2 rfl h4 (by simp; omega) (by simp; omega) (fun x m p hx hm hlt => by
    obtain ⟨q, p', e, hq, hq0, h'⟩ := lwAbove_ok (k := 3) hm (by omega) (far := 5) (by decide) (by decide) (by decide) (by decide) (by decide)
    exact ⟨_, rfl, rfl, q, p', by simp only [ev_m1, ev_m2, ev_consM, ev_callM, ev_callF, ev_truM, ev_andT, ev_orT, ev_notT, ev_andV, ev_orV, ev_notV, ev_ifM, ev_tupM, ev_lstM, ev_partM, ev_parS, ev_par3S, ev_parOS, ev_asgS, ev_setS, ev_retS, ev_exprS, ev_ifS, ev_ownS, ev_raiseS, ev_makeF, ev_methF, ev_chT, ev_itM, ev_itA, ev_sliceM, ev_selfS, ev_penGet, ev_penPut, ev_mStr1, ev_thenS, ev_bindM, ev_retM, ev_optM, ev_mVar, ev_nextS, frzS, ev_yesM, List.append_nil, List.cons_append, List.nil_append, List.length_cons, List.length_nil, Nat.zero_add, Nat.reduceAdd, reduceIte, addD, subD, ltD, gtD, geD, leD, negD, DL.intD, absD, lenD, truD, DL.isNon, truB, strCD, extS, apS, DL.setAll, DL.assignT, List.getElem?_cons_succ, List.getElem?_cons_zero, List.set_cons_succ, List.set_cons_zero, if_true, Bool.false_eq_true, if_false, Bool.not_true, Bool.not_false, wipeE, e], ⟨hq, hq0⟩, h'⟩)
  rw [List.length_range] at l4 h5
  have fin : ∀ (cs : List (Int × Int)) (p5 : Pen), cs.length = bs.length → (∀ q ∈ cs, Lo 3 q ∧ q.1 ≠ 0 ∧ (ab = true → 0 < q.1)) → PenOk (n + 2 + 5 * most) p5 → (∃ z, (ifS (notT (truM (mVar 2))) (setS 6 (lcM (.nm 7) (itM seqOf (mVar 6)) yesM (ifM (truM (m2 gtD (callF 2 pkDraw [] (consM (mVar 0) (consM (retM (.int 3)) (retM [])))) (retM (.int 0)))) (mVar 7) (callF 1 lwNeg [] (consM (mVar 7) (retM [])))) [7])) nextS : MS Pen) [.d .st, .d (.int most), .d (.bl ab), .d (.int (1 + r)), .d (.lst (as.map frac)), .no, .d (.lst (bs.map frac)), .no] p4 = .ok (.nx [.d .st, .d (.int most), .d (.bl ab), .d (.int (1 + r)), .d (.lst (as.map frac)), .no, .d (.lst (cs.map frac)), z], p5)) →
      ∃ (as bs : List (Int × Int)) (p' : Pen), lwRule [.st, .int most, .bl ab] p = .ok (.tup [.lst (as.map frac), .lst (bs.map frac)], p') ∧ (∀ q ∈ as, Lo 3 q) ∧ (∀ q ∈ bs, Lo 3 q ∧ q.1 ≠ 0 ∧ (ab = true → 0 < q.1)) ∧ 0 < bs.length ∧ bs.length ≤ most ∧ (as.length = bs.length ∨ as.length + 1 = bs.length) ∧ PenOk (n + 2 + 5 * most) p' := by
    intro cs p5 hl hc hp ⟨z, hz⟩
    refine ⟨as, cs, p5, ?_, fun q hq => by obtain ⟨_, _, k⟩ := a3 q hq; exact k, hc, by omega, by omega, by omega, hp⟩
    unfold lwRule
    refine runF_W (env := [.d .st, .d (.int most), .d (.bl ab), .no, .no, .no, .no, .no]) rfl ?_
    refine W.step (by simp only [ev_m1, ev_m2, ev_consM, ev_callM, ev_callF, ev_truM, ev_andT, ev_orT, ev_notT, ev_andV, ev_orV, ev_notV, ev_ifM, ev_tupM, ev_lstM, ev_partM, ev_parS, ev_par3S, ev_parOS, ev_asgS, ev_setS, ev_retS, ev_exprS, ev_ifS, ev_ownS, ev_raiseS, ev_makeF, ev_methF, ev_chT, ev_itM, ev_itA, ev_sliceM, ev_selfS, ev_penGet, ev_penPut, ev_mStr1, ev_thenS, ev_bindM, ev_retM, ev_optM, ev_mVar, ev_nextS, frzS, ev_yesM, List.append_nil, List.cons_append, List.nil_append, List.length_cons, List.length_nil, Nat.zero_add, Nat.reduceAdd, reduceIte, addD, subD, ltD, gtD, geD, leD, negD, DL.intD, absD, lenD, truD, DL.isNon, truB, strCD, extS, apS, DL.setAll, DL.assignT, List.getElem?_cons_succ, List.getElem?_cons_zero, List.set_cons_succ, List.set_cons_zero, if_true, Bool.false_eq_true, if_false, Bool.not_true, Bool.not_false, W_ok, W_exc, KS_nx, KS_rt, Bool.true_and, Bool.and_true, Bool.false_or, Bool.or_false, Bool.and_false, Bool.or_true, Bool.false_and, Bool.true_or, e1] <;> rfl) ?_
    refine W.step (by simp only [ev_m1, ev_m2, ev_consM, ev_callM, ev_callF, ev_truM, ev_andT, ev_orT, ev_notT, ev_andV, ev_orV, ev_notV, ev_ifM, ev_tupM, ev_lstM, ev_partM, ev_parS, ev_par3S, ev_parOS, ev_asgS, ev_setS, ev_retS, ev_exprS, ev_ifS, ev_ownS, ev_raiseS, ev_makeF, ev_methF, ev_chT, ev_itM, ev_itA, ev_sliceM, ev_selfS, ev_penGet, ev_penPut, ev_mStr1, ev_thenS, ev_bindM, ev_retM, ev_optM, ev_mVar, ev_nextS, frzS, ev_yesM, List.append_nil, List.cons_append, List.nil_append, List.length_cons, List.length_nil, Nat.zero_add, Nat.reduceAdd, reduceIte, addD, subD, ltD, gtD, geD, leD, negD, DL.intD, absD, lenD, truD, DL.isNon, truB, strCD, extS, apS, DL.setAll, DL.assignT, List.getElem?_cons_succ, List.getElem?_cons_zero, List.set_cons_succ, List.set_cons_zero, if_true, Bool.false_eq_true, if_false, Bool.not_true, Bool.not_false, W_ok, W_exc, KS_nx, KS_rt, Bool.true_and, Bool.and_true, Bool.false_or, Bool.or_false, Bool.and_false, Bool.or_true, Bool.false_and, Bool.true_or, e3] <;> rfl) ?_
    refine W.step (by simp only [ev_m1, ev_m2, ev_consM, ev_callM, ev_callF, ev_truM, ev_andT, ev_orT, ev_notT, ev_andV, ev_orV, ev_notV, ev_ifM, ev_tupM, ev_lstM, ev_partM, ev_parS, ev_par3S, ev_parOS, ev_asgS, ev_setS, ev_retS, ev_exprS, ev_ifS, ev_ownS, ev_raiseS, ev_makeF, ev_methF, ev_chT, ev_itM, ev_itA, ev_sliceM, ev_selfS, ev_penGet, ev_penPut, ev_mStr1, ev_thenS, ev_bindM, ev_retM, ev_optM, ev_mVar, ev_nextS, frzS, ev_yesM, List.append_nil, List.cons_append, List.nil_append, List.length_cons, List.length_nil, Nat.zero_add, Nat.reduceAdd, reduceIte, addD, subD, ltD, gtD, geD, leD, negD, DL.intD, absD, lenD, truD, DL.isNon, truB, strCD, extS, apS, DL.setAll, DL.assignT, List.getElem?_cons_succ, List.getElem?_cons_zero, List.set_cons_succ, List.set_cons_zero, if_true, Bool.false_eq_true, if_false, Bool.not_true, Bool.not_false, W_ok, W_exc, KS_nx, KS_rt, Bool.true_and, Bool.and_true, Bool.false_or, Bool.or_false, Bool.and_false, Bool.or_true, Bool.false_and, Bool.true_or, e4] <;> rfl) ?_
    refine W.step hz ?_
    simp only [ev_m1, ev_m2, ev_consM, ev_callM, ev_callF, ev_truM, ev_andT, ev_orT, ev_notT, ev_andV, ev_orV, ev_notV, ev_ifM, ev_tupM, ev_lstM, ev_partM, ev_parS, ev_par3S, ev_parOS, ev_asgS, ev_setS, ev_retS, ev_exprS, ev_ifS, ev_ownS, ev_raiseS, ev_makeF, ev_methF, ev_chT, ev_itM, ev_itA, ev_sliceM, ev_selfS, ev_penGet, ev_penPut, ev_mStr1, ev_thenS, ev_bindM, ev_retM, ev_optM, ev_mVar, ev_nextS, frzS, ev_yesM, List.append_nil, List.cons_append, List.nil_append, List.length_cons, List.length_nil, Nat.zero_add, Nat.reduceAdd, reduceIte, addD, subD, ltD, gtD, geD, leD, negD, DL.intD, absD, lenD, truD, DL.isNon, truB, strCD, extS, apS, DL.setAll, DL.assignT, List.getElem?_cons_succ, List.getElem?_cons_zero, List.set_cons_succ, List.set_cons_zero, if_true, Bool.false_eq_true, if_false, Bool.not_true, Bool.not_false, W_ok, W_exc, KS_nx, KS_rt, Bool.true_and, Bool.and_true, Bool.false_or, Bool.or_false, Bool.and_false, Bool.or_true, Bool.false_and, Bool.true_or, tupD, Nat.reduceLeDiff]
  have sm : n + 1 + 1 + 2 * (1 + r - t).toNat + 2 * (1 + r).toNat + bs.length ≤ n + 2 + 5 * most := by omega
  cases ab with
  | true => exact fin bs p4 rfl (fun q hq => by obtain ⟨_, _, k1, k2⟩ := b4 q hq; exact ⟨k1, by omega, fun _ => k2⟩) (h5.mono (by omega)) ⟨_, by simp only [ev_m1, ev_m2, ev_consM, ev_callM, ev_callF, ev_truM, ev_andT, ev_orT, ev_notT, ev_andV, ev_orV, ev_notV, ev_ifM, ev_tupM, ev_lstM, ev_partM, ev_parS, ev_par3S, ev_parOS, ev_asgS, ev_setS, ev_retS, ev_exprS, ev_ifS, ev_ownS, ev_raiseS, ev_makeF, ev_methF, ev_chT, ev_itM, ev_itA, ev_sliceM, ev_selfS, ev_penGet, ev_penPut, ev_mStr1, ev_thenS, ev_bindM, ev_retM, ev_optM, ev_mVar, ev_nextS, frzS, ev_yesM, List.append_nil, List.cons_append, List.nil_append, List.length_cons, List.length_nil, Nat.zero_add, Nat.reduceAdd, reduceIte, addD, subD, ltD, gtD, geD, leD, negD, DL.intD, absD, lenD, truD, DL.isNon, truB, strCD, extS, apS, DL.setAll, DL.assignT, List.getElem?_cons_succ, List.getElem?_cons_zero, List.set_cons_succ, List.set_cons_zero, if_true, Bool.false_eq_true, if_false, Bool.not_true, Bool.not_false] <;> rfl⟩
  | false =>
    obtain ⟨cs, p5, e5, l5, c5, h6⟩ := lc_draw (mi := itM seqOf (mVar 6)) (mt := (yesM : M Pen Bool)) (me := (ifM (truM (m2 gtD (callF 2 pkDraw [] (consM (mVar 0) (consM (retM (.int 3)) (retM [])))) (retM (.int 0)))) (mVar 7) (callF 1 lwNeg [] (consM (mVar 7) (retM []))))) (g := .nm 7) (vs := [7]) (c := 1) (env := [.d .st, .d (.int most), .d (.bl false), .d (.int (1 + r)), .d (.lst (as.map frac)), .no, .d (.lst (bs.map frac)), .no]) (xs := bs) (s := p4) frac frac (fun _ q => Lo 3 q ∧ q.1 ≠ 0) (by simp only [ev_m1, ev_m2, ev_consM, ev_callM, ev_callF, ev_truM, ev_andT, ev_orT, ev_notT, ev_andV, ev_orV, ev_notV, ev_ifM, ev_tupM, ev_lstM, ev_partM, ev_parS, ev_par3S, ev_parOS, ev_asgS, ev_setS, ev_retS, ev_exprS, ev_ifS, ev_ownS, ev_raiseS, ev_makeF, ev_methF, ev_chT, ev_itM, ev_itA, ev_sliceM, ev_selfS, ev_penGet, ev_penPut, ev_mStr1, ev_thenS, ev_bindM, ev_retM, ev_optM, ev_mVar, ev_nextS, frzS, ev_yesM, List.append_nil, List.cons_append, List.nil_append, List.length_cons, List.length_nil, Nat.zero_add, Nat.reduceAdd, reduceIte, addD, subD, ltD, gtD, geD, leD, negD, DL.intD, absD, lenD, truD, DL.isNon, truB, strCD, extS, apS, DL.setAll, DL.assignT, List.getElem?_cons_succ, List.getElem?_cons_zero, List.set_cons_succ, List.set_cons_zero, if_true, Bool.false_eq_true, if_false, Bool.not_true, Bool.not_false, seqOf]) rfl h5 (by omega) (by omega) (fun x m p hx hm hlt => by
      obtain ⟨u, p', e, u0, u1, h'⟩ := draw1 hm (by omega) (many := 3) (by decide) (by decide)
      obtain ⟨_, _, k1, k2⟩ := b4 x hx
      by_cases hu : u > 0
      · exact ⟨_, rfl, rfl, x, p', by simp only [ev_m1, ev_m2, ev_consM, ev_callM, ev_callF, ev_truM, ev_andT, ev_orT, ev_notT, ev_andV, ev_orV, ev_notV, ev_ifM, ev_tupM, ev_lstM, ev_partM, ev_parS, ev_par3S, ev_parOS, ev_asgS, ev_setS, ev_retS, ev_exprS, ev_ifS, ev_ownS, ev_raiseS, ev_makeF, ev_methF, ev_chT, ev_itM, ev_itA, ev_sliceM, ev_selfS, ev_penGet, ev_penPut, ev_mStr1, ev_thenS, ev_bindM, ev_retM, ev_optM, ev_mVar, ev_nextS, frzS, ev_yesM, List.append_nil, List.cons_append, List.nil_append, List.length_cons, List.length_nil, Nat.zero_add, Nat.reduceAdd, reduceIte, addD, subD, ltD, gtD, geD, leD, negD, DL.intD, absD, lenD, truD, DL.isNon, truB, strCD, extS, apS, DL.setAll, DL.assignT, List.getElem?_cons_succ, List.getElem?_cons_zero, List.set_cons_succ, List.set_cons_zero, if_true, Bool.false_eq_true, if_false, Bool.not_true, Bool.not_false, wipeE, e, decide_eq_true hu], ⟨k1, by omega⟩, h'⟩
      · exact ⟨_, rfl, rfl, (-x.1, x.2), p', by simp only [ev_m1, ev_m2, ev_consM, ev_callM, ev_callF, ev_truM, ev_andT, ev_orT, ev_notT, ev_andV, ev_orV, ev_notV, ev_ifM, ev_tupM, ev_lstM, ev_partM, ev_parS, ev_par3S, ev_parOS, ev_asgS, ev_setS, ev_retS, ev_exprS, ev_ifS, ev_ownS, ev_raiseS, ev_makeF, ev_methF, ev_chT, ev_itM, ev_itA, ev_sliceM, ev_selfS, ev_penGet, ev_penPut, ev_mStr1, ev_thenS, ev_bindM, ev_retM, ev_optM, ev_mVar, ev_nextS, frzS, ev_yesM, List.append_nil, List.cons_append, List.nil_append, List.length_cons, List.length_nil, Nat.zero_add, Nat.reduceAdd, reduceIte, addD, subD, ltD, gtD, geD, leD, negD, DL.intD, absD, lenD, truD, DL.isNon, truB, strCD, extS, apS, DL.setAll, DL.assignT, List.getElem?_cons_succ, List.getElem?_cons_zero, List.set_cons_succ, List.set_cons_zero, if_true, Bool.false_eq_true, if_false, Bool.not_true, Bool.not_false, wipeE, e, decide_eq_false hu, lwNeg_ok], ⟨k1.neg, by show -x.1 ≠ 0; omega⟩, h'⟩)
    exact fin cs p5 l5 (fun q hq => by obtain ⟨_, _, k1, k2⟩ := c5 q hq; exact ⟨k1, k2, fun z => by cases z⟩) (h6.mono (by omega)) ⟨_, by simp only [ev_m1, ev_m2, ev_consM, ev_callM, ev_callF, ev_truM, ev_andT, ev_orT, ev_notT, ev_andV, ev_orV, ev_notV, ev_ifM, ev_tupM, ev_lstM, ev_partM, ev_parS, ev_par3S, ev_parOS, ev_asgS, ev_setS, ev_retS, ev_exprS, ev_ifS, ev_ownS, ev_raiseS, ev_makeF, ev_methF, ev_chT, ev_itM, ev_itA, ev_sliceM, ev_selfS, ev_penGet, ev_penPut, ev_mStr1, ev_thenS, ev_bindM, ev_retM, ev_optM, ev_mVar, ev_nextS, frzS, ev_yesM, List.append_nil, List.cons_append, List.nil_append, List.length_cons, List.length_nil, Nat.zero_add, Nat.reduceAdd, reduceIte, addD, subD, ltD, gtD, geD, leD, negD, DL.intD, absD, lenD, truD, DL.isNon, truB, strCD, extS, apS, DL.setAll, DL.assignT, List.getElem?_cons_succ, List.getElem?_cons_zero, List.set_cons_succ, List.set_cons_zero, if_true, Bool.false_eq_true, if_false, Bool.not_true, Bool.not_false, e5] <;> rfl⟩
def ruleD (cU c : Nat) (as bs : List (Int × Int)) : D := .obj cU [.tup (as.map (rat c)), .tup (bs.map (rat c)), .int ((as.length : Int) + bs.length - 1)]
theorem cut_last {α : Type} (xs : List α) : DL.cutL xs none (some (-1)) = xs.dropLast := by
  unfold DL.cutL
  rw [HT.sIx_none]
  have e : HT.sIx xs.length xs.length (some (-1)) = xs.length - 1 := by
    show (if (-1 : Int) < 0 then ((-1 : Int) + (xs.length : Int)).toNat else min (-1 : Int).toNat xs.length) = _
    rw [if_pos (by decide)]; omega
  rw [e, List.drop_zero, Nat.sub_zero, List.dropLast_eq_take]
def pkUInit (cU c e er eu : Nat) (tb tbR : List (Nat × Bool)) : List D → Pen → R (List D × Pen) Pen := runI 6 cU 3
    (seqS (setS 3 (callF 1 (pkKept c e er tb tbR) [] (consM (mVar 1) (retM []))))
    (seqS (setS 4 (callF 1 (pkKept c e er tb tbR) [] (consM (mVar 2) (retM []))))
    (seqS (ifS (orT (truM (m2 eqD (callM lenD (consM (mVar 4) (retM []))) (retM (.int 0)))) (notT (chT leD leD (retM (.int 0)) (m2 subD (callM lenD (consM (mVar 4) (retM []))) (callM lenD (consM (mVar 3) (retM [])))) (retM (.int 1))))) (raiseS eu 1 (consM (retM (.str "many")) (retM []))) nextS)
    (seqS (ifS (truM (callM anyD (consM (lcM (.nm 5) (itM seqOf (sliceM (mVar 4) (retM none) (partM (m1 negD (retM (.int 1)))))) yesM (m2 eqD (m1 (fldD [(c, 2)]) (mVar 5)) (retM (.int 0))) [5]) (retM [])))) (raiseS eu 1 (consM (retM (.str "nought")) (retM []))) nextS)
    (seqS (selfS 0 cU 0 (mVar 3))
    (seqS (selfS 0 cU 1 (mVar 4))
    (selfS 0 cU 2 (m2 subD (m2 addD (callM lenD (consM (mVar 3) (retM []))) (callM lenD (consM (mVar 4) (retM [])))) (retM (.int 1))))))))))
theorem any_false {α : Type} (xs : List α) : anyD [.lst (xs.map fun _ => D.bl false)] = some (.bl false) := by
  show (blsD (xs.map fun _ => D.bl false)).map _ = _
  rw [bls_map (fun _ => false)]
  show some (D.bl ((xs.map fun _ => false).any id)) = _
  congr 2
  induction xs with
  | nil => rfl
  | cons x xs ih => rw [List.map_cons, List.any_cons, ih]; rfl
theorem sgn_zero {p : Int × Int} (h : p.1 ≠ 0) : (((if 0 < p.1 then 1 else 0) - (if p.1 < 0 then 1 else 0) : Int) == 0) = false := by
  rw [beq_eq_false_iff_ne]
  by_cases h1 : 0 < p.1
  · rw [if_pos h1, if_neg (by omega)]; decide
  · rw [if_neg h1, if_pos (by omega)]; decide
theorem map_fst {c : Nat} {gs : List ((Int × Int) × Bool)} {qs : List (Int × Int)} (h : gs.map (·.1) = qs) : gs.map (fun g => rat c g.1) = qs.map (rat c) := by rw [← h, List.map_map]; rfl
theorem pkU_ok {cU c e er eu k : Nat} {tb tbR : List (Nat × Bool)} (t1 : tb.lookup c = some false) (t2 : tbR.lookup c = some true) {gs hs : List ((Int × Int) × Bool)} {as bs : List (Int × Int)} (hg : Given k gs) (hh : Given k hs) (ga : gs.map (·.1) = as) (hb : hs.map (·.1) = bs)
    (h0 : 0 < bs.length) (h1 : bs.length < 1000) (h2 : as.length = bs.length ∨ as.length + 1 = bs.length) (hz : ∀ q ∈ bs.dropLast, q.1 ≠ 0) (b1 b2 : Bool) (s : Pen) :
    makeR cU 2 (pkUInit cU c e er eu tb tbR) [rowD b1 (gs.map (gv c)), rowD b2 (hs.map (gv c))] s = .ok (ruleD cU c as bs, s) := by
  have lg : gs.length = as.length := by rw [← ga, List.length_map]
  have lh : hs.length = bs.length := by rw [← hb, List.length_map]
  have k1 := pkKept_ok (e := e) (er := er) t1 t2 hg (by omega) b1 s
  have k2 := pkKept_ok (e := e) (er := er) t1 t2 hh (by omega) b2 s
  rw [map_fst ga] at k1
  rw [map_fst hb] at k2
  have q : pkUInit cU c e er eu tb tbR [rowD b1 (gs.map (gv c)), rowD b2 (hs.map (gv c))] s = .ok ([.tup (as.map (rat c)), .tup (bs.map (rat c)), .int ((as.length : Int) + bs.length - 1)], s) := by
    unfold pkUInit
    refine runI_W (env := [Slot.ins cU [], .d (rowD b1 (gs.map (gv c))), .d (rowD b2 (hs.map (gv c))), .no, .no, .no]) rfl rfl ?_
    refine W.step (by simp only [ev_m1, ev_m2, ev_consM, ev_callM, ev_callF, ev_truM, ev_andT, ev_orT, ev_notT, ev_andV, ev_orV, ev_notV, ev_ifM, ev_tupM, ev_lstM, ev_partM, ev_parS, ev_par3S, ev_parOS, ev_asgS, ev_setS, ev_retS, ev_exprS, ev_ifS, ev_ownS, ev_raiseS, ev_makeF, ev_methF, ev_chT, ev_itM, ev_itA, ev_sliceM, ev_selfS, ev_penGet, ev_penPut, ev_mStr1, ev_thenS, ev_bindM, ev_retM, ev_optM, ev_mVar, ev_nextS, frzS, ev_yesM, List.append_nil, List.cons_append, List.nil_append, List.length_cons, List.length_nil, Nat.zero_add, Nat.reduceAdd, reduceIte, addD, subD, ltD, gtD, geD, leD, negD, DL.intD, absD, lenD, truD, DL.isNon, truB, strCD, extS, apS, DL.setAll, DL.assignT, List.getElem?_cons_succ, List.getElem?_cons_zero, List.set_cons_succ, List.set_cons_zero, if_true, Bool.false_eq_true, if_false, Bool.not_true, Bool.not_false, W_ok, W_exc, KS_nx, KS_rt, Bool.true_and, Bool.and_true, Bool.false_or, Bool.or_false, Bool.and_false, Bool.or_true, Bool.false_and, Bool.true_or, k1] <;> rfl) ?_
    refine W.step (by simp only [ev_m1, ev_m2, ev_consM, ev_callM, ev_callF, ev_truM, ev_andT, ev_orT, ev_notT, ev_andV, ev_orV, ev_notV, ev_ifM, ev_tupM, ev_lstM, ev_partM, ev_parS, ev_par3S, ev_parOS, ev_asgS, ev_setS, ev_retS, ev_exprS, ev_ifS, ev_ownS, ev_raiseS, ev_makeF, ev_methF, ev_chT, ev_itM, ev_itA, ev_sliceM, ev_selfS, ev_penGet, ev_penPut, ev_mStr1, ev_thenS, ev_bindM, ev_retM, ev_optM, ev_mVar, ev_nextS, frzS, ev_yesM, List.append_nil, List.cons_append, List.nil_append, List.length_cons, List.length_nil, Nat.zero_add, Nat.reduceAdd, reduceIte, addD, subD, ltD, gtD, geD, leD, negD, DL.intD, absD, lenD, truD, DL.isNon, truB, strCD, extS, apS, DL.setAll, DL.assignT, List.getElem?_cons_succ, List.getElem?_cons_zero, List.set_cons_succ, List.set_cons_zero, if_true, Bool.false_eq_true, if_false, Bool.not_true, Bool.not_false, W_ok, W_exc, KS_nx, KS_rt, Bool.true_and, Bool.and_true, Bool.false_or, Bool.or_false, Bool.and_false, Bool.or_true, Bool.false_and, Bool.true_or, k2] <;> rfl) ?_
    have d0 : (((bs.length : Nat) : Int) == 0) = false := beq_eq_false_iff_ne.mpr (by omega)
    have d1 : decide ((0 : Int) ≤ (bs.length : Int) - as.length) = true := decide_eq_true (by omega)
    have d2 : decide ((bs.length : Int) - as.length ≤ 1) = true := decide_eq_true (by omega)
    refine W.step (by simp only [ev_m1, ev_m2, ev_consM, ev_callM, ev_callF, ev_truM, ev_andT, ev_orT, ev_notT, ev_andV, ev_orV, ev_notV, ev_ifM, ev_tupM, ev_lstM, ev_partM, ev_parS, ev_par3S, ev_parOS, ev_asgS, ev_setS, ev_retS, ev_exprS, ev_ifS, ev_ownS, ev_raiseS, ev_makeF, ev_methF, ev_chT, ev_itM, ev_itA, ev_sliceM, ev_selfS, ev_penGet, ev_penPut, ev_mStr1, ev_thenS, ev_bindM, ev_retM, ev_optM, ev_mVar, ev_nextS, frzS, ev_yesM, List.append_nil, List.cons_append, List.nil_append, List.length_cons, List.length_nil, Nat.zero_add, Nat.reduceAdd, reduceIte, addD, subD, ltD, gtD, geD, leD, negD, DL.intD, absD, lenD, truD, DL.isNon, truB, strCD, extS, apS, DL.setAll, DL.assignT, List.getElem?_cons_succ, List.getElem?_cons_zero, List.set_cons_succ, List.set_cons_zero, if_true, Bool.false_eq_true, if_false, Bool.not_true, Bool.not_false, W_ok, W_exc, KS_nx, KS_rt, Bool.true_and, Bool.and_true, Bool.false_or, Bool.or_false, Bool.and_false, Bool.or_true, Bool.false_and, Bool.true_or, List.length_map, eqD_int, d0, d1, d2] <;> rfl) ?_
    have hs1 : sliceD none (some (-1)) (.tup (bs.map (rat c))) = some (.tup (bs.dropLast.map (rat c))) := by
      show (if (DL.cutL (bs.map (rat c)) none (some (-1))).length < (bs.map (rat c)).length then some (D.tup (DL.cutL (bs.map (rat c)) none (some (-1)))) else none) = _
      rw [cut_last, List.map_dropLast, if_pos (by rw [List.length_dropLast, List.length_map]; omega)]
    have l1 := lc_map (mi := (itM seqOf (sliceM (mVar 4) (retM none) (partM (m1 negD (retM (.int 1))))) : M Pen (List D))) (env := [Slot.ins cU [], .d (rowD b1 (gs.map (gv c))), .d (rowD b2 (hs.map (gv c))), .d (.tup (as.map (rat c))), .d (.tup (bs.map (rat c))), .no]) (s := s) (s1 := s) (xs := bs.dropLast) (mt := (yesM : M Pen Bool)) (me := m2 eqD (m1 (fldD [(c, 2)]) (mVar 5)) (retM (.int 0))) (g := .nm 5) (vs := [5]) (rat c) (by simp only [ev_m1, ev_m2, ev_consM, ev_callM, ev_callF, ev_truM, ev_andT, ev_orT, ev_notT, ev_andV, ev_orV, ev_notV, ev_ifM, ev_tupM, ev_lstM, ev_partM, ev_parS, ev_par3S, ev_parOS, ev_asgS, ev_setS, ev_retS, ev_exprS, ev_ifS, ev_ownS, ev_raiseS, ev_makeF, ev_methF, ev_chT, ev_itM, ev_itA, ev_sliceM, ev_selfS, ev_penGet, ev_penPut, ev_mStr1, ev_thenS, ev_bindM, ev_retM, ev_optM, ev_mVar, ev_nextS, frzS, ev_yesM, List.append_nil, List.cons_append, List.nil_append, List.length_cons, List.length_nil, Nat.zero_add, Nat.reduceAdd, reduceIte, addD, subD, ltD, gtD, geD, leD, negD, DL.intD, absD, lenD, truD, DL.isNon, truB, strCD, extS, apS, DL.setAll, DL.assignT, List.getElem?_cons_succ, List.getElem?_cons_zero, List.set_cons_succ, List.set_cons_zero, if_true, Bool.false_eq_true, if_false, Bool.not_true, Bool.not_false, partD, hs1, seqOf]) rfl (fun _ => true) (fun _ => .bl false) (by rw [List.length_dropLast]; omega) fun x hx => ⟨_, rfl, rfl, fun _ => by simp only [ev_m1, ev_m2, ev_consM, ev_callM, ev_callF, ev_truM, ev_andT, ev_orT, ev_notT, ev_andV, ev_orV, ev_notV, ev_ifM, ev_tupM, ev_lstM, ev_partM, ev_parS, ev_par3S, ev_parOS, ev_asgS, ev_setS, ev_retS, ev_exprS, ev_ifS, ev_ownS, ev_raiseS, ev_makeF, ev_methF, ev_chT, ev_itM, ev_itA, ev_sliceM, ev_selfS, ev_penGet, ev_penPut, ev_mStr1, ev_thenS, ev_bindM, ev_retM, ev_optM, ev_mVar, ev_nextS, frzS, ev_yesM, List.append_nil, List.cons_append, List.nil_append, List.length_cons, List.length_nil, Nat.zero_add, Nat.reduceAdd, reduceIte, addD, subD, ltD, gtD, geD, leD, negD, DL.intD, absD, lenD, truD, DL.isNon, truB, strCD, extS, apS, DL.setAll, DL.assignT, List.getElem?_cons_succ, List.getElem?_cons_zero, List.set_cons_succ, List.set_cons_zero, if_true, Bool.false_eq_true, if_false, Bool.not_true, Bool.not_false, wipeE, rat_sgn, eqD_int, sgn_zero (hz x hx)]⟩
    rw [filter_yes] at l1
    have an := any_false bs.dropLast
    refine W.step (by simp only [ev_m1, ev_m2, ev_consM, ev_callM, ev_callF, ev_truM, ev_andT, ev_orT, ev_notT, ev_andV, ev_orV, ev_notV, ev_ifM, ev_tupM, ev_lstM, ev_partM, ev_parS, ev_par3S, ev_parOS, ev_asgS, ev_setS, ev_retS, ev_exprS, ev_ifS, ev_ownS, ev_raiseS, ev_makeF, ev_methF, ev_chT, ev_itM, ev_itA, ev_sliceM, ev_selfS, ev_penGet, ev_penPut, ev_mStr1, ev_thenS, ev_bindM, ev_retM, ev_optM, ev_mVar, ev_nextS, frzS, ev_yesM, List.append_nil, List.cons_append, List.nil_append, List.length_cons, List.length_nil, Nat.zero_add, Nat.reduceAdd, reduceIte, addD, subD, ltD, gtD, geD, leD, negD, DL.intD, absD, lenD, truD, DL.isNon, truB, strCD, extS, apS, DL.setAll, DL.assignT, List.getElem?_cons_succ, List.getElem?_cons_zero, List.set_cons_succ, List.set_cons_zero, if_true, Bool.false_eq_true, if_false, Bool.not_true, Bool.not_false, W_ok, W_exc, KS_nx, KS_rt, Bool.true_and, Bool.and_true, Bool.false_or, Bool.or_false, Bool.and_false, Bool.or_true, Bool.false_and, Bool.true_or, l1, an] <;> rfl) ?_
    refine W.step (by simp only [ev_m1, ev_m2, ev_consM, ev_callM, ev_callF, ev_truM, ev_andT, ev_orT, ev_notT, ev_andV, ev_orV, ev_notV, ev_ifM, ev_tupM, ev_lstM, ev_partM, ev_parS, ev_par3S, ev_parOS, ev_asgS, ev_setS, ev_retS, ev_exprS, ev_ifS, ev_ownS, ev_raiseS, ev_makeF, ev_methF, ev_chT, ev_itM, ev_itA, ev_sliceM, ev_selfS, ev_penGet, ev_penPut, ev_mStr1, ev_thenS, ev_bindM, ev_retM, ev_optM, ev_mVar, ev_nextS, frzS, ev_yesM, List.append_nil, List.cons_append, List.nil_append, List.length_cons, List.length_nil, Nat.zero_add, Nat.reduceAdd, reduceIte, addD, subD, ltD, gtD, geD, leD, negD, DL.intD, absD, lenD, truD, DL.isNon, truB, strCD, extS, apS, DL.setAll, DL.assignT, List.getElem?_cons_succ, List.getElem?_cons_zero, List.set_cons_succ, List.set_cons_zero, if_true, Bool.false_eq_true, if_false, Bool.not_true, Bool.not_false, W_ok, W_exc, KS_nx, KS_rt, Bool.true_and, Bool.and_true, Bool.false_or, Bool.or_false, Bool.and_false, Bool.or_true, Bool.false_and, Bool.true_or, and_self] <;> rfl) ?_
    refine W.step (by simp only [ev_m1, ev_m2, ev_consM, ev_callM, ev_callF, ev_truM, ev_andT, ev_orT, ev_notT, ev_andV, ev_orV, ev_notV, ev_ifM, ev_tupM, ev_lstM, ev_partM, ev_parS, ev_par3S, ev_parOS, ev_asgS, ev_setS, ev_retS, ev_exprS, ev_ifS, ev_ownS, ev_raiseS, ev_makeF, ev_methF, ev_chT, ev_itM, ev_itA, ev_sliceM, ev_selfS, ev_penGet, ev_penPut, ev_mStr1, ev_thenS, ev_bindM, ev_retM, ev_optM, ev_mVar, ev_nextS, frzS, ev_yesM, List.append_nil, List.cons_append, List.nil_append, List.length_cons, List.length_nil, Nat.zero_add, Nat.reduceAdd, reduceIte, addD, subD, ltD, gtD, geD, leD, negD, DL.intD, absD, lenD, truD, DL.isNon, truB, strCD, extS, apS, DL.setAll, DL.assignT, List.getElem?_cons_succ, List.getElem?_cons_zero, List.set_cons_succ, List.set_cons_zero, if_true, Bool.false_eq_true, if_false, Bool.not_true, Bool.not_false, W_ok, W_exc, KS_nx, KS_rt, Bool.true_and, Bool.and_true, Bool.false_or, Bool.or_false, Bool.and_false, Bool.or_true, Bool.false_and, Bool.true_or, and_self] <;> rfl) ?_
    simp only [ev_m1, ev_m2, ev_consM, ev_callM, ev_callF, ev_truM, ev_andT, ev_orT, ev_notT, ev_andV, ev_orV, ev_notV, ev_ifM, ev_tupM, ev_lstM, ev_partM, ev_parS, ev_par3S, ev_parOS, ev_asgS, ev_setS, ev_retS, ev_exprS, ev_ifS, ev_ownS, ev_raiseS, ev_makeF, ev_methF, ev_chT, ev_itM, ev_itA, ev_sliceM, ev_selfS, ev_penGet, ev_penPut, ev_mStr1, ev_thenS, ev_bindM, ev_retM, ev_optM, ev_mVar, ev_nextS, frzS, ev_yesM, List.append_nil, List.cons_append, List.nil_append, List.length_cons, List.length_nil, Nat.zero_add, Nat.reduceAdd, reduceIte, addD, subD, ltD, gtD, geD, leD, negD, DL.intD, absD, lenD, truD, DL.isNon, truB, strCD, extS, apS, DL.setAll, DL.assignT, List.getElem?_cons_succ, List.getElem?_cons_zero, List.set_cons_succ, List.set_cons_zero, if_true, Bool.false_eq_true, if_false, Bool.not_true, Bool.not_false, W_ok, W_exc, KS_nx, KS_rt, Bool.true_and, Bool.and_true, Bool.false_or, Bool.or_false, Bool.and_false, Bool.or_true, Bool.false_and, Bool.true_or, and_self, List.length_map]
    exact ⟨_, rfl⟩
  unfold makeR
  rw [if_pos (show ([rowD b1 (gs.map (gv c)), rowD b2 (hs.map (gv c))] : List D).length = 2 from rfl), q]
  rfl
def lwMadeRule (cU c e er eu : Nat) (tb tbR : List (Nat × Bool)) : List D → Pen → R (D × Pen) Pen := runF 3
    (retS (makeF cU 2 (pkUInit cU c e er eu tb tbR) [] (consM (callF 2 (lwGiven c e tb) [] (consM (mVar 0) (consM (mVar 1) (retM [])))) (consM (callF 2 (lwGiven c e tb) [] (consM (mVar 0) (consM (mVar 2) (retM [])))) (retM [])))))
theorem lwMadeRule_ok {cU c e er eu k n : Nat} {tb tbR : List (Nat × Bool)} {p : Pen} (t1 : tb.lookup c = some false) (t2 : tbR.lookup c = some true) {as bs : List (Int × Int)} (h : PenOk n p) (hn : n < 10000000000) (ha : ∀ q ∈ as, Lo k q) (hb : ∀ q ∈ bs, Lo k q) (hk : k ≤ 8000)
    (h0 : 0 < bs.length) (h1 : bs.length < 1000) (h2 : as.length = bs.length ∨ as.length + 1 = bs.length) (hz : ∀ q ∈ bs.dropLast, q.1 ≠ 0) :
    ∃ p', lwMadeRule cU c e er eu tb tbR [.st, .lst (as.map frac), .lst (bs.map frac)] p = .ok (ruleD cU c as bs, p') ∧ PenOk (n + as.length + bs.length + 2) p' := by
  obtain ⟨b1, gs, p1, e1, g1, g2, k1⟩ := lwGiven_ok (c := c) (e := e) (tb := tb) h (by omega) (by omega) ha hk
  obtain ⟨b2, hs, p2, e2, g3, g4, k2⟩ := lwGiven_ok (c := c) (e := e) (tb := tb) k1 (by omega) (by omega) hb hk
  have mk := pkU_ok (cU := cU) (e := e) (er := er) (eu := eu) t1 t2 g2 g4 g1 g3 h0 h1 h2 hz b1 b2 p2
  refine ⟨p2, ?_, k2.mono (by omega)⟩
  unfold lwMadeRule
  refine runF_W (env := [.d .st, .d (.lst (as.map frac)), .d (.lst (bs.map frac))]) rfl ?_
  simp only [ev_m1, ev_m2, ev_consM, ev_callM, ev_callF, ev_truM, ev_andT, ev_orT, ev_notT, ev_andV, ev_orV, ev_notV, ev_ifM, ev_tupM, ev_lstM, ev_partM, ev_parS, ev_par3S, ev_parOS, ev_asgS, ev_setS, ev_retS, ev_exprS, ev_ifS, ev_ownS, ev_raiseS, ev_makeF, ev_methF, ev_chT, ev_itM, ev_itA, ev_sliceM, ev_selfS, ev_penGet, ev_penPut, ev_mStr1, ev_thenS, ev_bindM, ev_retM, ev_optM, ev_mVar, ev_nextS, frzS, ev_yesM, List.append_nil, List.cons_append, List.nil_append, List.length_cons, List.length_nil, Nat.zero_add, Nat.reduceAdd, reduceIte, addD, subD, ltD, gtD, geD, leD, negD, DL.intD, absD, lenD, truD, DL.isNon, truB, strCD, extS, apS, DL.setAll, DL.assignT, List.getElem?_cons_succ, List.getElem?_cons_zero, List.set_cons_succ, List.set_cons_zero, if_true, Bool.false_eq_true, if_false, Bool.not_true, Bool.not_false, W_ok, W_exc, KS_nx, KS_rt, Bool.true_and, Bool.and_true, Bool.false_or, Bool.or_false, Bool.and_false, Bool.or_true, Bool.false_and, Bool.true_or, e1, e2, mk]
def pkNeedRule (ei : Nat) (tbU : List (Nat × Bool)) : List D → Pen → R (D × Pen) Pen := runF 1
    (ifS (notT (truM (m1 (isiD false false false false false false tbU) (mVar 0)))) (raiseS ei 1 (consM (mVar 0) (retM []))) nextS)
theorem needRule_ok {ei cU c : Nat} {tbU : List (Nat × Bool)} (h : tbU.lookup cU = some true) (as bs : List (Int × Int)) (s : Pen) : pkNeedRule ei tbU [ruleD cU c as bs] s = .ok (.non, s) := by
  have e : isiD false false false false false false tbU (ruleD cU c as bs) = some (.bl true) := by unfold ruleD; simp only [isiD, h, Option.map_some]
  unfold pkNeedRule runF
  have q : (ifS (notT (truM (m1 (isiD false false false false false false tbU) (mVar 0)))) (raiseS ei 1 (consM (mVar 0) (retM []))) nextS : MS Pen) [.d (ruleD cU c as bs)] s = .ok (.nx [.d (ruleD cU c as bs)], s) := by simp only [ev_m1, ev_m2, ev_consM, ev_callM, ev_callF, ev_truM, ev_andT, ev_orT, ev_notT, ev_andV, ev_orV, ev_notV, ev_ifM, ev_tupM, ev_lstM, ev_partM, ev_parS, ev_par3S, ev_parOS, ev_asgS, ev_setS, ev_retS, ev_exprS, ev_ifS, ev_ownS, ev_raiseS, ev_makeF, ev_methF, ev_chT, ev_itM, ev_itA, ev_sliceM, ev_selfS, ev_penGet, ev_penPut, ev_mStr1, ev_thenS, ev_bindM, ev_retM, ev_optM, ev_mVar, ev_nextS, frzS, ev_yesM, List.append_nil, List.cons_append, List.nil_append, List.length_cons, List.length_nil, Nat.zero_add, Nat.reduceAdd, reduceIte, addD, subD, ltD, gtD, geD, leD, negD, DL.intD, absD, lenD, truD, DL.isNon, truB, strCD, extS, apS, DL.setAll, DL.assignT, List.getElem?_cons_succ, List.getElem?_cons_zero, List.set_cons_succ, List.set_cons_zero, if_true, Bool.false_eq_true, if_false, Bool.not_true, Bool.not_false, e]
  rw [show ([ruleD cU c as bs].map Slot.d ++ List.replicate (1 - [ruleD cU c as bs].length) Slot.no) = [Slot.d (ruleD cU c as bs)] from rfl, q]
theorem needRule_no {ei : Nat} {tbU : List (Nat × Bool)} {d : D} (h : isiD false false false false false false tbU d = some (.bl false)) (s : Pen) : pkNeedRule ei tbU [d] s = .exc ei [d] s := by
  unfold pkNeedRule
  refine runF_E (env := [.d d]) rfl ?_
  simp only [ev_m1, ev_m2, ev_consM, ev_callM, ev_callF, ev_truM, ev_andT, ev_orT, ev_notT, ev_andV, ev_orV, ev_notV, ev_ifM, ev_tupM, ev_lstM, ev_partM, ev_parS, ev_par3S, ev_parOS, ev_asgS, ev_setS, ev_retS, ev_exprS, ev_ifS, ev_ownS, ev_raiseS, ev_makeF, ev_methF, ev_chT, ev_itM, ev_itA, ev_sliceM, ev_selfS, ev_penGet, ev_penPut, ev_mStr1, ev_thenS, ev_bindM, ev_retM, ev_optM, ev_mVar, ev_nextS, frzS, ev_yesM, List.append_nil, List.cons_append, List.nil_append, List.length_cons, List.length_nil, Nat.zero_add, Nat.reduceAdd, reduceIte, addD, subD, ltD, gtD, geD, leD, negD, DL.intD, absD, lenD, truD, DL.isNon, truB, strCD, extS, apS, DL.setAll, DL.assignT, List.getElem?_cons_succ, List.getElem?_cons_zero, List.set_cons_succ, List.set_cons_zero, if_true, Bool.false_eq_true, if_false, Bool.not_true, Bool.not_false, W_ok, W_exc, KS_nx, KS_rt, Bool.true_and, Bool.and_true, Bool.false_or, Bool.or_false, Bool.and_false, Bool.or_true, Bool.false_and, Bool.true_or, h, and_self]
end DL
set_option Elab.async false
set_option linter.all false
set_option maxRecDepth 100000
set_option maxHeartbeats 1000000
namespace DL
open PySem PySem.Spec PyProof.Rows L2
def shwB (d : D) : Bool := match toPy d with
  | some p => p.showable && decide (p.depth ≤ 60) && decide (p.shown.length ≤ 1000) && PyData.strOk p.shown
  | none => false
theorem shw {d : D} (h : shwB d = true) : ∃ y : Str, reprD [d] = some (.str y) ∧ PyData.strOk y = true := by
  unfold shwB at h
  cases e : toPy d with
  | none => rw [e] at h; cases h
  | some p =>
    rw [e] at h
    simp only [Bool.and_eq_true, decide_eq_true_eq] at h
    obtain ⟨⟨⟨h1, h2⟩, h3⟩, h4⟩ := h
    refine ⟨p.shown, ?_, h4⟩
    show (reprV d).map D.str = _
    unfold reprV
    rw [e]
    dsimp only
    rw [if_pos ⟨h1, h2, by rw [sizeLine_eq]; omega⟩]
    rfl
theorem lit_ok (s : String) : PyData.strOk (Str.ofString s) = true := ok_iff.mpr fun k hk => by
  rw [Str.ofString_eq_toList] at hk
  obtain ⟨c, _, rfl⟩ := List.mem_map.mp hk
  rcases c.valid with h | ⟨_, h⟩
  · exact Nat.lt_trans h (by decide)
  · exact h
/-- a tuple of texts -/
theorem Pl.strs {xs : List Str} (h : ∀ x ∈ xs, PyData.strOk x = true) : Pl 1 (.tup (xs.map D.str)) := Pl.tup fun d hd => by
  obtain ⟨x, hx, rfl⟩ := List.mem_map.mp hd
  exact Pl.str (h x hx)
theorem Pl.strs2 {x y : Str} (h : PyData.strOk x = true) (k : PyData.strOk y = true) : Pl 1 (.tup [.str x, .str y]) := Pl.strs (xs := [x, y]) fun z hz => by
  simp only [List.mem_cons, List.not_mem_nil, or_false] at hz
  rcases hz with rfl | rfl <;> assumption
theorem Pl.strs3 {x y z : Str} (h : PyData.strOk x = true) (k : PyData.strOk y = true) (l : PyData.strOk z = true) : Pl 1 (.tup [.str x, .str y, .str z]) := Pl.strs (xs := [x, y, z]) fun w hw => by
  simp only [List.mem_cons, List.not_mem_nil, or_false] at hw
  rcases hw with rfl | rfl | rfl <;> assumption
/-- an error that a def's statement raises -/
theorem runF_W1 {S : Type} {n : Nat} {mb : MS S} {ds : List D} {k : Nat} {fs : List D} {env e : DL.Env} {s s' : S} (he : env = ds.map Slot.d ++ List.replicate (n - ds.length) Slot.no) (h : mb env s = .exc k fs (e, s')) : runF n mb ds s = .exc k fs s' := runF_exc he h
theorem seqS_exc {S : Type} {m1' m2' : MS S} {env e : DL.Env} {s s' : S} {k : Nat} {fs : List D} (h : m1' env s = .exc k fs (e, s')) : seqS m1' m2' env s = .exc k fs (e, s') := by unfold seqS; rw [h]
end DL
set_option Elab.async false
set_option linter.all false
set_option maxRecDepth 100000
set_option maxHeartbeats 2000000
namespace DL
open PySem PySem.Spec PyProof.Rows L2
/-- the row's walk, the written part handed over by the head -/
theorem walk_lawY {l : PySem.W.OpenLaw} {n k : Nat} {q : Program} {loose : List Str} {XP : (Str → Option Value) → Heap → Prop} {YP : World → Heap → Prop} {d : DefRec} {x : Str} {good : List Int → Prop}
    (hn : l.most = some n) (hn2 : n ≤ sizeLine) (hdf : d.params.defaults = []) (hr : Room k callerA) (hgood : ∀ ns : List Int, ns.length ≤ n → (∀ z ∈ ns, Builtin.Int.intBits z ≤ 1048576) → good ns)
    (F : ∀ (w : World) (mg : Str → Option Value) (fa : Addr) (h : Heap), YP w h → h.Ns mainGlobals mg → mg d.name = some (.ref fa) → ∃ K : PySem.W.Frag, K.In h ∧ LawD l w K k x mg fa h good) :
    PySem.W.WalkO q loose XP YP l.row.toRowW d [] (fun f vs => PySem.call f vs) := by
  refine Att.attach_callB hn hdf fun w s₀ s₁ mg mb fa o pm cd doc a vs ns G Y ho hd hcd hmg hobj hints hlen hbits hg => ?_
  obtain ⟨K, KX, fd, cs, T, hT, nT, C, hTc, hb, hF⟩ := F w mg fa _ Y G.T.g hmg
  exact law_end KX G.T.g G.T.b G.T.builtins G.T.nolimit hg hT nT C hTc G.T.bmain hobj hints (Nat.le_trans hlen hn2) hr (hgood ns hlen hbits) hF hb
end DL
set_option Elab.async false
set_option linter.all false
set_option maxRecDepth 100000
set_option maxHeartbeats 1000000
namespace DL
open PySem PySem.Spec PyProof.Rows L2
def zipL : List D → List D → List D
  | a :: r, b :: q => .tup [a, b] :: zipL r q
  | _, _ => []
theorem zipL_get : ∀ {ds es : List D} {i : Nat} {d : D}, (zipL ds es)[i]? = some d → ∃ x y, ds[i]? = some x ∧ es[i]? = some y ∧ d = .tup [x, y]
  | [], _, _, _, h => by simp [zipL] at h
  | _ :: _, [], _, _, h => by simp [zipL] at h
  | a :: r, b :: q, 0, d, h => by simp [zipL] at h; exact ⟨a, b, by simp, by simp, h.symm⟩
  | a :: r, b :: q, i + 1, d, h => by
    obtain ⟨x, y, h1, h2, h3⟩ := zipL_get (ds := r) (es := q) (i := i) (d := d) (by simpa [zipL] using h)
    exact ⟨x, y, by simpa using h1, by simpa using h2, h3⟩
theorem zipL_len : ∀ {ds es : List D}, (zipL ds es).length = min ds.length es.length
  | [], _ => by simp [zipL]
  | _ :: _, [] => by simp [zipL]
  | a :: r, b :: q => by simp only [zipL, List.length_cons, zipL_len (ds := r) (es := q)]; omega
theorem jok_zip {C : DC} {K : PySem.W.Frag} (hk : C.K = K) {F : Hp} {a b : Addr} {vs us : List V} {ds es : List D} (h : SqL K F a vs) (g : SqL K F b us) (r : Reps C F ds vs) (q : Reps C F es us) : JOk C (Itz K a b) F (zipL ds es) where
  go := fun i F' H e1 e2 hi => by
    rw [zipL_len] at hi
    obtain ⟨v, hv, _⟩ := r.get (List.getElem?_eq_getElem (show i < ds.length by omega))
    obtain ⟨u, hu, _⟩ := q.get (List.getElem?_eq_getElem (show i < es.length by omega))
    exact ⟨vs, us, v, u, e2.seq (e1.seq h), e2.seq (e1.seq g), hv, hu⟩
  yl := fun i F' H x H' d e1 e2 hd y => by
    obtain ⟨T, x0, y0, rfl, hT, rfl, hx, hy⟩ := y
    obtain ⟨dx, dy, k1, k2, rfl⟩ := zipL_get hd
    obtain ⟨v, hv, rv⟩ := r.get k1
    obtain ⟨u, hu, ru⟩ := q.get k2
    have z := hx vs (e2.seq (e1.seq h))
    rw [hv] at z; cases z
    have z := hy us (e2.seq (e1.seq g))
    rw [hu] at z; cases z
    exact .inr ⟨T, .tup [x0, y0], hT, (fun ps z => by cases z), rfl, T, _, rfl, SqT.of upd_same, _, _, rfl, (rv.mono e1).mono (same_upd (e2.free hT)), _, _, rfl, (ru.mono e1).mono (same_upd (e2.free hT)), rfl⟩
  stop := fun i F' H e1 e2 hi => ⟨vs, us, e2.seq (e1.seq h), e2.seq (e1.seq g), by rw [zipL_len] at hi; rw [r.length, q.length]; omega⟩
theorem jok_zipT {C : DC} {K : PySem.W.Frag} (hk : C.K = K) {F : Hp} {a b : Addr} {vs us : List V} {ds es : List D} (h : SqT K F a vs) (g : SqT K F b us) (r : Reps C F ds vs) (q : Reps C F es us) : JOk C (RZ.ItzT K a b) F (zipL ds es) where
  go := fun i F' H e1 e2 hi => by
    rw [zipL_len] at hi
    obtain ⟨v, hv, _⟩ := r.get (List.getElem?_eq_getElem (show i < ds.length by omega))
    obtain ⟨u, hu, _⟩ := q.get (List.getElem?_eq_getElem (show i < es.length by omega))
    exact ⟨vs, us, v, u, sqT_same e2 (sqT_same e1 h), sqT_same e2 (sqT_same e1 g), hv, hu⟩
  yl := fun i F' H x H' d e1 e2 hd y => by
    obtain ⟨T, x0, y0, rfl, hT, rfl, hx, hy⟩ := y
    obtain ⟨dx, dy, k1, k2, rfl⟩ := zipL_get hd
    obtain ⟨v, hv, rv⟩ := r.get k1
    obtain ⟨u, hu, ru⟩ := q.get k2
    have z := hx vs (sqT_same e2 (sqT_same e1 h))
    rw [hv] at z; cases z
    have z := hy us (sqT_same e2 (sqT_same e1 g))
    rw [hu] at z; cases z
    exact .inr ⟨T, .tup [x0, y0], hT, (fun ps z => by cases z), rfl, T, _, rfl, SqT.of upd_same, _, _, rfl, (rv.mono e1).mono (same_upd (e2.free hT)), _, _, rfl, (ru.mono e1).mono (same_upd (e2.free hT)), rfl⟩
  stop := fun i F' H e1 e2 hi => ⟨vs, us, sqT_same e2 (sqT_same e1 h), sqT_same e2 (sqT_same e1 g), by rw [zipL_len] at hi; rw [r.length, q.length]; omega⟩
def zipOf : List D → Option (List D)
  | [.lst xs, .lst ys] => some (zipL xs ys)
  | [.tup xs, .tup ys] => some (zipL xs ys)
  | _ => none
section
variable {S : Type} {c : Ct S} {X : Cx} {a b e e2 : Expr} {pos p tpos : Pos} {m : M S D} {ms : M S (List D)} {ma mb : M S D}
theorem i_zip {elts : List Expr} {kk : Nat} (hk : c.C.K = X.K) (hm : X.mg "zip" = none) (ha : PA X [e, e2] (tA c ms)) (hg : Gl X "zip" := by rfl)
    (hs : starEach [e, e2] X.env = (false, eval e X.env) :: starEach [e2] X.env := by rfl) (hpl : (backTo pos (starEach [e2] X.env)).any (·.1) = false := by rfl) :
    PI X (.Tuple elts kk tpos) (.Call (.Name "zip" p) [e, e2] [] pos) (tI c (itA zipOf ms)) := by
  refine PIimp (RZ.pi_zipA hg hm ha hs hpl) fun σ H R h => ?_
  obtain ⟨F, env, s, T, h⟩ := h
  refine ⟨F, env, s, T, h.bind.imp fun ds s1 F1 H1 e1 T1 q us rus => ?_⟩
  obtain ⟨l, ed, q2⟩ := q.opt T1
  unfold zipOf at ed
  split at ed
  · cases ed
    obtain ⟨v, v', rfl, r1, r2⟩ := reps2 rus
    obtain ⟨a, vs, rfl, h2, h3⟩ := r1
    obtain ⟨b, us, rfl, g2, g3⟩ := r2
    exact ⟨a, b, vs, us, rfl, .inl ⟨by rw [← hk]; exact T1.sub.seq h2, by rw [← hk]; exact T1.sub.seq g2, q2 F1 H1 (Same.refl _) T1 _ (jok_zip hk (by rw [← hk]; exact h2) (by rw [← hk]; exact g2) h3 g3)⟩⟩
  · cases ed
    obtain ⟨v, v', rfl, r1, r2⟩ := reps2 rus
    obtain ⟨a, vs, rfl, h2, h3⟩ := r1
    obtain ⟨b, us, rfl, g2, g3⟩ := r2
    exact ⟨a, b, vs, us, rfl, .inr ⟨by rw [← hk]; exact sqT_same T1.sub h2, by rw [← hk]; exact sqT_same T1.sub g2, q2 F1 H1 (Same.refl _) T1 _ (jok_zipT hk (by rw [← hk]; exact h2) (by rw [← hk]; exact g2) h3 g3)⟩⟩
  · cases ed
end
theorem int_rmul_listW (a : Int) (t : Tok) (l : Addr) (items : Array Value) (n : Nat) (od : Option Addr) (sl : Array (Option Value)) :
    Meets (Builtin.«int.__rmul__» ⟨[.int a t, .ref l], []⟩) (fun _ R s => s.heap.get? l = some { cls := .type "list", dict := od, data := .seq items n, slots := sl } ∧ R (.ok (.ret Value.notImplemented)) s) :=
  .of_wp fun prog w A R s h => by obtain ⟨hp, g, d, tk, os⟩ := s; obtain ⟨hl, h⟩ := h; wp_walk; exact ⟨_, rfl, h⟩
theorem list_mulW (l : Addr) (items : Array Value) (n : Nat) (x : Int) (u : Tok) (od : Option Addr) (sl : Array (Option Value)) (hc0 : ¬(!Builtin.List.listFitsIndex x) = true) (hc1 : ¬items.size * x.toNat > (2 ^ 63 - 1) / 8) (hc2 : ¬Builtin.List.listTooLong (items.size * x.toNat) = true) :
    Meets (Builtin.«list.__mul__» ⟨[.ref l, .int x u], []⟩) (fun _ R s => s.heap.get? l = some { cls := .type "list", dict := od, data := .seq items n, slots := sl } ∧ R (.ok (.ret (Value.ref s.heap.objs.size))) { s with heap := s.heap.push { cls := Value.type "list", data := Data.seq (List.foldl (fun x1 x2 => x1 ++ x2) #[] (List.replicate (if items.isEmpty = true then 0 else x.toNat) items)) }, toks := s.toks }) :=
  .of_wp fun prog w A R s h => by
    obtain ⟨hp, g, d, tk, os⟩ := s; obtain ⟨hl, h⟩ := h
    have hsz := AutoListH.joined_fits hc2
    wp_walk; refine wpAny_ite_false (decide_eq_false (Nat.not_lt.mpr hsz)) ?_; wp_walk; exact ⟨_, rfl, h⟩
def rRepL (K : PySem.W.Frag) : R2 := fun x y H Q => ∃ l k xs, x = .ref l ∧ y = .int k ∧ SqL K H l xs ∧ -(2 ^ 63) ≤ k ∧ k < 2 ^ 63 ∧ xs.length * k.toNat ≤ sizeLine ∧
  ∀ p, H p = none → Q (.ref p) (upd H p (.lst (List.replicate k.toNat xs).flatten))
theorem op_repL {X : Cx} : OpR X (binaryOp .Mult) (rRepL X.K) := by
  intro pins s σ H x y v u Q I rx ry h
  obtain ⟨l, k, xs, rfl, rfl, hH, h1, h2, hz, q⟩ := h
  cases rx
  obtain ⟨t, rfl⟩ := ry
  obtain ⟨its, r, ⟨⟨c1, d1, dt1, sl1⟩, n, e, hc1, hd1, hs1⟩, _⟩ := I.list hH
  simp only at hc1 hs1
  subst hc1 hs1
  have hl := r.length
  have hlen : its.toArray.size * k.toNat ≤ sizeLine := by rw [List.size_toArray, ← hl]; exact hz
  have hcap : ¬ its.toArray.size * k.toNat > (2 ^ 63 - 1) / 8 := by
    have : (sizeLine : Nat) ≤ (2 ^ 63 - 1) / 8 := by decide
    omega
  have hfit : ¬ (!Builtin.List.listFitsIndex k) = true := by
    rw [fitsIndex_both h1 h2]
    exact Bool.false_ne_true
  have hlong : ¬ Builtin.List.listTooLong (its.toArray.size * k.toNat) = true := by
    rw [notLongL hlen]
    exact Bool.false_ne_true
  have hnew : List.foldl (fun x1 x2 => x1 ++ x2) #[] (List.replicate (if its.toArray.isEmpty = true then 0 else k.toNat) its.toArray) = (List.replicate k.toNat its).flatten.toArray := by
    have f0 : ∀ m : Nat, List.foldl (fun x1 x2 => x1 ++ x2) #[] (List.replicate m its.toArray) = (List.replicate m its).flatten.toArray := fun m => by
      have := foldl_rep its m []
      rw [List.nil_append] at this
      exact this
    rw [f0]
    cases its with
    | nil => simp
    | cons a r' => rw [if_neg (by simp)]
  refine wpAny_binaryOp_repeat_ref (T := "list") (U := "int") (by decide) ⟨_, e, rfl⟩ (fun s' => typeIs_int s' k t) noFill_list_mul PySem.F.fills_int_mul PySem.F.slot_int_rmul repeat_list PySem.F.slot_int_index.lookup
    (call_meets PySem.F.slot_int_rmul (typeIs_int s k t) PySem.F.entry_int_rmul (PySem.F.args_int_rmul_2 _ _) (int_rmul_listW k t l its.toArray n _ _)
      ⟨e, rfl, ⟨_, e, rfl⟩, call_meets PySem.F.slot_list_mul ⟨_, e, rfl⟩ PySem.F.entry_list_mul (PySem.F.args_list_mul_2 _ _) (list_mulW l its.toArray n k t _ _ hfit hcap hlong) ⟨e, ?_⟩⟩)
  rw [hnew]
  exact ⟨.ref _, _, I.lnew (t' := s.toks) (r.rep k.toNat) (by rw [PyProof.Rows.lm_len_rep_flat, Nat.mul_comm]; exact hz), rfl, q _ I.fresh⟩
theorem Reps.rep {C : DC} {F : Hp} {ds : List D} {vs : List V} (h : Reps C F ds vs) : ∀ n, Reps C F (List.replicate n ds).flatten (List.replicate n vs).flatten
  | 0 => rfl
  | n + 1 => by
    rw [List.replicate_succ, List.replicate_succ, List.flatten_cons, List.flatten_cons]
    exact h.append (Reps.rep h n)
def repD : D → D → Option D
  | .lst xs, .int k => if k.natAbs < 2 ^ 62 ∧ xs.length * k.toNat ≤ 100000 then some (.lst (List.replicate k.toNat xs).flatten) else none
  | _, _ => none
section
variable {S : Type} {c : Ct S} {X : Cx} {a b e : Expr} {pos p : Pos} {ma mb : M S D}
theorem op2_repL : Op2 c (rRepL c.C.K) repD := by
  intro σ F H env s x y dx dy d Q T rx ry e q
  unfold repD at e
  split at e
  · split at e
    · rename_i xs k hk
      cases e
      obtain ⟨p1, vs, rfl, h2, h3⟩ := rx
      cases rep_int ry
      refine ⟨p1, k, vs, rfl, rfl, T.sub.seq h2, by have := hk.1; omega, by have := hk.1; omega, by rw [h3.length, sizeLine_eq]; omega, fun p np => ?_⟩
      exact q _ _ _ (same_upd (T.ff np)) (T.new np (fun ps z => by cases z)) ⟨p, _, rfl, SqL.of upd_same, (h3.rep _).mono (same_upd (T.ff np))⟩
    · cases e
  · cases e
/-- xs * k -/
theorem d_rep (hk : c.C.K = X.K) (ha : PE X a (tM c ma)) (hb : PE X b (tM c mb)) : PE X (.BinOp a .Mult b pos) (tM c (m2 repD ma mb)) :=
  d_op op_repL (hk ▸ op2_repL) ha hb
/-- the module's name x holds the tuple of the texts xs -/
structure TupG (K : PySem.W.Frag) (mg : Str → Option Value) (x : Str) (xs : List Str) : Prop where
  ex : ∃ (a : Addr) (o : Obj) (its : Array Value) (n : Nat), mg x = some (.ref a) ∧ K.lookup a = some o ∧ o.cls = .type "tuple" ∧ o.data = .seq its n ∧ its.size ≤ sizeLine ∧ Vals (xs.map V.str) its.toList
theorem Reps.strs {C : DC} {F : Hp} : ∀ {xs : List Str}, Reps C F (xs.map D.str) (xs.map V.str)
  | [] => rfl
  | _ :: _ => ⟨_, _, rfl, rfl, Reps.strs⟩
theorem d_globT {x : Str} {xs : List Str} (hk : c.C.K = X.K) (hm : TupG X.K X.mg x xs) (hg : Gl X x := by rfl) (hd : (x == ("__debug__" : Str)) = false := by decide) : PE X (.Name x pos) (tM c (retM (.tup (xs.map D.str)))) := by
  obtain ⟨a, o, its, n, h1, h2, h3, h4, h5, h6⟩ := hm.ex
  exact d_const (pe_glob (v := .ref a) hg h1 rfl hd) fun F => ⟨a, _, rfl, .inr ⟨o, its, n, by rw [hk]; exact h2, h3, h4, h5, h6⟩, Reps.strs⟩
end
end DL
set_option Elab.async false
set_option linter.all false
set_option maxRecDepth 100000
set_option maxHeartbeats 2000000
namespace DL
open PySem PySem.Spec PyProof.Rows L2
theorem blkOk_lam {N : List Str} {X : Cx} {A : Around} {outer : List PySem.Env} {s : Shared} {H : Hp} {E : XK} {scope sc2 : Scope} {f c : Addr} {own : List (Str × Nat)} (h : blkC N scope sc2 own = true) : BlkOk N (LamX.lamCx X A outer s H E scope f c).env.scope sc2 own := blkOk_by h
section
variable {P : Program} {w : World} {K : PySem.W.Frag} {mg : Str → Option Value} {base : Heap}
theorem fnLaw_ofB {cls : Nat → Addr} {flds : Nat → List Str} {T : List (Addr × Str)} {x xp : Str} {st : Stmt} {f : Addr} {fd : FuncData} {N : List Str} {cd : Value} {p0 y : Str} {k kp i : Nat} {m : MS Pen} {rest : List Stmt} {pa pb pc pd pe : Pos} {good : List Int → Prop}
    (Fu : FunA K x x st cd f fd) (Sc : FnScope N [p0] (defScope st)) (hb : defBody st = .Assign [.Name y pa] (.Call (.Name xp pb) [.Name p0 pc] [] pd) pe :: rest) (G : GPen P w K mg base (mkDC K cls flds T none) kp xp) (hkp : kp ≤ k) (hm : ∀ cells, good cells → lawTrue (N.length - 1) i m cells)
    (hy : N[i]? = some y) (hyl : (defScope st).names.lookup y = some .local ∨ (defScope st).names.lookup y = some .cell) (hg1 : (defScope st).names.lookup xp = some .globalImplicit) (h0 : N[0]? = some p0) (hl0 : (defScope st).names.lookup p0 = some .local) (d1 : (xp == ("__debug__" : Str)) = false) (d2 : (p0 == ("__debug__" : Str)) = false) (d3 : (p0 == ("__classdict__" : Str)) = false)
    (hbody : ∀ {A : Around} {outer : List PySem.Env} {s : Shared} {H : Hp} {E : XK} {so : Option Addr} {B : En}, (∀ a, B.ex a → (penJ K so).ex a) → XO (cxD P w K mg base N x st f cd A outer s H E) (⟨mkDC K cls flds T so, penJ K so, B, fun cls dd _ H' => E cls dd H'⟩ : Ct Pen) k →
      PSs (cxD P w K mg base N x st f cd A outer s H E) rest (tS (⟨mkDC K cls flds T so, penJ K so, B, fun cls dd _ H' => E cls dd H'⟩ : Ct Pen) m)) :
    FnD P w K mg base (k + 1) f fd [p0] (spLaw K T good) := by
  obtain ⟨oc, od, kV, doc, pm, an, ct, osl, rfl, lk, hcd⟩ := Fu.ex
  refine ⟨fun {vs H Q E} h => by obtain ⟨_, _, _, e, _⟩ := h; rw [e]; rfl, fun {A outer s H args us vs Q E} hr hg e0 hbd r h => ?_⟩
  have hl : vs.length = ([p0] : List Str).length := by obtain ⟨_, _, _, e, _⟩ := h; rw [e]; rfl
  refine LamX.run_ofS (N := N) (ps := [p0]) lk hcd Sc hr e0 hbd r hl fun hr' => ?_
  obtain ⟨F, cells, l0, rfl, hs, nt, ht, hS, hgood, hq⟩ := h
  have xo : ∀ so B, XO (cxD P w K mg base N x st f cd A outer s H E) (⟨mkDC K cls flds T so, penJ K so, B, fun cls dd _ H' => E cls dd H'⟩ : Ct Pen) k := fun so B => ⟨rfl, hr', guards_deeper hg, takes_of rfl rfl rfl rfl, rfl, passes_of (K := fun e s'' => L2.CX P w outer H s E e s'') rfl⟩
  have restR : PSs (cxD P w K mg base N x st f cd A outer s H E) rest (fun De σ H' => ∃ so B, (∀ a, B.ex a → (penJ K so).ex a) ∧ tS (⟨mkDC K cls flds T so, penJ K so, B, fun cls dd _ H' => E cls dd H'⟩ : Ct Pen) m De σ H') := ⟨fun pins s2 σ H2 D I ⟨so, B, hB, q⟩ => (hbody hB (xo so B)).run pins s2 σ H2 D I q⟩
  obtain ⟨fp, fdp, p1, Dp, hmp, hkpp, bp⟩ := G.ex
  have call : PE (cxD P w K mg base N x st f cd A outer s H E) (.Call (.Name xp pb) [.Name p0 pc] [] pd) (fun σ H2 Q2 => ∃ v, σ[0]? = some (some v) ∧ spPen (mkDC K cls flds T none) [v] H2 Q2 fun cls dd H' => E cls dd H') := by
    refine ⟨fun pins s2 σ H2 Q2 I h => ?_⟩
    obtain ⟨v, e1, e2⟩ := h
    refine wpAny_Call_Name_kw (ld_glob I hg1 hmp ?_ d1)
    refine PySem.W.callWith_K (h₀ := base) I.ok.mod.kin hkpp (thn ((L2.pa_cons (pe_var (i := 0) h0 (.inl hl0) d2 d3) L2.pa_nil).run pd pins s2 σ H2 (fun vs H3 => spPen (mkDC K cls flds T none) vs H3 Q2 fun cls dd H' => E cls dd H') I ⟨v, e1, e2⟩) fun us s3 ⟨vs, H3, I3, r3, q3⟩ => ⟨I3.kIn, ?_⟩) rfl rfl
    exact Dp.call (c := (⟨mkDC K cls flds T none, penJ K none, ⟨F, H, fun _ => False, none⟩, fun cls dd _ H' => E cls dd H'⟩ : Ct Pen)) (xo none _) hkp bp .nil I3 r3 (by rw [List.append_nil]; exact q3)
  have first := ps_set (X := cxD P w K mg base N x st f cd A outer s H E) (i := i) Sc.nd hy hyl call (pos' := pa) (pos := pe) (by rfl) (.inl rfl)
  have body := pss_cons first restR
  rw [← hb] at body
  refine ⟨_, body, .ref l0, by first | rfl | simp [L2.start], F, cells, l0, rfl, hs, nt, ht, hS, fun F' H' a l U na fa ha hl => ?_⟩
  have rep : Rep (mkDC K cls flds T (some a)) F' (.lst (cells.map .int)) (.ref l0) := ⟨l0, _, rfl, U.f0.seq hS, Reps.ints⟩
  have T0 := Stt.start (C := mkDC K cls flds T (some a)) (I := penI K a) (s := pen0 cells) (me := none) (ex := fun b => b = a) (k := N.length - 1) (ds := [.lst (cells.map .int)]) (vs := [.ref l0]) U.sub U.nt ⟨fa, l, ha, hl⟩ U.tb (Reps.one rep) fun a z => z
  have T1 := T0.setD (i := i) (d := .st) (v := .ref a) ⟨a, rfl, rfl⟩
  obtain ⟨s', e⟩ := hm cells hgood
  refine ⟨some a, ⟨F', H', fun b => b = a, none⟩, fun _ z => z, F', _, pen0 cells, T1, ?_⟩
  have e : m (([D.lst (cells.map .int)].map Slot.d ++ List.replicate (N.length - 1) Slot.no).set i (.d .st)) (pen0 cells) = .ok (.rt (.bl true), s') := e
  rw [e]
  exact fun v σ' env' F2 H2 e2 T2 rv => by
    cases rep_bl rv
    exact hq H2
end
def rInT (K : PySem.W.Frag) (neg : Bool) : R2 := fun x y H Q => ∃ d ds, Dp K H x d ∧ Dp K H y (.tuple ds) ∧ SeqAt.shaped d = true ∧ SeqAt.shaped (.tuple ds) = true ∧ Q (.bl (neg != ds.any fun z => PyData.eqv z d)) H
theorem op_inT {X : Cx} (hu : X.A.units + 65 < cLine) : OpR X (compareOp .In) (rInT X.K false) := by
  intro pins s σ H x y v u Q I rx ry h
  obtain ⟨d, ds, hd, he, sd, se, q⟩ := h
  obtain ⟨as, r1⟩ := Dp.reads I d x v hd rx
  obtain ⟨bs, r2⟩ := Dp.reads I (.tuple ds) y u he ry
  exact SeqAt.in_tuple_reads r2 r1 (SeqAt.canLay_of_shaped se) (SeqAt.canLay_of_shaped sd) (room_in_shaped sd hu) ⟨.bl _, H, I, rfl, by rw [Bool.false_bne] at q; exact q⟩
theorem op_notInT {X : Cx} (hu : X.A.units + 65 < cLine) : OpR X (compareOp .NotIn) (rInT X.K true) := by
  intro pins s σ H x y v u Q I rx ry h
  obtain ⟨d, ds, hd, he, sd, se, q⟩ := h
  obtain ⟨as, r1⟩ := Dp.reads I d x v hd rx
  obtain ⟨bs, r2⟩ := Dp.reads I (.tuple ds) y u he ry
  exact SeqAt.notIn_tuple_reads r2 r1 (SeqAt.canLay_of_shaped se) (SeqAt.canLay_of_shaped sd) (room_in_shaped sd hu) ⟨.bl _, H, I, rfl, by rw [Bool.true_bne] at q; exact q⟩
def inTD (neg : Bool) (x y : D) : Option D := match toPy x, toPy y with
  | some p, some (.tuple ps) => if SeqAt.shaped p = true ∧ SeqAt.shaped (.tuple ps) = true then some (.bl (neg != ps.any fun z => PyData.eqv z p)) else none
  | _, _ => none
section
variable {S : Type} {c : Ct S} {X : Cx} {a b : Expr} {pos : Pos} {ma mb : M S D} {k : Nat} {neg : Bool}
theorem inTD_out {x y d : D} (e : inTD neg x y = some d) : ∃ p ps, toPy x = some p ∧ toPy y = some (.tuple ps) ∧ SeqAt.shaped p = true ∧ SeqAt.shaped (.tuple ps) = true ∧ d = .bl (neg != ps.any fun z => PyData.eqv z p) := by
  unfold inTD at e
  split at e
  · rename_i p ps h1 h2
    split at e
    · rename_i hs
      cases e
      exact ⟨p, ps, h1, h2, hs.1, hs.2, rfl⟩
    · cases e
  · cases e
theorem op2_inT : Op2 c (rInT c.C.K neg) (inTD neg) := by
  intro σ F H env s x y dx dy d Q T rx ry e q
  obtain ⟨p, ps, h1, h2, h3, h4, rfl⟩ := inTD_out e
  exact ⟨p, ps, (dp_of T.sub rx h1).1, (dp_of T.sub ry h2).1, h3, h4, q F H _ (Same.refl _) T rfl⟩
theorem inTD_bl (x y d : D) (h : inTD neg x y = some d) : ∃ b, d = .bl b := by
  obtain ⟨_, _, _, _, _, _, r⟩ := inTD_out h
  exact ⟨_, r⟩
theorem d_inT (o : XO X c k) (ha : PE X a (tM c ma)) (hb : PE X b (tM c mb)) (hm : behindInMarks .In b = false := by rfl) : PE X (.Compare a [.In] [b] pos) (tM c (m2 (inTD false) ma mb)) :=
  d_cmp (op_inT (by have := o.rm.un; omega)) (o.hk ▸ op2_inT) ha hb hm
theorem d_notinT (o : XO X c k) (ha : PE X a (tM c ma)) (hb : PE X b (tM c mb)) (hm : behindInMarks .NotIn b = false := by rfl) : PE X (.Compare a [.NotIn] [b] pos) (tM c (m2 (inTD true) ma mb)) :=
  d_cmp (op_notInT (by have := o.rm.un; omega)) (o.hk ▸ op2_inT) ha hb hm
theorem t_inT (o : XO X c k) (ha : PE X a (tM c ma)) (hb : PE X b (tM c mb)) (hm : behindInMarks .In b = false := by rfl) : PT X (.Compare a [.In] [b] pos) (tT c (truM (m2 (inTD false) ma mb))) := t_cmpR (op_inT (by have := o.rm.un; omega)) (o.hk ▸ op2_inT) inTD_bl ha hb hm
theorem t_notinT (o : XO X c k) (ha : PE X a (tM c ma)) (hb : PE X b (tM c mb)) (hm : behindInMarks .NotIn b = false := by rfl) : PT X (.Compare a [.NotIn] [b] pos) (tT c (truM (m2 (inTD true) ma mb))) := t_cmpR (op_notInT (by have := o.rm.un; omega)) (o.hk ▸ op2_inT) inTD_bl ha hb hm
end
end DL
set_option Elab.async false
set_option linter.all false
set_option maxRecDepth 100000
set_option maxHeartbeats 2000000
namespace DL
open PySem PySem.Spec PyProof.Rows L2
section
variable {K : PySem.W.Frag} {d : FnS}
theorem get_tup {x : Str} {xs : List Str} {h : Heap} {mg : Str → Option Value} (X : K.In h) (G : h.Ns mainGlobals mg) (c : cTup x xs K = true) : TupG K mg x xs := by
  unfold cTup at c
  split at c
  · rename_i a e
    split at c
    · rename_i t od its n os e2
      simp only [Bool.and_eq_true, decide_eq_true_eq] at c
      obtain ⟨k1, k2, k3⟩ := c
      cases (beq_iff_eq.mp k1)
      exact ⟨a, _, its, n, PySem.W.mg_of X G e, e2, rfl, rfl, k2, He.relAll_ok k3⟩
    · cases c
  · cases c
end
end DL
set_option Elab.async false
set_option linter.all false
set_option maxRecDepth 100000
set_option maxHeartbeats 1000000
set_option exponentiation.threshold 9000
namespace DL
open PySem PySem.Spec PyProof.Rows L2
def ladd (p q : Int × Int) : Int × Int := low (p.1 * q.2 + q.1 * p.2) (p.2 * q.2)
theorem add_small {a b : Int} {k : Nat} (h1 : a.natAbs < 2 ^ k) (h2 : b.natAbs < 2 ^ k) : (a + b).natAbs < 2 ^ (k + 1) := by
  rw [Nat.pow_succ]; omega
theorem Lo.add {k m : Nat} {p q : Int × Int} (h : Lo k p) (g : Lo m q) : Lo (k + m + 1) (ladd p q) :=
  Lo.low (Int.mul_pos h.pos g.pos) (add_small (mul_small h.b1 g.b2) (by rw [Nat.add_comm]; exact mul_small g.b1 h.b2)) (Nat.lt_of_lt_of_le (mul_small h.b2 g.b2) (Nat.pow_le_pow_right (by decide) (by omega)))
def pkRAdd (c e : Nat) (tb tbR : List (Nat × Bool)) : List D → Pen → R (D × Pen) Pen := runF 2
    (seqS (ifS (truM (callF 1 (pkInt tb) [] (consM (mVar 1) (retM [])))) (retS (makeF c 2 (pkRInit c e tb) [] (consM (m2 addD (m1 (fldD [(c, 0)]) (mVar 0)) (m2 mulD (mVar 1) (m1 (fldD [(c, 1)]) (mVar 0)))) (consM (m1 (fldD [(c, 1)]) (mVar 0)) (retM []))))) nextS)
    (seqS (ifS (notT (truM (m1 (isiD false false false false false false tbR) (mVar 1)))) badS nextS)
    (retS (makeF c 2 (pkRInit c e tb) [] (consM (m2 addD (m2 mulD (m1 (fldD [(c, 0)]) (mVar 0)) (m1 (fldD [(c, 1)]) (mVar 1))) (m2 mulD (m1 (fldD [(c, 0)]) (mVar 1)) (m1 (fldD [(c, 1)]) (mVar 0)))) (consM (m2 mulD (m1 (fldD [(c, 1)]) (mVar 0)) (m1 (fldD [(c, 1)]) (mVar 1))) (retM [])))))))
theorem radd_ok {c e k m : Nat} {tb tbR : List (Nat × Bool)} {p q : Int × Int} (h1 : tb.lookup c = some false) (h2 : tbR.lookup c = some true) (hp : Lo k p) (hq : Lo m q) (hk : k + m ≤ 8000) (s : Pen) : pkRAdd c e tb tbR [rat c p, rat c q] s = .ok (rat c (ladd p q), s) := by
  unfold pkRAdd
  refine runF_W (env := [.d (rat c p), .d (rat c q)]) rfl ?_
  have e1 := pkInt_ok (d := rat c q) h1 s
  have e2 : isIntD (rat c q) = false := rfl
  have e3 : isiD false false false false false false tbR (rat c q) = some (.bl true) := by unfold rat; simp only [isiD, h2, Option.map_some]
  have m1' := mulD_ok (mulOk_small hp.b1 hq.b2 (by omega))
  have m2' := mulD_ok (mulOk_small hq.b1 hp.b2 (by omega))
  have m3' := mulD_ok (mulOk_small hp.b2 hq.b2 (by omega))
  have ps := mul_small hp.b2 hq.b2
  have pp := Int.mul_pos hp.pos hq.pos
  have mk := rmake_ok (c := c) (e := e) (tb := tb) (a := p.1 * q.2 + q.1 * p.2) (b := p.2 * q.2) (by omega) (Nat.lt_of_lt_of_le ps (Nat.pow_le_pow_right (by decide) hk)) s
  refine W.step (by simp only [ev_m1, ev_m2, ev_consM, ev_callM, ev_callF, ev_truM, ev_andT, ev_orT, ev_notT, ev_andV, ev_orV, ev_notV, ev_ifM, ev_tupM, ev_lstM, ev_partM, ev_parS, ev_par3S, ev_parOS, ev_asgS, ev_setS, ev_retS, ev_exprS, ev_ifS, ev_ownS, ev_raiseS, ev_makeF, ev_methF, ev_chT, ev_itM, ev_itA, ev_sliceM, ev_selfS, ev_penGet, ev_penPut, ev_mStr1, ev_thenS, ev_bindM, ev_retM, ev_optM, ev_mVar, ev_nextS, frzS, ev_yesM, List.append_nil, List.cons_append, List.nil_append, List.length_cons, List.length_nil, Nat.zero_add, Nat.reduceAdd, reduceIte, addD, subD, ltD, gtD, geD, leD, negD, DL.intD, absD, lenD, truD, DL.isNon, truB, strCD, extS, apS, DL.setAll, DL.assignT, List.getElem?_cons_succ, List.getElem?_cons_zero, List.set_cons_succ, List.set_cons_zero, if_true, Bool.false_eq_true, if_false, Bool.not_true, Bool.not_false, W_ok, W_exc, KS_nx, KS_rt, Bool.true_and, Bool.and_true, Bool.false_or, Bool.or_false, Bool.and_false, Bool.or_true, Bool.false_and, Bool.true_or, e1, e2] <;> rfl) ?_
  refine W.step (by simp only [ev_m1, ev_m2, ev_consM, ev_callM, ev_callF, ev_truM, ev_andT, ev_orT, ev_notT, ev_andV, ev_orV, ev_notV, ev_ifM, ev_tupM, ev_lstM, ev_partM, ev_parS, ev_par3S, ev_parOS, ev_asgS, ev_setS, ev_retS, ev_exprS, ev_ifS, ev_ownS, ev_raiseS, ev_makeF, ev_methF, ev_chT, ev_itM, ev_itA, ev_sliceM, ev_selfS, ev_penGet, ev_penPut, ev_mStr1, ev_thenS, ev_bindM, ev_retM, ev_optM, ev_mVar, ev_nextS, frzS, ev_yesM, List.append_nil, List.cons_append, List.nil_append, List.length_cons, List.length_nil, Nat.zero_add, Nat.reduceAdd, reduceIte, addD, subD, ltD, gtD, geD, leD, negD, DL.intD, absD, lenD, truD, DL.isNon, truB, strCD, extS, apS, DL.setAll, DL.assignT, List.getElem?_cons_succ, List.getElem?_cons_zero, List.set_cons_succ, List.set_cons_zero, if_true, Bool.false_eq_true, if_false, Bool.not_true, Bool.not_false, W_ok, W_exc, KS_nx, KS_rt, Bool.true_and, Bool.and_true, Bool.false_or, Bool.or_false, Bool.and_false, Bool.or_true, Bool.false_and, Bool.true_or, e3] <;> rfl) ?_
  simp only [ev_m1, ev_m2, ev_consM, ev_callM, ev_callF, ev_truM, ev_andT, ev_orT, ev_notT, ev_andV, ev_orV, ev_notV, ev_ifM, ev_tupM, ev_lstM, ev_partM, ev_parS, ev_par3S, ev_parOS, ev_asgS, ev_setS, ev_retS, ev_exprS, ev_ifS, ev_ownS, ev_raiseS, ev_makeF, ev_methF, ev_chT, ev_itM, ev_itA, ev_sliceM, ev_selfS, ev_penGet, ev_penPut, ev_mStr1, ev_thenS, ev_bindM, ev_retM, ev_optM, ev_mVar, ev_nextS, frzS, ev_yesM, List.append_nil, List.cons_append, List.nil_append, List.length_cons, List.length_nil, Nat.zero_add, Nat.reduceAdd, reduceIte, addD, subD, ltD, gtD, geD, leD, negD, DL.intD, absD, lenD, truD, DL.isNon, truB, strCD, extS, apS, DL.setAll, DL.assignT, List.getElem?_cons_succ, List.getElem?_cons_zero, List.set_cons_succ, List.set_cons_zero, if_true, Bool.false_eq_true, if_false, Bool.not_true, Bool.not_false, W_ok, W_exc, KS_nx, KS_rt, Bool.true_and, Bool.and_true, Bool.false_or, Bool.or_false, Bool.and_false, Bool.or_true, Bool.false_and, Bool.true_or, rat_top, rat_bot, m1', m2', m3', mk]
  rfl
def lxGcd : List D → Pen → R (D × Pen) Pen := runF 2
    (seqS (parS 0 1 (consM (callM absD (consM (mVar 0) (retM []))) (consM (callM absD (consM (mVar 1) (retM []))) (retM []))))
    (seqS (whileS gcdFuel (truM (m2 neD (mVar 1) (retM (.int 0)))) (parS 0 1 (consM (mVar 1) (consM (m2 modD (callM intD (consM (mVar 0) (retM []))) (mVar 1)) (retM [])))))
    (retS (mVar 0))))
theorem lxGcd_ok (a b : Int) (s : Pen) : lxGcd [.int a, .int b] s = .ok (.int ((Nat.gcd a.natAbs b.natAbs : Nat) : Int), s) := by
  unfold lxGcd
  refine runF_W (env := [.d (.int a), .d (.int b)]) rfl ?_
  refine W.step (by simp only [ev_m1, ev_m2, ev_consM, ev_callM, ev_callF, ev_truM, ev_andT, ev_orT, ev_notT, ev_andV, ev_orV, ev_notV, ev_ifM, ev_tupM, ev_lstM, ev_partM, ev_parS, ev_par3S, ev_parOS, ev_asgS, ev_setS, ev_retS, ev_exprS, ev_ifS, ev_ownS, ev_raiseS, ev_makeF, ev_methF, ev_chT, ev_itM, ev_itA, ev_sliceM, ev_selfS, ev_penGet, ev_penPut, ev_mStr1, ev_thenS, ev_bindM, ev_retM, ev_optM, ev_mVar, ev_nextS, frzS, ev_yesM, List.append_nil, List.cons_append, List.nil_append, List.length_cons, List.length_nil, Nat.zero_add, Nat.reduceAdd, reduceIte, addD, subD, ltD, gtD, geD, leD, negD, DL.intD, absD, lenD, truD, DL.isNon, truB, strCD, extS, apS, DL.setAll, DL.assignT, List.getElem?_cons_succ, List.getElem?_cons_zero, List.set_cons_succ, List.set_cons_zero, if_true, Bool.false_eq_true, if_false, Bool.not_true, Bool.not_false, W_ok, W_exc, KS_nx, KS_rt, Bool.true_and, Bool.and_true, Bool.false_or, Bool.or_false, Bool.and_false, Bool.or_true, Bool.false_and, Bool.true_or, abs_nat] <;> rfl) ?_
  refine W.seq (W.whileN (fun n env s' => s' = s ∧ ∃ x y : Nat, n = y ∧ env = [.d (.int x), .d (.int y)] ∧ Nat.gcd x y = Nat.gcd a.natAbs b.natAbs) ?_ _ b.natAbs _ _ (by show _ < ((b.natAbs : Int)).natAbs + 1; omega) ⟨rfl, _, _, rfl, rfl, rfl⟩)
  rintro n env s' ⟨hs', x, y, hn, he, hg⟩
  subst hs' hn he
  refine ⟨!((n : Int) == 0), s', by simp only [ev_m1, ev_m2, ev_consM, ev_callM, ev_callF, ev_truM, ev_andT, ev_orT, ev_notT, ev_andV, ev_orV, ev_notV, ev_ifM, ev_tupM, ev_lstM, ev_partM, ev_parS, ev_par3S, ev_parOS, ev_asgS, ev_setS, ev_retS, ev_exprS, ev_ifS, ev_ownS, ev_raiseS, ev_makeF, ev_methF, ev_chT, ev_itM, ev_itA, ev_sliceM, ev_selfS, ev_penGet, ev_penPut, ev_mStr1, ev_thenS, ev_bindM, ev_retM, ev_optM, ev_mVar, ev_nextS, frzS, ev_yesM, List.append_nil, List.cons_append, List.nil_append, List.length_cons, List.length_nil, Nat.zero_add, Nat.reduceAdd, reduceIte, addD, subD, ltD, gtD, geD, leD, negD, DL.intD, absD, lenD, truD, DL.isNon, truB, strCD, extS, apS, DL.setAll, DL.assignT, List.getElem?_cons_succ, List.getElem?_cons_zero, List.set_cons_succ, List.set_cons_zero, if_true, Bool.false_eq_true, if_false, Bool.not_true, Bool.not_false, neD_int], fun hb => ?_, fun hb => ?_⟩
  · have hy : n = 0 := by have : ((n : Int) == 0) = true := by simpa using hb
                          have := beq_iff_eq.mp this; omega
    subst hy
    rw [KS_nx]
    rw [Nat.gcd_zero_right] at hg
    simp only [ev_m1, ev_m2, ev_consM, ev_callM, ev_callF, ev_truM, ev_andT, ev_orT, ev_notT, ev_andV, ev_orV, ev_notV, ev_ifM, ev_tupM, ev_lstM, ev_partM, ev_parS, ev_par3S, ev_parOS, ev_asgS, ev_setS, ev_retS, ev_exprS, ev_ifS, ev_ownS, ev_raiseS, ev_makeF, ev_methF, ev_chT, ev_itM, ev_itA, ev_sliceM, ev_selfS, ev_penGet, ev_penPut, ev_mStr1, ev_thenS, ev_bindM, ev_retM, ev_optM, ev_mVar, ev_nextS, frzS, ev_yesM, List.append_nil, List.cons_append, List.nil_append, List.length_cons, List.length_nil, Nat.zero_add, Nat.reduceAdd, reduceIte, addD, subD, ltD, gtD, geD, leD, negD, DL.intD, absD, lenD, truD, DL.isNon, truB, strCD, extS, apS, DL.setAll, DL.assignT, List.getElem?_cons_succ, List.getElem?_cons_zero, List.set_cons_succ, List.set_cons_zero, if_true, Bool.false_eq_true, if_false, Bool.not_true, Bool.not_false, W_ok, W_exc, KS_nx, KS_rt, Bool.true_and, Bool.and_true, Bool.false_or, Bool.or_false, Bool.and_false, Bool.or_true, Bool.false_and, Bool.true_or, hg]
  · have hy : 0 < (n : Int) := by
      have : ((n : Int) == 0) = false := by simpa using hb
      have := beq_eq_false_iff_ne.mp this; omega
    have e2 : modD (.int (x : Int)) (.int (n : Int)) = some (.int ((x % n : Nat) : Int)) := by
      rw [modD_ok (by omega), Int.fmod_eq_emod_of_nonneg _ (by omega)]
      rfl
    simp only [ev_m1, ev_m2, ev_consM, ev_callM, ev_callF, ev_truM, ev_andT, ev_orT, ev_notT, ev_andV, ev_orV, ev_notV, ev_ifM, ev_tupM, ev_lstM, ev_partM, ev_parS, ev_par3S, ev_parOS, ev_asgS, ev_setS, ev_retS, ev_exprS, ev_ifS, ev_ownS, ev_raiseS, ev_makeF, ev_methF, ev_chT, ev_itM, ev_itA, ev_sliceM, ev_selfS, ev_penGet, ev_penPut, ev_mStr1, ev_thenS, ev_bindM, ev_retM, ev_optM, ev_mVar, ev_nextS, frzS, ev_yesM, List.append_nil, List.cons_append, List.nil_append, List.length_cons, List.length_nil, Nat.zero_add, Nat.reduceAdd, reduceIte, addD, subD, ltD, gtD, geD, leD, negD, DL.intD, absD, lenD, truD, DL.isNon, truB, strCD, extS, apS, DL.setAll, DL.assignT, List.getElem?_cons_succ, List.getElem?_cons_zero, List.set_cons_succ, List.set_cons_zero, if_true, Bool.false_eq_true, if_false, Bool.not_true, Bool.not_false, W_ok, W_exc, KS_nx, KS_rt, Bool.true_and, Bool.and_true, Bool.false_or, Bool.or_false, Bool.and_false, Bool.or_true, Bool.false_and, Bool.true_or, e2, KL_nx, true_and]
    exact ⟨x % n, Nat.mod_lt _ (by omega), n, x % n, rfl, rfl, by rw [Nat.gcd_comm n, ← Nat.gcd_rec, Nat.gcd_comm]; exact hg⟩
def lxF : List D → Pen → R (D × Pen) Pen := runF 4
    (seqS (setS 2 (callF 2 lxGcd [] (consM (mVar 0) (consM (mVar 1) (retM [])))))
    (seqS (setS 3 (ifM (truM (m2 gtD (mVar 1) (retM (.int 0)))) (retM (.int 1)) (m1 negD (retM (.int 1)))))
    (retS (tupM (consM (m2 fdivD (m2 mulD (mVar 3) (mVar 0)) (mVar 2)) (consM (m2 fdivD (m2 mulD (mVar 3) (mVar 1)) (mVar 2)) (retM [])))))))
theorem lxF_ok {a b : Int} {k : Nat} (hb : 0 < b) (ha : a.natAbs < 2 ^ k) (h : b.natAbs < 2 ^ k) (hk : k ≤ 8000) (s : Pen) : lxF [.int a, .int b] s = .ok (frac (low a b), s) := by
  have hp := gcd_pos (a := a) (b := b) (by omega)
  have h8 : b.natAbs < 2 ^ 8000 := Nat.lt_of_lt_of_le h (Nat.pow_le_pow_right (by decide) hk)
  have lg := lg_gcd (a := a) (b := b) (by omega) h8
  unfold lxF
  refine runF_W (env := [.d (.int a), .d (.int b), .no, .no]) rfl ?_
  refine W.step (by simp only [ev_m1, ev_m2, ev_consM, ev_callM, ev_callF, ev_truM, ev_andT, ev_orT, ev_notT, ev_andV, ev_orV, ev_notV, ev_ifM, ev_tupM, ev_lstM, ev_partM, ev_parS, ev_par3S, ev_parOS, ev_asgS, ev_setS, ev_retS, ev_exprS, ev_ifS, ev_ownS, ev_raiseS, ev_makeF, ev_methF, ev_chT, ev_itM, ev_itA, ev_sliceM, ev_selfS, ev_penGet, ev_penPut, ev_mStr1, ev_thenS, ev_bindM, ev_retM, ev_optM, ev_mVar, ev_nextS, frzS, ev_yesM, List.append_nil, List.cons_append, List.nil_append, List.length_cons, List.length_nil, Nat.zero_add, Nat.reduceAdd, reduceIte, addD, subD, ltD, gtD, geD, leD, negD, DL.intD, absD, lenD, truD, DL.isNon, truB, strCD, extS, apS, DL.setAll, DL.assignT, List.getElem?_cons_succ, List.getElem?_cons_zero, List.set_cons_succ, List.set_cons_zero, if_true, Bool.false_eq_true, if_false, Bool.not_true, Bool.not_false, W_ok, W_exc, KS_nx, KS_rt, Bool.true_and, Bool.and_true, Bool.false_or, Bool.or_false, Bool.and_false, Bool.or_true, Bool.false_and, Bool.true_or, lxGcd_ok] <;> rfl) ?_
  have d1 : ∀ i, fdivD (.int i) (.int ((Nat.gcd a.natAbs b.natAbs : Nat) : Int)) = some (.int (i.fdiv ((Nat.gcd a.natAbs b.natAbs : Nat) : Int))) := fun i => fdivD_ok (by omega) lg
  have o1 : (1 : Int).natAbs < 2 ^ 1 := by decide
  have m1' := mulD_ok (mulOk_small o1 ha (by omega))
  have m2' := mulD_ok (mulOk_small o1 h (by omega))
  rw [Int.one_mul] at m1' m2'
  refine W.step (by simp only [ev_m1, ev_m2, ev_consM, ev_callM, ev_callF, ev_truM, ev_andT, ev_orT, ev_notT, ev_andV, ev_orV, ev_notV, ev_ifM, ev_tupM, ev_lstM, ev_partM, ev_parS, ev_par3S, ev_parOS, ev_asgS, ev_setS, ev_retS, ev_exprS, ev_ifS, ev_ownS, ev_raiseS, ev_makeF, ev_methF, ev_chT, ev_itM, ev_itA, ev_sliceM, ev_selfS, ev_penGet, ev_penPut, ev_mStr1, ev_thenS, ev_bindM, ev_retM, ev_optM, ev_mVar, ev_nextS, frzS, ev_yesM, List.append_nil, List.cons_append, List.nil_append, List.length_cons, List.length_nil, Nat.zero_add, Nat.reduceAdd, reduceIte, addD, subD, ltD, gtD, geD, leD, negD, DL.intD, absD, lenD, truD, DL.isNon, truB, strCD, extS, apS, DL.setAll, DL.assignT, List.getElem?_cons_succ, List.getElem?_cons_zero, List.set_cons_succ, List.set_cons_zero, if_true, Bool.false_eq_true, if_false, Bool.not_true, Bool.not_false, W_ok, W_exc, KS_nx, KS_rt, Bool.true_and, Bool.and_true, Bool.false_or, Bool.or_false, Bool.and_false, Bool.or_true, Bool.false_and, Bool.true_or, decide_eq_true hb] <;> rfl) ?_
  simp only [ev_m1, ev_m2, ev_consM, ev_callM, ev_callF, ev_truM, ev_andT, ev_orT, ev_notT, ev_andV, ev_orV, ev_notV, ev_ifM, ev_tupM, ev_lstM, ev_partM, ev_parS, ev_par3S, ev_parOS, ev_asgS, ev_setS, ev_retS, ev_exprS, ev_ifS, ev_ownS, ev_raiseS, ev_makeF, ev_methF, ev_chT, ev_itM, ev_itA, ev_sliceM, ev_selfS, ev_penGet, ev_penPut, ev_mStr1, ev_thenS, ev_bindM, ev_retM, ev_optM, ev_mVar, ev_nextS, frzS, ev_yesM, List.append_nil, List.cons_append, List.nil_append, List.length_cons, List.length_nil, Nat.zero_add, Nat.reduceAdd, reduceIte, addD, subD, ltD, gtD, geD, leD, negD, DL.intD, absD, lenD, truD, DL.isNon, truB, strCD, extS, apS, DL.setAll, DL.assignT, List.getElem?_cons_succ, List.getElem?_cons_zero, List.set_cons_succ, List.set_cons_zero, if_true, Bool.false_eq_true, if_false, Bool.not_true, Bool.not_false, W_ok, W_exc, KS_nx, KS_rt, Bool.true_and, Bool.and_true, Bool.false_or, Bool.or_false, Bool.and_false, Bool.or_true, Bool.false_and, Bool.true_or, m1', m2', d1, tupD, frac, low, if_pos hb, Nat.reduceLeDiff]
def lxAdd : List D → Pen → R (D × Pen) Pen := runF 2
    (retS (callF 2 lxF [] (consM (m2 addD (m2 mulD (m2 ixD (mVar 0) (retM (.int 0))) (m2 ixD (mVar 1) (retM (.int 1)))) (m2 mulD (m2 ixD (mVar 1) (retM (.int 0))) (m2 ixD (mVar 0) (retM (.int 1))))) (consM (m2 mulD (m2 ixD (mVar 0) (retM (.int 1))) (m2 ixD (mVar 1) (retM (.int 1)))) (retM [])))))
theorem lxAdd_ok {k m : Nat} {p q : Int × Int} (hp : Lo k p) (hq : Lo m q) (hk : k + m + 1 ≤ 8000) (s : Pen) : lxAdd [frac p, frac q] s = .ok (frac (ladd p q), s) := by
  unfold lxAdd
  refine runF_W (env := [.d (frac p), .d (frac q)]) rfl ?_
  have m1' := mulD_ok (mulOk_small hp.b1 hq.b2 (by omega))
  have m2' := mulD_ok (mulOk_small hq.b1 hp.b2 (by omega))
  have m3' := mulD_ok (mulOk_small hp.b2 hq.b2 (by omega))
  have mk := lxF_ok (a := p.1 * q.2 + q.1 * p.2) (b := p.2 * q.2) (k := k + m + 1) (Int.mul_pos hp.pos hq.pos) (add_small (mul_small hp.b1 hq.b2) (by rw [Nat.add_comm]; exact mul_small hq.b1 hp.b2)) (Nat.lt_of_lt_of_le (mul_small hp.b2 hq.b2) (Nat.pow_le_pow_right (by decide) (by omega))) hk s
  simp only [ev_m1, ev_m2, ev_consM, ev_callM, ev_callF, ev_truM, ev_andT, ev_orT, ev_notT, ev_andV, ev_orV, ev_notV, ev_ifM, ev_tupM, ev_lstM, ev_partM, ev_parS, ev_par3S, ev_parOS, ev_asgS, ev_setS, ev_retS, ev_exprS, ev_ifS, ev_ownS, ev_raiseS, ev_makeF, ev_methF, ev_chT, ev_itM, ev_itA, ev_sliceM, ev_selfS, ev_penGet, ev_penPut, ev_mStr1, ev_thenS, ev_bindM, ev_retM, ev_optM, ev_mVar, ev_nextS, frzS, ev_yesM, List.append_nil, List.cons_append, List.nil_append, List.length_cons, List.length_nil, Nat.zero_add, Nat.reduceAdd, reduceIte, addD, subD, ltD, gtD, geD, leD, negD, DL.intD, absD, lenD, truD, DL.isNon, truB, strCD, extS, apS, DL.setAll, DL.assignT, List.getElem?_cons_succ, List.getElem?_cons_zero, List.set_cons_succ, List.set_cons_zero, if_true, Bool.false_eq_true, if_false, Bool.not_true, Bool.not_false, W_ok, W_exc, KS_nx, KS_rt, Bool.true_and, Bool.and_true, Bool.false_or, Bool.or_false, Bool.and_false, Bool.or_true, Bool.false_and, Bool.true_or, frac0, frac1, m1', m2', m3', mk]
  rfl
def lxMul : List D → Pen → R (D × Pen) Pen := runF 2
    (retS (callF 2 lxF [] (consM (m2 mulD (m2 ixD (mVar 0) (retM (.int 0))) (m2 ixD (mVar 1) (retM (.int 0)))) (consM (m2 mulD (m2 ixD (mVar 0) (retM (.int 1))) (m2 ixD (mVar 1) (retM (.int 1)))) (retM [])))))
theorem lxMul_ok {k m : Nat} {p q : Int × Int} (hp : Lo k p) (hq : Lo m q) (hk : k + m ≤ 8000) (s : Pen) : lxMul [frac p, frac q] s = .ok (frac (lmul p q), s) := by
  unfold lxMul
  refine runF_W (env := [.d (frac p), .d (frac q)]) rfl ?_
  have m1' := mulD_ok (mulOk_small hp.b1 hq.b1 (by omega))
  have m2' := mulD_ok (mulOk_small hp.b2 hq.b2 (by omega))
  have mk := lxF_ok (a := p.1 * q.1) (b := p.2 * q.2) (Int.mul_pos hp.pos hq.pos) (mul_small hp.b1 hq.b1) (mul_small hp.b2 hq.b2) hk s
  simp only [ev_m1, ev_m2, ev_consM, ev_callM, ev_callF, ev_truM, ev_andT, ev_orT, ev_notT, ev_andV, ev_orV, ev_notV, ev_ifM, ev_tupM, ev_lstM, ev_partM, ev_parS, ev_par3S, ev_parOS, ev_asgS, ev_setS, ev_retS, ev_exprS, ev_ifS, ev_ownS, ev_raiseS, ev_makeF, ev_methF, ev_chT, ev_itM, ev_itA, ev_sliceM, ev_selfS, ev_penGet, ev_penPut, ev_mStr1, ev_thenS, ev_bindM, ev_retM, ev_optM, ev_mVar, ev_nextS, frzS, ev_yesM, List.append_nil, List.cons_append, List.nil_append, List.length_cons, List.length_nil, Nat.zero_add, Nat.reduceAdd, reduceIte, addD, subD, ltD, gtD, geD, leD, negD, DL.intD, absD, lenD, truD, DL.isNon, truB, strCD, extS, apS, DL.setAll, DL.assignT, List.getElem?_cons_succ, List.getElem?_cons_zero, List.set_cons_succ, List.set_cons_zero, if_true, Bool.false_eq_true, if_false, Bool.not_true, Bool.not_false, W_ok, W_exc, KS_nx, KS_rt, Bool.true_and, Bool.and_true, Bool.false_or, Bool.or_false, Bool.and_false, Bool.or_true, Bool.false_and, Bool.true_or, frac0, frac1, m1', m2', mk]
  rfl
/-- a sum of fractions, from the left -/
def lsum (xs : List (Int × Int)) : Int × Int := xs.foldl ladd (0, 1)
theorem lo01 : Lo 1 (0, 1) := ⟨by decide, rfl, by decide, by decide⟩
theorem Lo.sum {k : Nat} : ∀ (xs : List (Int × Int)) (a : Int × Int) (j : Nat), Lo j a → (∀ x ∈ xs, Lo k x) → Lo (j + (k + 1) * xs.length) (xs.foldl ladd a)
  | [], a, j, h, _ => h
  | x :: xs, a, j, h, hx => by
    have h1 := Lo.sum (k := k) xs (ladd a x) (j + k + 1) (h.add (hx x (List.mem_cons_self ..))) fun y hy => hx y (List.mem_cons_of_mem _ hy)
    refine h1.mono ?_
    rw [List.length_cons, Nat.mul_succ]; omega
def lxSum : List D → Pen → R (D × Pen) Pen := runF 3
    (seqS (setS 1 (tupM (consM (retM (.int 0)) (consM (retM (.int 1)) (retM [])))))
    (seqS (forS (.nm 2) (itM seqOf (mVar 0)) (setS 1 (callF 2 lxAdd [] (consM (mVar 1) (consM (mVar 2) (retM []))))))
    (retS (mVar 1))))
theorem lxSum_ok {k : Nat} {xs : List (Int × Int)} (hx : ∀ x ∈ xs, Lo k x) (hk : 1 + (k + 1) * xs.length ≤ 7000) (h8 : k < 900) (b : Bool) (s : Pen) : lxSum [rowD b (xs.map frac)] s = .ok (frac (lsum xs), s) := by
  unfold lxSum
  refine runF_W (env := [.d (rowD b (xs.map frac)), .no, .no]) rfl ?_
  refine W.step (by simp only [ev_m1, ev_m2, ev_consM, ev_callM, ev_callF, ev_truM, ev_andT, ev_orT, ev_notT, ev_andV, ev_orV, ev_notV, ev_ifM, ev_tupM, ev_lstM, ev_partM, ev_parS, ev_par3S, ev_parOS, ev_asgS, ev_setS, ev_retS, ev_exprS, ev_ifS, ev_ownS, ev_raiseS, ev_makeF, ev_methF, ev_chT, ev_itM, ev_itA, ev_sliceM, ev_selfS, ev_penGet, ev_penPut, ev_mStr1, ev_thenS, ev_bindM, ev_retM, ev_optM, ev_mVar, ev_nextS, frzS, ev_yesM, List.append_nil, List.cons_append, List.nil_append, List.length_cons, List.length_nil, Nat.zero_add, Nat.reduceAdd, reduceIte, addD, subD, ltD, gtD, geD, leD, negD, DL.intD, absD, lenD, truD, DL.isNon, truB, strCD, extS, apS, DL.setAll, DL.assignT, List.getElem?_cons_succ, List.getElem?_cons_zero, List.set_cons_succ, List.set_cons_zero, if_true, Bool.false_eq_true, if_false, Bool.not_true, Bool.not_false, W_ok, W_exc, KS_nx, KS_rt, Bool.true_and, Bool.and_true, Bool.false_or, Bool.or_false, Bool.and_false, Bool.or_true, Bool.false_and, Bool.true_or, tupD, Nat.reduceLeDiff] <;> rfl) ?_
  refine W.seq (W.forT frac (xs := xs) (s1 := s) (by simp only [ev_m1, ev_m2, ev_consM, ev_callM, ev_callF, ev_truM, ev_andT, ev_orT, ev_notT, ev_andV, ev_orV, ev_notV, ev_ifM, ev_tupM, ev_lstM, ev_partM, ev_parS, ev_par3S, ev_parOS, ev_asgS, ev_setS, ev_retS, ev_exprS, ev_ifS, ev_ownS, ev_raiseS, ev_makeF, ev_methF, ev_chT, ev_itM, ev_itA, ev_sliceM, ev_selfS, ev_penGet, ev_penPut, ev_mStr1, ev_thenS, ev_bindM, ev_retM, ev_optM, ev_mVar, ev_nextS, frzS, ev_yesM, List.append_nil, List.cons_append, List.nil_append, List.length_cons, List.length_nil, Nat.zero_add, Nat.reduceAdd, reduceIte, addD, subD, ltD, gtD, geD, leD, negD, DL.intD, absD, lenD, truD, DL.isNon, truB, strCD, extS, apS, DL.setAll, DL.assignT, List.getElem?_cons_succ, List.getElem?_cons_zero, List.set_cons_succ, List.set_cons_zero, if_true, Bool.false_eq_true, if_false, Bool.not_true, Bool.not_false, rowD_seq]) (fun r env s' => s' = s ∧ ∃ l x2, xs = l ++ r ∧ env = [.d (rowD b (xs.map frac)), .d (frac (lsum l)), x2]) ⟨rfl, [], _, rfl, rfl⟩ ?_ ?_)
  · rintro x r env s' ⟨hs', l, x2, h1, he⟩
    subst hs'; subst he
    have hl : (k + 1) * l.length ≤ (k + 1) * xs.length := Nat.mul_le_mul_left _ (by rw [h1]; simp)
    have lo := Lo.sum (k := k) l (0, 1) 1 lo01 fun y hy => hx y (by rw [h1]; simp [hy])
    have ea := lxAdd_ok lo (hx x (by rw [h1]; simp)) (by omega) s'
    refine ⟨_, rfl, ?_⟩
    simp only [ev_m1, ev_m2, ev_consM, ev_callM, ev_callF, ev_truM, ev_andT, ev_orT, ev_notT, ev_andV, ev_orV, ev_notV, ev_ifM, ev_tupM, ev_lstM, ev_partM, ev_parS, ev_par3S, ev_parOS, ev_asgS, ev_setS, ev_retS, ev_exprS, ev_ifS, ev_ownS, ev_raiseS, ev_makeF, ev_methF, ev_chT, ev_itM, ev_itA, ev_sliceM, ev_selfS, ev_penGet, ev_penPut, ev_mStr1, ev_thenS, ev_bindM, ev_retM, ev_optM, ev_mVar, ev_nextS, frzS, ev_yesM, List.append_nil, List.cons_append, List.nil_append, List.length_cons, List.length_nil, Nat.zero_add, Nat.reduceAdd, reduceIte, addD, subD, ltD, gtD, geD, leD, negD, DL.intD, absD, lenD, truD, DL.isNon, truB, strCD, extS, apS, DL.setAll, DL.assignT, List.getElem?_cons_succ, List.getElem?_cons_zero, List.set_cons_succ, List.set_cons_zero, if_true, Bool.false_eq_true, if_false, Bool.not_true, Bool.not_false, W_ok, W_exc, KS_nx, KS_rt, Bool.true_and, Bool.and_true, Bool.false_or, Bool.or_false, Bool.and_false, Bool.or_true, Bool.false_and, Bool.true_or, show lsum l = l.foldl ladd (0, 1) from rfl, ea, KL_nx, true_and]
    exact ⟨l ++ [x], _, by rw [h1]; simp, by rw [lsum, List.foldl_append]; rfl⟩
  · rintro env s' ⟨hs', l, x2, h1, he⟩
    subst hs'; subst he
    rw [List.append_nil] at h1
    subst h1
    rw [KS_nx]
    simp only [ev_m1, ev_m2, ev_consM, ev_callM, ev_callF, ev_truM, ev_andT, ev_orT, ev_notT, ev_andV, ev_orV, ev_notV, ev_ifM, ev_tupM, ev_lstM, ev_partM, ev_parS, ev_par3S, ev_parOS, ev_asgS, ev_setS, ev_retS, ev_exprS, ev_ifS, ev_ownS, ev_raiseS, ev_makeF, ev_methF, ev_chT, ev_itM, ev_itA, ev_sliceM, ev_selfS, ev_penGet, ev_penPut, ev_mStr1, ev_thenS, ev_bindM, ev_retM, ev_optM, ev_mVar, ev_nextS, frzS, ev_yesM, List.append_nil, List.cons_append, List.nil_append, List.length_cons, List.length_nil, Nat.zero_add, Nat.reduceAdd, reduceIte, addD, subD, ltD, gtD, geD, leD, negD, DL.intD, absD, lenD, truD, DL.isNon, truB, strCD, extS, apS, DL.setAll, DL.assignT, List.getElem?_cons_succ, List.getElem?_cons_zero, List.set_cons_succ, List.set_cons_zero, if_true, Bool.false_eq_true, if_false, Bool.not_true, Bool.not_false, W_ok, W_exc, KS_nx, KS_rt, Bool.true_and, Bool.and_true, Bool.false_or, Bool.or_false, Bool.and_false, Bool.or_true, Bool.false_and, Bool.true_or]
theorem zipL_map {α β : Type} (f : α → D) (g : β → D) : ∀ (l : List α) (r : List β), zipL (l.map f) (r.map g) = (l.zip r).map fun x => .tup [f x.1, g x.2]
  | [], _ => rfl
  | _ :: _, [] => rfl
  | a :: l, b :: r => by
    show D.tup [f a, g b] :: zipL (l.map f) (r.map g) = _
    rw [zipL_map f g l r]; rfl
def lxTotal : List D → Pen → R (D × Pen) Pen := runF 4
    (retS (callF 1 lxSum [] (consM (lcM (.tp [2, 3]) (itA zipOf (consM (mVar 1) (consM (mVar 0) (retM [])))) yesM (callF 2 lxMul [] (consM (mVar 2) (consM (mVar 3) (retM [])))) [2, 3]) (retM []))))
/-- the sum of the products -/
def ltot (ps rs : List (Int × Int)) : Int × Int := lsum ((ps.zip rs).map fun x => lmul x.1 x.2)
theorem lxTotal_ok {k : Nat} {ps rs : List (Int × Int)} (hp : ∀ x ∈ ps, Lo k x) (hr : ∀ x ∈ rs, Lo k x) (hk : 1 + (k + k + 1) * ps.length ≤ 7000) (h8 : k < 400) (s : Pen) : lxTotal [.lst (rs.map frac), .lst (ps.map frac)] s = .ok (frac (ltot ps rs), s) := by
  unfold lxTotal
  refine runF_W (env := [.d (.lst (rs.map frac)), .d (.lst (ps.map frac)), .no, .no]) rfl ?_
  have hz : ∀ x ∈ ps.zip rs, Lo k x.1 ∧ Lo k x.2 := fun x hx => ⟨hp _ (List.of_mem_zip hx).1, hr _ (List.of_mem_zip hx).2⟩
  have hl : (ps.zip rs).length ≤ ps.length := by rw [List.length_zip]; exact Nat.min_le_left _ _
  have hl2 : ps.length ≤ 7000 := by
    have := Nat.le_mul_of_pos_left ps.length (show 0 < k + k + 1 by omega)
    omega
  have l1 := lc_map (mi := (itA zipOf (consM (mVar 1) (consM (mVar 0) (retM []))) : M Pen (List D))) (mt := (yesM : M Pen Bool)) (me := callF 2 lxMul [] (consM (mVar 2) (consM (mVar 3) (retM [])))) (g := .tp [2, 3]) (vs := [2, 3]) (env := [.d (.lst (rs.map frac)), .d (.lst (ps.map frac)), .no, .no]) (s := s) (s1 := s) (xs := ps.zip rs) (fun x => .tup [frac x.1, frac x.2]) (by simp only [ev_m1, ev_m2, ev_consM, ev_callM, ev_callF, ev_truM, ev_andT, ev_orT, ev_notT, ev_andV, ev_orV, ev_notV, ev_ifM, ev_tupM, ev_lstM, ev_partM, ev_parS, ev_par3S, ev_parOS, ev_asgS, ev_setS, ev_retS, ev_exprS, ev_ifS, ev_ownS, ev_raiseS, ev_makeF, ev_methF, ev_chT, ev_itM, ev_itA, ev_sliceM, ev_selfS, ev_penGet, ev_penPut, ev_mStr1, ev_thenS, ev_bindM, ev_retM, ev_optM, ev_mVar, ev_nextS, frzS, ev_yesM, List.append_nil, List.cons_append, List.nil_append, List.length_cons, List.length_nil, Nat.zero_add, Nat.reduceAdd, reduceIte, addD, subD, ltD, gtD, geD, leD, negD, DL.intD, absD, lenD, truD, DL.isNon, truB, strCD, extS, apS, DL.setAll, DL.assignT, List.getElem?_cons_succ, List.getElem?_cons_zero, List.set_cons_succ, List.set_cons_zero, if_true, Bool.false_eq_true, if_false, Bool.not_true, Bool.not_false, zipOf, zipL_map]) rfl (fun _ => true) (fun x => frac (lmul x.1 x.2)) (by omega) fun x hx => ⟨_, rfl, rfl, fun _ => by simp only [ev_m1, ev_m2, ev_consM, ev_callM, ev_callF, ev_truM, ev_andT, ev_orT, ev_notT, ev_andV, ev_orV, ev_notV, ev_ifM, ev_tupM, ev_lstM, ev_partM, ev_parS, ev_par3S, ev_parOS, ev_asgS, ev_setS, ev_retS, ev_exprS, ev_ifS, ev_ownS, ev_raiseS, ev_makeF, ev_methF, ev_chT, ev_itM, ev_itA, ev_sliceM, ev_selfS, ev_penGet, ev_penPut, ev_mStr1, ev_thenS, ev_bindM, ev_retM, ev_optM, ev_mVar, ev_nextS, frzS, ev_yesM, List.append_nil, List.cons_append, List.nil_append, List.length_cons, List.length_nil, Nat.zero_add, Nat.reduceAdd, reduceIte, addD, subD, ltD, gtD, geD, leD, negD, DL.intD, absD, lenD, truD, DL.isNon, truB, strCD, extS, apS, DL.setAll, DL.assignT, List.getElem?_cons_succ, List.getElem?_cons_zero, List.set_cons_succ, List.set_cons_zero, if_true, Bool.false_eq_true, if_false, Bool.not_true, Bool.not_false, wipeE, lxMul_ok (hz x hx).1 (hz x hx).2 (by omega)]⟩
  rw [filter_yes] at l1
  have hm : 1 + (k + k + 1) * ((ps.zip rs).map fun x => lmul x.1 x.2).length ≤ 7000 := by
    rw [List.length_map]
    have := Nat.mul_le_mul_left (k + k + 1) hl
    omega
  have e2 := lxSum_ok (k := k + k) (xs := (ps.zip rs).map fun x => lmul x.1 x.2) (fun x hx => by
    obtain ⟨z, hz', rfl⟩ := List.mem_map.mp hx
    exact (hz z hz').1.mul (hz z hz').2) hm (by omega) true s
  rw [List.map_map] at e2
  have e2 : lxSum [.lst ((ps.zip rs).map fun x => frac (lmul x.1 x.2))] s = .ok (frac (ltot ps rs), s) := e2
  simp only [ev_m1, ev_m2, ev_consM, ev_callM, ev_callF, ev_truM, ev_andT, ev_orT, ev_notT, ev_andV, ev_orV, ev_notV, ev_ifM, ev_tupM, ev_lstM, ev_partM, ev_parS, ev_par3S, ev_parOS, ev_asgS, ev_setS, ev_retS, ev_exprS, ev_ifS, ev_ownS, ev_raiseS, ev_makeF, ev_methF, ev_chT, ev_itM, ev_itA, ev_sliceM, ev_selfS, ev_penGet, ev_penPut, ev_mStr1, ev_thenS, ev_bindM, ev_retM, ev_optM, ev_mVar, ev_nextS, frzS, ev_yesM, List.append_nil, List.cons_append, List.nil_append, List.length_cons, List.length_nil, Nat.zero_add, Nat.reduceAdd, reduceIte, addD, subD, ltD, gtD, geD, leD, negD, DL.intD, absD, lenD, truD, DL.isNon, truB, strCD, extS, apS, DL.setAll, DL.assignT, List.getElem?_cons_succ, List.getElem?_cons_zero, List.set_cons_succ, List.set_cons_zero, if_true, Bool.false_eq_true, if_false, Bool.not_true, Bool.not_false, W_ok, W_exc, KS_nx, KS_rt, Bool.true_and, Bool.and_true, Bool.false_or, Bool.or_false, Bool.and_false, Bool.or_true, Bool.false_and, Bool.true_or, l1, e2]
end DL
set_option Elab.async false
set_option linter.all false
set_option maxRecDepth 100000
set_option maxHeartbeats 1000000
namespace DL
open PySem PySem.Spec PyProof.Rows L2
/-- no object, no pen -/
def plainI : D → Bool
  | .obj _ _ => false
  | .st => false
  | _ => true
theorem plainI_tb {d : D} {tb : List (Nat × Bool)} (h : plainI d = true) : tbOk tb d := by
  cases d <;> first | trivial | cases h
theorem isi_own {d : D} {tb : List (Nat × Bool)} (h : plainI d = true) : isiD false false false false false false tb d = some (.bl false) := by
  cases d <;> first | rfl | cases h
theorem all_map {α : Type} (f : α → Bool) (xs : List α) : allD [.lst (xs.map fun x => D.bl (f x))] = some (.bl (xs.all f)) := by
  show (blsD (xs.map fun x => D.bl (f x))).map _ = _
  rw [bls_map f xs, Option.map_some, List.all_map]
  rfl
def pkNumH (tb tbR : List (Nat × Bool)) : List D → Pen → R (D × Pen) Pen := runF 1 (retS (orV (m1 (isiD false false false false false false tbR) (mVar 0)) (callF 1 (pkInt tb) [] (consM (mVar 0) (retM [])))))
theorem pkNumH_plain {tb tbR : List (Nat × Bool)} {d : D} (h : plainI d = true) (s : Pen) : pkNumH tb tbR [d] s = .ok (.bl (isIntD d), s) := by
  refine runF_rt (env := [.d d]) rfl ?_
  simp only [callF, List.append_nil, List.cons_append, List.nil_append, List.length_cons, List.length_nil, Nat.zero_add, Nat.reduceAdd, reduceIte, seqS, setS, retS, exprS, nextS, ifS, thenS, DL.bindM, retM, optM, m1, m2, mVar, consM, callM, truM, andT, orT, notT, andV, orV, notV, ifM, penGet, penPut, parS, asgS, tupM, lstM, partM, addD, subD, ltD, gtD, geD, leD, negD, DL.intD, absD, lenD, truD, isNon, strCD, List.getElem?_cons_succ, List.getElem?_cons_zero, List.set_cons_succ, List.set_cons_zero, if_true, Bool.false_eq_true, if_false, Bool.not_true, Bool.not_false, isi_own h, pkInt_ok (plainI_tb h)]
theorem pkNumH_rat {tb tbR : List (Nat × Bool)} {c : Nat} {p : Int × Int} (h2 : tbR.lookup c = some true) (s : Pen) : pkNumH tb tbR [rat c p] s = .ok (.bl true, s) := by
  refine runF_rt (env := [.d (rat c p)]) rfl ?_
  have e2 : isiD false false false false false false tbR (rat c p) = some (.bl true) := by unfold rat; simp only [isiD, h2, Option.map_some]
  simp only [callF, List.append_nil, List.cons_append, List.nil_append, List.length_cons, List.length_nil, Nat.zero_add, Nat.reduceAdd, reduceIte, seqS, setS, retS, exprS, nextS, ifS, thenS, DL.bindM, retM, optM, m1, m2, mVar, consM, callM, truM, andT, orT, notT, andV, orV, notV, ifM, penGet, penPut, parS, asgS, tupM, lstM, partM, addD, subD, ltD, gtD, geD, leD, negD, DL.intD, absD, lenD, truD, isNon, strCD, List.getElem?_cons_succ, List.getElem?_cons_zero, List.set_cons_succ, List.set_cons_zero, if_true, Bool.false_eq_true, if_false, Bool.not_true, Bool.not_false, e2]
theorem gv_numH {c : Nat} {tb tbR : List (Nat × Bool)} (h2 : tbR.lookup c = some true) (g : (Int × Int) × Bool) (s : Pen) : pkNumH tb tbR [gv c g] s = .ok (.bl true, s) := by
  unfold gv
  split
  · exact pkNumH_plain (d := .int g.1.1) rfl s
  · exact pkNumH_rat h2 s
def pkRatioOf (c e ei : Nat) (tb tbR : List (Nat × Bool)) : List D → Pen → R (D × Pen) Pen := runF 1
    (seqS (ifS (notT (truM (callF 1 (pkNum tb tbR) [] (consM (mVar 0) (retM []))))) (raiseS ei 1 (consM (mVar 0) (retM []))) nextS)
    (retS (callF 1 (pkPlain c e tb) [] (consM (mVar 0) (retM [])))))
theorem ratioOf_gv {c e ei : Nat} {tb tbR : List (Nat × Bool)} (h1 : tb.lookup c = some false) (h2 : tbR.lookup c = some true) (g : (Int × Int) × Bool) (hg : g.2 = true → g.1.2 = 1) (s : Pen) : pkRatioOf c e ei tb tbR [gv c g] s = .ok (rat c g.1, s) := by
  unfold pkRatioOf
  refine runF_W (env := [.d (gv c g)]) rfl ?_
  refine W.step (by simp only [ev_m1, ev_m2, ev_consM, ev_callM, ev_callF, ev_truM, ev_andT, ev_orT, ev_notT, ev_andV, ev_orV, ev_notV, ev_ifM, ev_tupM, ev_lstM, ev_partM, ev_parS, ev_par3S, ev_parOS, ev_asgS, ev_setS, ev_retS, ev_exprS, ev_ifS, ev_ownS, ev_raiseS, ev_makeF, ev_methF, ev_chT, ev_itM, ev_itA, ev_sliceM, ev_selfS, ev_penGet, ev_penPut, ev_mStr1, ev_thenS, ev_bindM, ev_retM, ev_optM, ev_mVar, ev_nextS, frzS, ev_yesM, List.append_nil, List.cons_append, List.nil_append, List.length_cons, List.length_nil, Nat.zero_add, Nat.reduceAdd, reduceIte, addD, subD, ltD, gtD, geD, leD, negD, DL.intD, absD, lenD, truD, DL.isNon, truB, strCD, extS, apS, DL.setAll, DL.assignT, List.getElem?_cons_succ, List.getElem?_cons_zero, List.set_cons_succ, List.set_cons_zero, if_true, Bool.false_eq_true, if_false, Bool.not_true, Bool.not_false, W_ok, W_exc, KS_nx, KS_rt, Bool.true_and, Bool.and_true, Bool.false_or, Bool.or_false, Bool.and_false, Bool.or_true, Bool.false_and, Bool.true_or, gv_num h1 h2] <;> rfl) ?_
  simp only [ev_m1, ev_m2, ev_consM, ev_callM, ev_callF, ev_truM, ev_andT, ev_orT, ev_notT, ev_andV, ev_orV, ev_notV, ev_ifM, ev_tupM, ev_lstM, ev_partM, ev_parS, ev_par3S, ev_parOS, ev_asgS, ev_setS, ev_retS, ev_exprS, ev_ifS, ev_ownS, ev_raiseS, ev_makeF, ev_methF, ev_chT, ev_itM, ev_itA, ev_sliceM, ev_selfS, ev_penGet, ev_penPut, ev_mStr1, ev_thenS, ev_bindM, ev_retM, ev_optM, ev_mVar, ev_nextS, frzS, ev_yesM, List.append_nil, List.cons_append, List.nil_append, List.length_cons, List.length_nil, Nat.zero_add, Nat.reduceAdd, reduceIte, addD, subD, ltD, gtD, geD, leD, negD, DL.intD, absD, lenD, truD, DL.isNon, truB, strCD, extS, apS, DL.setAll, DL.assignT, List.getElem?_cons_succ, List.getElem?_cons_zero, List.set_cons_succ, List.set_cons_zero, if_true, Bool.false_eq_true, if_false, Bool.not_true, Bool.not_false, W_ok, W_exc, KS_nx, KS_rt, Bool.true_and, Bool.and_true, Bool.false_or, Bool.or_false, Bool.and_false, Bool.or_true, Bool.false_and, Bool.true_or, gv_plain h1 g hg]
def pkSums (c e er ei : Nat) (tb tbR : List (Nat × Bool)) : List D → Pen → R (D × Pen) Pen := runF 2
    (seqS (ifS (orT (notT (truM (callF 1 (pkRow tb) [] (consM (mVar 0) (retM []))))) (orT (notT (chT leD leD (retM (.int 1)) (callM lenD (consM (mVar 0) (retM []))) (m2 addD (retM (.int 12)) (retM (.int 1))))) (notT (truM (callM allD (consM (lcM (.nm 1) (itM seqOf (mVar 0)) yesM (callF 1 (pkNumH tb tbR) [] (consM (mVar 1) (retM []))) [1]) (retM []))))))) (raiseS er 1 (consM (mVar 0) (retM []))) nextS)
    (retS (callM tupleD (consM (lcM (.nm 1) (itM seqOf (mVar 0)) yesM (callF 1 (pkRatioOf c e ei tb tbR) [] (consM (mVar 1) (retM []))) [1]) (retM [])))))
theorem rowD_t {ds : List D} : rowD true ds = .lst ds := rfl
theorem rowD_f {ds : List D} : rowD false ds = .tup ds := rfl
theorem sums_ok {c e er ei k : Nat} {tb tbR : List (Nat × Bool)} (h1 : tb.lookup c = some false) (h2 : tbR.lookup c = some true) {gs : List ((Int × Int) × Bool)} (hg : Given k gs) (h0 : 1 ≤ gs.length) (hl : gs.length ≤ 13) (b : Bool) (s : Pen) :
    pkSums c e er ei tb tbR [rowD b (gs.map (gv c))] s = .ok (.tup (gs.map fun g => rat c g.1), s) := by
  unfold pkSums
  refine runF_W (env := [.d (rowD b (gs.map (gv c))), .no]) rfl ?_
  have r1 := pkRow_ok (rowD_tb (b := b) (ds := gs.map (gv c)) (tb := tb)) s
  have it : (itM seqOf (mVar 0) : M Pen (List D)) [.d (rowD b (gs.map (gv c))), .no] s = .ok (gs.map (gv c), s) := by simp only [ev_m1, ev_m2, ev_consM, ev_callM, ev_callF, ev_truM, ev_andT, ev_orT, ev_notT, ev_andV, ev_orV, ev_notV, ev_ifM, ev_tupM, ev_lstM, ev_partM, ev_parS, ev_par3S, ev_parOS, ev_asgS, ev_setS, ev_retS, ev_exprS, ev_ifS, ev_ownS, ev_raiseS, ev_makeF, ev_methF, ev_chT, ev_itM, ev_itA, ev_sliceM, ev_selfS, ev_penGet, ev_penPut, ev_mStr1, ev_thenS, ev_bindM, ev_retM, ev_optM, ev_mVar, ev_nextS, frzS, ev_yesM, List.append_nil, List.cons_append, List.nil_append, List.length_cons, List.length_nil, Nat.zero_add, Nat.reduceAdd, reduceIte, addD, subD, ltD, gtD, geD, leD, negD, DL.intD, absD, lenD, truD, DL.isNon, truB, strCD, extS, apS, DL.setAll, DL.assignT, List.getElem?_cons_succ, List.getElem?_cons_zero, List.set_cons_succ, List.set_cons_zero, if_true, Bool.false_eq_true, if_false, Bool.not_true, Bool.not_false, itM, rowD_seq]
  have l1 := lc_map (mt := (yesM : M Pen Bool)) (me := callF 1 (pkNumH tb tbR) [] (consM (mVar 1) (retM []))) (g := .nm 1) (vs := [1]) (gv c) it rfl (fun _ => true) (fun _ => .bl true) (by omega) fun g _ => ⟨_, rfl, rfl, fun _ => by simp only [ev_m1, ev_m2, ev_consM, ev_callM, ev_callF, ev_truM, ev_andT, ev_orT, ev_notT, ev_andV, ev_orV, ev_notV, ev_ifM, ev_tupM, ev_lstM, ev_partM, ev_parS, ev_par3S, ev_parOS, ev_asgS, ev_setS, ev_retS, ev_exprS, ev_ifS, ev_ownS, ev_raiseS, ev_makeF, ev_methF, ev_chT, ev_itM, ev_itA, ev_sliceM, ev_selfS, ev_penGet, ev_penPut, ev_mStr1, ev_thenS, ev_bindM, ev_retM, ev_optM, ev_mVar, ev_nextS, frzS, ev_yesM, List.append_nil, List.cons_append, List.nil_append, List.length_cons, List.length_nil, Nat.zero_add, Nat.reduceAdd, reduceIte, addD, subD, ltD, gtD, geD, leD, negD, DL.intD, absD, lenD, truD, DL.isNon, truB, strCD, extS, apS, DL.setAll, DL.assignT, List.getElem?_cons_succ, List.getElem?_cons_zero, List.set_cons_succ, List.set_cons_zero, if_true, Bool.false_eq_true, if_false, Bool.not_true, Bool.not_false, wipeE, gv_numH h2]⟩
  have l2 := lc_map (mt := (yesM : M Pen Bool)) (me := callF 1 (pkRatioOf c e ei tb tbR) [] (consM (mVar 1) (retM []))) (g := .nm 1) (vs := [1]) (gv c) it rfl (fun _ => true) (fun g => rat c g.1) (by omega) fun g hg' => ⟨_, rfl, rfl, fun _ => by simp only [ev_m1, ev_m2, ev_consM, ev_callM, ev_callF, ev_truM, ev_andT, ev_orT, ev_notT, ev_andV, ev_orV, ev_notV, ev_ifM, ev_tupM, ev_lstM, ev_partM, ev_parS, ev_par3S, ev_parOS, ev_asgS, ev_setS, ev_retS, ev_exprS, ev_ifS, ev_ownS, ev_raiseS, ev_makeF, ev_methF, ev_chT, ev_itM, ev_itA, ev_sliceM, ev_selfS, ev_penGet, ev_penPut, ev_mStr1, ev_thenS, ev_bindM, ev_retM, ev_optM, ev_mVar, ev_nextS, frzS, ev_yesM, List.append_nil, List.cons_append, List.nil_append, List.length_cons, List.length_nil, Nat.zero_add, Nat.reduceAdd, reduceIte, addD, subD, ltD, gtD, geD, leD, negD, DL.intD, absD, lenD, truD, DL.isNon, truB, strCD, extS, apS, DL.setAll, DL.assignT, List.getElem?_cons_succ, List.getElem?_cons_zero, List.set_cons_succ, List.set_cons_zero, if_true, Bool.false_eq_true, if_false, Bool.not_true, Bool.not_false, wipeE, ratioOf_gv h1 h2 g (hg.wh g hg')]⟩
  rw [filter_yes] at l1 l2
  have d1 : decide ((1 : Int) ≤ (gs.length : Int)) = true := decide_eq_true (by omega)
  have d2 : decide ((gs.length : Int) ≤ 12 + 1) = true := decide_eq_true (by omega)
  cases b <;> simp only [rowD_t, rowD_f] at r1 l1 l2 ⊢ <;> (refine W.step (by simp only [ev_m1, ev_m2, ev_consM, ev_callM, ev_callF, ev_truM, ev_andT, ev_orT, ev_notT, ev_andV, ev_orV, ev_notV, ev_ifM, ev_tupM, ev_lstM, ev_partM, ev_parS, ev_par3S, ev_parOS, ev_asgS, ev_setS, ev_retS, ev_exprS, ev_ifS, ev_ownS, ev_raiseS, ev_makeF, ev_methF, ev_chT, ev_itM, ev_itA, ev_sliceM, ev_selfS, ev_penGet, ev_penPut, ev_mStr1, ev_thenS, ev_bindM, ev_retM, ev_optM, ev_mVar, ev_nextS, frzS, ev_yesM, List.append_nil, List.cons_append, List.nil_append, List.length_cons, List.length_nil, Nat.zero_add, Nat.reduceAdd, reduceIte, addD, subD, ltD, gtD, geD, leD, negD, DL.intD, absD, lenD, truD, DL.isNon, truB, strCD, extS, apS, DL.setAll, DL.assignT, List.getElem?_cons_succ, List.getElem?_cons_zero, List.set_cons_succ, List.set_cons_zero, if_true, Bool.false_eq_true, if_false, Bool.not_true, Bool.not_false, W_ok, W_exc, KS_nx, KS_rt, Bool.true_and, Bool.and_true, Bool.false_or, Bool.or_false, Bool.and_false, Bool.or_true, Bool.false_and, Bool.true_or, r1, isRowD, List.length_map, d1, d2, l1, all_true] <;> rfl) ?_) <;> simp only [ev_m1, ev_m2, ev_consM, ev_callM, ev_callF, ev_truM, ev_andT, ev_orT, ev_notT, ev_andV, ev_orV, ev_notV, ev_ifM, ev_tupM, ev_lstM, ev_partM, ev_parS, ev_par3S, ev_parOS, ev_asgS, ev_setS, ev_retS, ev_exprS, ev_ifS, ev_ownS, ev_raiseS, ev_makeF, ev_methF, ev_chT, ev_itM, ev_itA, ev_sliceM, ev_selfS, ev_penGet, ev_penPut, ev_mStr1, ev_thenS, ev_bindM, ev_retM, ev_optM, ev_mVar, ev_nextS, frzS, ev_yesM, List.append_nil, List.cons_append, List.nil_append, List.length_cons, List.length_nil, Nat.zero_add, Nat.reduceAdd, reduceIte, addD, subD, ltD, gtD, geD, leD, negD, DL.intD, absD, lenD, truD, DL.isNon, truB, strCD, extS, apS, DL.setAll, DL.assignT, List.getElem?_cons_succ, List.getElem?_cons_zero, List.set_cons_succ, List.set_cons_zero, if_true, Bool.false_eq_true, if_false, Bool.not_true, Bool.not_false, W_ok, W_exc, KS_nx, KS_rt, Bool.true_and, Bool.and_true, Bool.false_or, Bool.or_false, Bool.and_false, Bool.or_true, Bool.false_and, Bool.true_or, l2, tupleD]
/-- what need_sums refuses, of plain data -/
def noSums (d : D) : Bool := match seqOf d with
  | some xs => !isRowD d || !(decide (1 ≤ xs.length) && decide (xs.length ≤ 13)) || !(xs.all isIntD)
  | none => true
theorem sums_no {c e er ei : Nat} {tb tbR : List (Nat × Bool)} {d : D} (hp : plainI d = true) (hi : ∀ xs, seqOf d = some xs → (∀ x ∈ xs, plainI x = true) ∧ xs.length < 1000000) (h : noSums d = true) (s : Pen) : pkSums c e er ei tb tbR [d] s = .exc er [d] s := by
  unfold pkSums
  refine runF_E (env := [.d d, .no]) rfl ?_
  have r1 := pkRow_ok (plainI_tb (tb := tb) hp) s
  refine W.seq ?_
  cases hr : isRowD d with
  | false =>
    rw [hr] at r1
    simp only [ev_m1, ev_m2, ev_consM, ev_callM, ev_callF, ev_truM, ev_andT, ev_orT, ev_notT, ev_andV, ev_orV, ev_notV, ev_ifM, ev_tupM, ev_lstM, ev_partM, ev_parS, ev_par3S, ev_parOS, ev_asgS, ev_setS, ev_retS, ev_exprS, ev_ifS, ev_ownS, ev_raiseS, ev_makeF, ev_methF, ev_chT, ev_itM, ev_itA, ev_sliceM, ev_selfS, ev_penGet, ev_penPut, ev_mStr1, ev_thenS, ev_bindM, ev_retM, ev_optM, ev_mVar, ev_nextS, frzS, ev_yesM, List.append_nil, List.cons_append, List.nil_append, List.length_cons, List.length_nil, Nat.zero_add, Nat.reduceAdd, reduceIte, addD, subD, ltD, gtD, geD, leD, negD, DL.intD, absD, lenD, truD, DL.isNon, truB, strCD, extS, apS, DL.setAll, DL.assignT, List.getElem?_cons_succ, List.getElem?_cons_zero, List.set_cons_succ, List.set_cons_zero, if_true, Bool.false_eq_true, if_false, Bool.not_true, Bool.not_false, W_ok, W_exc, KS_nx, KS_rt, Bool.true_and, Bool.and_true, Bool.false_or, Bool.or_false, Bool.and_false, Bool.or_true, Bool.false_and, Bool.true_or, r1, and_self]
  | true =>
    rw [hr] at r1
    obtain ⟨b, xs, rfl⟩ : ∃ b xs, d = rowD b xs := by
      cases d with
      | lst xs => exact ⟨true, xs, rfl⟩
      | tup xs => exact ⟨false, xs, rfl⟩
      | _ => cases hr
    obtain ⟨hx, hl⟩ := hi xs rowD_seq
    unfold noSums at h
    rw [rowD_seq, hr] at h
    have it : (itM seqOf (mVar 0) : M Pen (List D)) [.d (rowD b xs), .no] s = .ok (xs.map id, s) := by simp only [ev_m1, ev_m2, ev_consM, ev_callM, ev_callF, ev_truM, ev_andT, ev_orT, ev_notT, ev_andV, ev_orV, ev_notV, ev_ifM, ev_tupM, ev_lstM, ev_partM, ev_parS, ev_par3S, ev_parOS, ev_asgS, ev_setS, ev_retS, ev_exprS, ev_ifS, ev_ownS, ev_raiseS, ev_makeF, ev_methF, ev_chT, ev_itM, ev_itA, ev_sliceM, ev_selfS, ev_penGet, ev_penPut, ev_mStr1, ev_thenS, ev_bindM, ev_retM, ev_optM, ev_mVar, ev_nextS, frzS, ev_yesM, List.append_nil, List.cons_append, List.nil_append, List.length_cons, List.length_nil, Nat.zero_add, Nat.reduceAdd, reduceIte, addD, subD, ltD, gtD, geD, leD, negD, DL.intD, absD, lenD, truD, DL.isNon, truB, strCD, extS, apS, DL.setAll, DL.assignT, List.getElem?_cons_succ, List.getElem?_cons_zero, List.set_cons_succ, List.set_cons_zero, if_true, Bool.false_eq_true, if_false, Bool.not_true, Bool.not_false, itM, rowD_seq, List.map_id]
    have l1 := lc_map (mt := (yesM : M Pen Bool)) (me := callF 1 (pkNumH tb tbR) [] (consM (mVar 1) (retM []))) (g := .nm 1) (vs := [1]) (id : D → D) it rfl (fun _ => true) (fun x => .bl (isIntD x)) hl fun x hx' => ⟨_, rfl, rfl, fun _ => by simp only [ev_m1, ev_m2, ev_consM, ev_callM, ev_callF, ev_truM, ev_andT, ev_orT, ev_notT, ev_andV, ev_orV, ev_notV, ev_ifM, ev_tupM, ev_lstM, ev_partM, ev_parS, ev_par3S, ev_parOS, ev_asgS, ev_setS, ev_retS, ev_exprS, ev_ifS, ev_ownS, ev_raiseS, ev_makeF, ev_methF, ev_chT, ev_itM, ev_itA, ev_sliceM, ev_selfS, ev_penGet, ev_penPut, ev_mStr1, ev_thenS, ev_bindM, ev_retM, ev_optM, ev_mVar, ev_nextS, frzS, ev_yesM, List.append_nil, List.cons_append, List.nil_append, List.length_cons, List.length_nil, Nat.zero_add, Nat.reduceAdd, reduceIte, addD, subD, ltD, gtD, geD, leD, negD, DL.intD, absD, lenD, truD, DL.isNon, truB, strCD, extS, apS, DL.setAll, DL.assignT, List.getElem?_cons_succ, List.getElem?_cons_zero, List.set_cons_succ, List.set_cons_zero, if_true, Bool.false_eq_true, if_false, Bool.not_true, Bool.not_false, wipeE, id, pkNumH_plain (hx x hx')]⟩
    rw [filter_yes] at l1
    by_cases z1 : 1 ≤ xs.length
    · have d1 : decide ((1 : Int) ≤ (xs.length : Int)) = true := decide_eq_true (by omega)
      by_cases z2 : xs.length ≤ 13
      · have d2 : decide ((xs.length : Int) ≤ 12 + 1) = true := decide_eq_true (by omega)
        have e3 : xs.all isIntD = false := by
          dsimp only at h
          rw [decide_eq_true z1, decide_eq_true z2] at h
          simpa using h
        have e4 := all_map isIntD xs
        rw [e3] at e4
        cases b <;> simp only [rowD_t, rowD_f] at r1 l1 ⊢ <;> simp only [ev_m1, ev_m2, ev_consM, ev_callM, ev_callF, ev_truM, ev_andT, ev_orT, ev_notT, ev_andV, ev_orV, ev_notV, ev_ifM, ev_tupM, ev_lstM, ev_partM, ev_parS, ev_par3S, ev_parOS, ev_asgS, ev_setS, ev_retS, ev_exprS, ev_ifS, ev_ownS, ev_raiseS, ev_makeF, ev_methF, ev_chT, ev_itM, ev_itA, ev_sliceM, ev_selfS, ev_penGet, ev_penPut, ev_mStr1, ev_thenS, ev_bindM, ev_retM, ev_optM, ev_mVar, ev_nextS, frzS, ev_yesM, List.append_nil, List.cons_append, List.nil_append, List.length_cons, List.length_nil, Nat.zero_add, Nat.reduceAdd, reduceIte, addD, subD, ltD, gtD, geD, leD, negD, DL.intD, absD, lenD, truD, DL.isNon, truB, strCD, extS, apS, DL.setAll, DL.assignT, List.getElem?_cons_succ, List.getElem?_cons_zero, List.set_cons_succ, List.set_cons_zero, if_true, Bool.false_eq_true, if_false, Bool.not_true, Bool.not_false, W_ok, W_exc, KS_nx, KS_rt, Bool.true_and, Bool.and_true, Bool.false_or, Bool.or_false, Bool.and_false, Bool.or_true, Bool.false_and, Bool.true_or, r1, d1, d2, l1, e4, and_self]
      · have d2 : decide ((xs.length : Int) ≤ 12 + 1) = false := decide_eq_false (by omega)
        cases b <;> simp only [rowD_t, rowD_f] at r1 ⊢ <;> simp only [ev_m1, ev_m2, ev_consM, ev_callM, ev_callF, ev_truM, ev_andT, ev_orT, ev_notT, ev_andV, ev_orV, ev_notV, ev_ifM, ev_tupM, ev_lstM, ev_partM, ev_parS, ev_par3S, ev_parOS, ev_asgS, ev_setS, ev_retS, ev_exprS, ev_ifS, ev_ownS, ev_raiseS, ev_makeF, ev_methF, ev_chT, ev_itM, ev_itA, ev_sliceM, ev_selfS, ev_penGet, ev_penPut, ev_mStr1, ev_thenS, ev_bindM, ev_retM, ev_optM, ev_mVar, ev_nextS, frzS, ev_yesM, List.append_nil, List.cons_append, List.nil_append, List.length_cons, List.length_nil, Nat.zero_add, Nat.reduceAdd, reduceIte, addD, subD, ltD, gtD, geD, leD, negD, DL.intD, absD, lenD, truD, DL.isNon, truB, strCD, extS, apS, DL.setAll, DL.assignT, List.getElem?_cons_succ, List.getElem?_cons_zero, List.set_cons_succ, List.set_cons_zero, if_true, Bool.false_eq_true, if_false, Bool.not_true, Bool.not_false, W_ok, W_exc, KS_nx, KS_rt, Bool.true_and, Bool.and_true, Bool.false_or, Bool.or_false, Bool.and_false, Bool.or_true, Bool.false_and, Bool.true_or, r1, d1, d2, and_self]
    · have d1 : decide ((1 : Int) ≤ (xs.length : Int)) = false := decide_eq_false (by omega)
      cases b <;> simp only [rowD_t, rowD_f] at r1 ⊢ <;> simp only [ev_m1, ev_m2, ev_consM, ev_callM, ev_callF, ev_truM, ev_andT, ev_orT, ev_notT, ev_andV, ev_orV, ev_notV, ev_ifM, ev_tupM, ev_lstM, ev_partM, ev_parS, ev_par3S, ev_parOS, ev_asgS, ev_setS, ev_retS, ev_exprS, ev_ifS, ev_ownS, ev_raiseS, ev_makeF, ev_methF, ev_chT, ev_itM, ev_itA, ev_sliceM, ev_selfS, ev_penGet, ev_penPut, ev_mStr1, ev_thenS, ev_bindM, ev_retM, ev_optM, ev_mVar, ev_nextS, frzS, ev_yesM, List.append_nil, List.cons_append, List.nil_append, List.length_cons, List.length_nil, Nat.zero_add, Nat.reduceAdd, reduceIte, addD, subD, ltD, gtD, geD, leD, negD, DL.intD, absD, lenD, truD, DL.isNon, truB, strCD, extS, apS, DL.setAll, DL.assignT, List.getElem?_cons_succ, List.getElem?_cons_zero, List.set_cons_succ, List.set_cons_zero, if_true, Bool.false_eq_true, if_false, Bool.not_true, Bool.not_false, W_ok, W_exc, KS_nx, KS_rt, Bool.true_and, Bool.and_true, Bool.false_or, Bool.or_false, Bool.and_false, Bool.or_true, Bool.false_and, Bool.true_or, r1, d1, and_self]
def pkNumbers (c e er ei : Nat) (tb tbR : List (Nat × Bool)) : List D → Pen → R (D × Pen) Pen := runF 2
    (seqS (ifS (notT (truM (callF 1 (pkRow tb) [] (consM (mVar 0) (retM []))))) (raiseS er 1 (consM (mVar 0) (retM []))) nextS)
    (retS (lcM (.nm 1) (itM seqOf (mVar 0)) yesM (callF 1 (pkRatioOf c e ei tb tbR) [] (consM (mVar 1) (retM []))) [1])))
theorem numbers_ok {c e er ei k : Nat} {tb tbR : List (Nat × Bool)} (h1 : tb.lookup c = some false) (h2 : tbR.lookup c = some true) {gs : List ((Int × Int) × Bool)} (hg : Given k gs) (hl : gs.length < 1000000) (b : Bool) (s : Pen) :
    pkNumbers c e er ei tb tbR [rowD b (gs.map (gv c))] s = .ok (.lst (gs.map fun g => rat c g.1), s) := by
  unfold pkNumbers
  refine runF_W (env := [.d (rowD b (gs.map (gv c))), .no]) rfl ?_
  have r1 := pkRow_ok (rowD_tb (b := b) (ds := gs.map (gv c)) (tb := tb)) s
  have it : (itM seqOf (mVar 0) : M Pen (List D)) [.d (rowD b (gs.map (gv c))), .no] s = .ok (gs.map (gv c), s) := by simp only [ev_m1, ev_m2, ev_consM, ev_callM, ev_callF, ev_truM, ev_andT, ev_orT, ev_notT, ev_andV, ev_orV, ev_notV, ev_ifM, ev_tupM, ev_lstM, ev_partM, ev_parS, ev_par3S, ev_parOS, ev_asgS, ev_setS, ev_retS, ev_exprS, ev_ifS, ev_ownS, ev_raiseS, ev_makeF, ev_methF, ev_chT, ev_itM, ev_itA, ev_sliceM, ev_selfS, ev_penGet, ev_penPut, ev_mStr1, ev_thenS, ev_bindM, ev_retM, ev_optM, ev_mVar, ev_nextS, frzS, ev_yesM, List.append_nil, List.cons_append, List.nil_append, List.length_cons, List.length_nil, Nat.zero_add, Nat.reduceAdd, reduceIte, addD, subD, ltD, gtD, geD, leD, negD, DL.intD, absD, lenD, truD, DL.isNon, truB, strCD, extS, apS, DL.setAll, DL.assignT, List.getElem?_cons_succ, List.getElem?_cons_zero, List.set_cons_succ, List.set_cons_zero, if_true, Bool.false_eq_true, if_false, Bool.not_true, Bool.not_false, itM, rowD_seq]
  have l2 := lc_map (mt := (yesM : M Pen Bool)) (me := callF 1 (pkRatioOf c e ei tb tbR) [] (consM (mVar 1) (retM []))) (g := .nm 1) (vs := [1]) (gv c) it rfl (fun _ => true) (fun g => rat c g.1) hl fun g hg' => ⟨_, rfl, rfl, fun _ => by simp only [ev_m1, ev_m2, ev_consM, ev_callM, ev_callF, ev_truM, ev_andT, ev_orT, ev_notT, ev_andV, ev_orV, ev_notV, ev_ifM, ev_tupM, ev_lstM, ev_partM, ev_parS, ev_par3S, ev_parOS, ev_asgS, ev_setS, ev_retS, ev_exprS, ev_ifS, ev_ownS, ev_raiseS, ev_makeF, ev_methF, ev_chT, ev_itM, ev_itA, ev_sliceM, ev_selfS, ev_penGet, ev_penPut, ev_mStr1, ev_thenS, ev_bindM, ev_retM, ev_optM, ev_mVar, ev_nextS, frzS, ev_yesM, List.append_nil, List.cons_append, List.nil_append, List.length_cons, List.length_nil, Nat.zero_add, Nat.reduceAdd, reduceIte, addD, subD, ltD, gtD, geD, leD, negD, DL.intD, absD, lenD, truD, DL.isNon, truB, strCD, extS, apS, DL.setAll, DL.assignT, List.getElem?_cons_succ, List.getElem?_cons_zero, List.set_cons_succ, List.set_cons_zero, if_true, Bool.false_eq_true, if_false, Bool.not_true, Bool.not_false, wipeE, ratioOf_gv h1 h2 g (hg.wh g hg')]⟩
  rw [filter_yes] at l2
  refine W.step (by simp only [ev_m1, ev_m2, ev_consM, ev_callM, ev_callF, ev_truM, ev_andT, ev_orT, ev_notT, ev_andV, ev_orV, ev_notV, ev_ifM, ev_tupM, ev_lstM, ev_partM, ev_parS, ev_par3S, ev_parOS, ev_asgS, ev_setS, ev_retS, ev_exprS, ev_ifS, ev_ownS, ev_raiseS, ev_makeF, ev_methF, ev_chT, ev_itM, ev_itA, ev_sliceM, ev_selfS, ev_penGet, ev_penPut, ev_mStr1, ev_thenS, ev_bindM, ev_retM, ev_optM, ev_mVar, ev_nextS, frzS, ev_yesM, List.append_nil, List.cons_append, List.nil_append, List.length_cons, List.length_nil, Nat.zero_add, Nat.reduceAdd, reduceIte, addD, subD, ltD, gtD, geD, leD, negD, DL.intD, absD, lenD, truD, DL.isNon, truB, strCD, extS, apS, DL.setAll, DL.assignT, List.getElem?_cons_succ, List.getElem?_cons_zero, List.set_cons_succ, List.set_cons_zero, if_true, Bool.false_eq_true, if_false, Bool.not_true, Bool.not_false, W_ok, W_exc, KS_nx, KS_rt, Bool.true_and, Bool.and_true, Bool.false_or, Bool.or_false, Bool.and_false, Bool.or_true, Bool.false_and, Bool.true_or, r1, rowD_row] <;> rfl) ?_
  simp only [ev_m1, ev_m2, ev_consM, ev_callM, ev_callF, ev_truM, ev_andT, ev_orT, ev_notT, ev_andV, ev_orV, ev_notV, ev_ifM, ev_tupM, ev_lstM, ev_partM, ev_parS, ev_par3S, ev_parOS, ev_asgS, ev_setS, ev_retS, ev_exprS, ev_ifS, ev_ownS, ev_raiseS, ev_makeF, ev_methF, ev_chT, ev_itM, ev_itA, ev_sliceM, ev_selfS, ev_penGet, ev_penPut, ev_mStr1, ev_thenS, ev_bindM, ev_retM, ev_optM, ev_mVar, ev_nextS, frzS, ev_yesM, List.append_nil, List.cons_append, List.nil_append, List.length_cons, List.length_nil, Nat.zero_add, Nat.reduceAdd, reduceIte, addD, subD, ltD, gtD, geD, leD, negD, DL.intD, absD, lenD, truD, DL.isNon, truB, strCD, extS, apS, DL.setAll, DL.assignT, List.getElem?_cons_succ, List.getElem?_cons_zero, List.set_cons_succ, List.set_cons_zero, if_true, Bool.false_eq_true, if_false, Bool.not_true, Bool.not_false, W_ok, W_exc, KS_nx, KS_rt, Bool.true_and, Bool.and_true, Bool.false_or, Bool.or_false, Bool.and_false, Bool.or_true, Bool.false_and, Bool.true_or, l2]
/-- how many are left when the last zeros go -/
def trimN (ps : List (Int × Int)) : Nat → Nat
  | 0 => 0
  | n + 1 => match ps[n]? with
    | some q => if q.1 = 0 then trimN ps n else n + 1
    | none => n + 1
theorem trimN_le (ps : List (Int × Int)) : ∀ n, trimN ps n ≤ n
  | 0 => Nat.le_refl _
  | n + 1 => by
    unfold trimN
    split
    · split
      · exact Nat.le_succ_of_le (trimN_le ps n)
      · exact Nat.le_refl _
    · exact Nat.le_refl _
theorem trimN_take (ps : List (Int × Int)) : ∀ {m n : Nat}, m ≤ n → trimN (ps.take n) m = trimN ps m
  | 0, _, _ => rfl
  | m + 1, n, h => by
    unfold trimN
    rw [List.getElem?_take_of_lt (by omega), trimN_take ps (by omega)]
theorem trimN_s (ps : List (Int × Int)) (n : Nat) : trimN ps (n + 1) = match ps[n]? with
    | some q => if q.1 = 0 then trimN ps n else n + 1
    | none => n + 1 := rfl
theorem trimN_fix (ps : List (Int × Int)) : ∀ n, trimN ps (trimN ps n) = trimN ps n
  | 0 => rfl
  | n + 1 => by
    have ih := trimN_fix ps n
    cases hq : ps[n]? with
    | none =>
      have e : trimN ps (n + 1) = n + 1 := by rw [trimN_s, hq]
      rw [e, e]
    | some q =>
      by_cases h0 : q.1 = 0
      · have e : trimN ps (n + 1) = trimN ps n := by rw [trimN_s, hq]; exact if_pos h0
        rw [e, ih]
      · have e : trimN ps (n + 1) = n + 1 := by rw [trimN_s, hq]; exact if_neg h0
        rw [e, e]
/-- without the last zeros -/
def trimL (ps : List (Int × Int)) : List (Int × Int) := ps.take (trimN ps ps.length)
theorem trimL_len (ps : List (Int × Int)) : (trimL ps).length = trimN ps ps.length := by
  unfold trimL
  rw [List.length_take]
  exact Nat.min_eq_left (trimN_le ps _)
theorem trimL_idem (ps : List (Int × Int)) : trimL (trimL ps) = trimL ps := by
  have e : trimN (trimL ps) (trimL ps).length = (trimL ps).length := by
    rw [trimL_len]
    unfold trimL
    rw [trimN_take ps (Nat.le_refl _), trimN_fix]
  show (trimL ps).take (trimN (trimL ps) (trimL ps).length) = _
  rw [e, List.take_length]
theorem trimL_mem {ps : List (Int × Int)} {q : Int × Int} (h : q ∈ trimL ps) : q ∈ ps := List.mem_of_mem_take h
/-- an item by its place -/
theorem ix_map {α : Type} {xs : List α} (f : α → D) {j : Nat} {q : α} (hq : xs[j]? = some q) : atI (xs.map f) (j : Int) = some (f q) := by
  have hj : j < xs.length := (List.getElem?_eq_some_iff.mp hq).1
  unfold atI ixN
  rw [List.length_map, if_pos (by omega), if_pos (by omega)]
  show (xs.map f)[(j : Int).toNat]? = _
  rw [Int.toNat_natCast, List.getElem?_map, hq]; rfl
theorem cutL_to {α : Type} {ds : List α} {n : Nat} (h : n ≤ ds.length) : cutL ds none (some (n : Int)) = ds.take n := by
  unfold cutL
  rw [HT.sIx_nat, Nat.min_eq_left h]
  rfl
def pkWz (c : Nat) (fuel : DL.Env → Nat) : List D → Pen → R (D × Pen) Pen := runF 2
    (seqS (setS 1 (callM lenD (consM (mVar 0) (retM []))))
    (seqS (whileS fuel (andT (truM (m2 gtD (mVar 1) (retM (.int 0)))) (truM (m2 eqD (m1 (fldD [(c, 0)]) (m2 ixD (mVar 0) (m2 subD (mVar 1) (retM (.int 1))))) (retM (.int 0))))) (setS 1 (m2 subD (mVar 1) (retM (.int 1)))))
    (retS (callM tupleD (consM (sliceM (mVar 0) (retM none) (partM (mVar 1))) (retM []))))))
def wzFuel : DL.Env → Nat := fun env => match env[1]? with | some (Slot.d (D.int b)) => b.natAbs + 1 | _ => 0
theorem wz_ok {c : Nat} {ps : List (Int × Int)} (hl : ps.length < 1000000) (s : Pen) : pkWz c wzFuel [.lst (ps.map (rat c))] s = .ok (.tup ((trimL ps).map (rat c)), s) := by
  unfold pkWz
  refine runF_W (env := [.d (.lst (ps.map (rat c))), .no]) rfl ?_
  refine W.step (by simp only [ev_m1, ev_m2, ev_consM, ev_callM, ev_callF, ev_truM, ev_andT, ev_orT, ev_notT, ev_andV, ev_orV, ev_notV, ev_ifM, ev_tupM, ev_lstM, ev_partM, ev_parS, ev_par3S, ev_parOS, ev_asgS, ev_setS, ev_retS, ev_exprS, ev_ifS, ev_ownS, ev_raiseS, ev_makeF, ev_methF, ev_chT, ev_itM, ev_itA, ev_sliceM, ev_selfS, ev_penGet, ev_penPut, ev_mStr1, ev_thenS, ev_bindM, ev_retM, ev_optM, ev_mVar, ev_nextS, frzS, ev_yesM, List.append_nil, List.cons_append, List.nil_append, List.length_cons, List.length_nil, Nat.zero_add, Nat.reduceAdd, reduceIte, addD, subD, ltD, gtD, geD, leD, negD, DL.intD, absD, lenD, truD, DL.isNon, truB, strCD, extS, apS, DL.setAll, DL.assignT, List.getElem?_cons_succ, List.getElem?_cons_zero, List.set_cons_succ, List.set_cons_zero, if_true, Bool.false_eq_true, if_false, Bool.not_true, Bool.not_false, W_ok, W_exc, KS_nx, KS_rt, Bool.true_and, Bool.and_true, Bool.false_or, Bool.or_false, Bool.and_false, Bool.or_true, Bool.false_and, Bool.true_or, List.length_map] <;> rfl) ?_
  refine W.seq (W.whileN (fun n env s' => s' = s ∧ env = [.d (.lst (ps.map (rat c))), .d (.int (n : Nat))] ∧ n ≤ ps.length ∧ trimN ps n = trimN ps ps.length) ?_ _ ps.length _ _ (by show _ < ((ps.length : Int)).natAbs + 1; omega) ⟨rfl, rfl, Nat.le_refl _, rfl⟩)
  rintro n env s' ⟨hs', he, hn, ht⟩
  subst hs'; subst he
  have fin : trimN ps n = n → W ((retS (callM tupleD (consM (sliceM (mVar 0) (retM none) (partM (mVar 1))) (retM []))) : MS Pen) [.d (.lst (ps.map (rat c))), .d (.int (n : Nat))] s') (fun os => os = (.rt (.tup ((trimL ps).map (rat c))), s')) noE := fun hf => by
    have e1 : cutL (ps.map (rat c)) none (some (n : Int)) = (trimL ps).map (rat c) := by
      rw [cutL_to (by rw [List.length_map]; exact hn), ← List.map_take]
      unfold trimL
      rw [← ht, hf]
    simp only [ev_m1, ev_m2, ev_consM, ev_callM, ev_callF, ev_truM, ev_andT, ev_orT, ev_notT, ev_andV, ev_orV, ev_notV, ev_ifM, ev_tupM, ev_lstM, ev_partM, ev_parS, ev_par3S, ev_parOS, ev_asgS, ev_setS, ev_retS, ev_exprS, ev_ifS, ev_ownS, ev_raiseS, ev_makeF, ev_methF, ev_chT, ev_itM, ev_itA, ev_sliceM, ev_selfS, ev_penGet, ev_penPut, ev_mStr1, ev_thenS, ev_bindM, ev_retM, ev_optM, ev_mVar, ev_nextS, frzS, ev_yesM, List.append_nil, List.cons_append, List.nil_append, List.length_cons, List.length_nil, Nat.zero_add, Nat.reduceAdd, reduceIte, addD, subD, ltD, gtD, geD, leD, negD, DL.intD, absD, lenD, truD, DL.isNon, truB, strCD, extS, apS, DL.setAll, DL.assignT, List.getElem?_cons_succ, List.getElem?_cons_zero, List.set_cons_succ, List.set_cons_zero, if_true, Bool.false_eq_true, if_false, Bool.not_true, Bool.not_false, W_ok, W_exc, KS_nx, KS_rt, Bool.true_and, Bool.and_true, Bool.false_or, Bool.or_false, Bool.and_false, Bool.or_true, Bool.false_and, Bool.true_or, partD, sliceD, e1, tupleD]
  cases n with
  | zero =>
    refine ⟨false, s', by simp only [ev_m1, ev_m2, ev_consM, ev_callM, ev_callF, ev_truM, ev_andT, ev_orT, ev_notT, ev_andV, ev_orV, ev_notV, ev_ifM, ev_tupM, ev_lstM, ev_partM, ev_parS, ev_par3S, ev_parOS, ev_asgS, ev_setS, ev_retS, ev_exprS, ev_ifS, ev_ownS, ev_raiseS, ev_makeF, ev_methF, ev_chT, ev_itM, ev_itA, ev_sliceM, ev_selfS, ev_penGet, ev_penPut, ev_mStr1, ev_thenS, ev_bindM, ev_retM, ev_optM, ev_mVar, ev_nextS, frzS, ev_yesM, List.append_nil, List.cons_append, List.nil_append, List.length_cons, List.length_nil, Nat.zero_add, Nat.reduceAdd, reduceIte, addD, subD, ltD, gtD, geD, leD, negD, DL.intD, absD, lenD, truD, DL.isNon, truB, strCD, extS, apS, DL.setAll, DL.assignT, List.getElem?_cons_succ, List.getElem?_cons_zero, List.set_cons_succ, List.set_cons_zero, if_true, Bool.false_eq_true, if_false, Bool.not_true, Bool.not_false, Int.natCast_zero, Int.lt_irrefl, decide_false], fun _ => ?_, fun h => by cases h⟩
    rw [KS_nx]
    exact fin rfl
  | succ n =>
    obtain ⟨q, hq⟩ : ∃ q, ps[n]? = some q := ⟨_, List.getElem?_eq_getElem (by omega)⟩
    have hz : decide ((0 : Int) < ((n + 1 : Nat) : Int)) = true := decide_eq_true (by omega)
    have hs1 : ((n + 1 : Nat) : Int) - 1 = (n : Int) := by omega
    have e1 := ix_map (rat c) hq
    refine ⟨q.1 == 0, s', ?_, fun h => ?_, fun h => ?_⟩
    · simp only [ev_m1, ev_m2, ev_consM, ev_callM, ev_callF, ev_truM, ev_andT, ev_orT, ev_notT, ev_andV, ev_orV, ev_notV, ev_ifM, ev_tupM, ev_lstM, ev_partM, ev_parS, ev_par3S, ev_parOS, ev_asgS, ev_setS, ev_retS, ev_exprS, ev_ifS, ev_ownS, ev_raiseS, ev_makeF, ev_methF, ev_chT, ev_itM, ev_itA, ev_sliceM, ev_selfS, ev_penGet, ev_penPut, ev_mStr1, ev_thenS, ev_bindM, ev_retM, ev_optM, ev_mVar, ev_nextS, frzS, ev_yesM, List.append_nil, List.cons_append, List.nil_append, List.length_cons, List.length_nil, Nat.zero_add, Nat.reduceAdd, reduceIte, addD, subD, ltD, gtD, geD, leD, negD, DL.intD, absD, lenD, truD, DL.isNon, truB, strCD, extS, apS, DL.setAll, DL.assignT, List.getElem?_cons_succ, List.getElem?_cons_zero, List.set_cons_succ, List.set_cons_zero, if_true, Bool.false_eq_true, if_false, Bool.not_true, Bool.not_false, hz, hs1, ixD, e1, rat_top, eqD_int]
    · rw [KS_nx]
      refine fin ?_
      rw [trimN_s, hq]
      exact if_neg (beq_eq_false_iff_ne.mp h)
    · simp only [ev_m1, ev_m2, ev_consM, ev_callM, ev_callF, ev_truM, ev_andT, ev_orT, ev_notT, ev_andV, ev_orV, ev_notV, ev_ifM, ev_tupM, ev_lstM, ev_partM, ev_parS, ev_par3S, ev_parOS, ev_asgS, ev_setS, ev_retS, ev_exprS, ev_ifS, ev_ownS, ev_raiseS, ev_makeF, ev_methF, ev_chT, ev_itM, ev_itA, ev_sliceM, ev_selfS, ev_penGet, ev_penPut, ev_mStr1, ev_thenS, ev_bindM, ev_retM, ev_optM, ev_mVar, ev_nextS, frzS, ev_yesM, List.append_nil, List.cons_append, List.nil_append, List.length_cons, List.length_nil, Nat.zero_add, Nat.reduceAdd, reduceIte, addD, subD, ltD, gtD, geD, leD, negD, DL.intD, absD, lenD, truD, DL.isNon, truB, strCD, extS, apS, DL.setAll, DL.assignT, List.getElem?_cons_succ, List.getElem?_cons_zero, List.set_cons_succ, List.set_cons_zero, if_true, Bool.false_eq_true, if_false, Bool.not_true, Bool.not_false, W_ok, W_exc, KS_nx, KS_rt, Bool.true_and, Bool.and_true, Bool.false_or, Bool.or_false, Bool.and_false, Bool.or_true, Bool.false_and, Bool.true_or, hs1, KL_nx, true_and]
      refine ⟨n, Nat.lt_succ_self n, rfl, by omega, ?_⟩
      rw [← ht, trimN_s, hq]
      exact (if_pos (beq_iff_eq.mp h)).symm
/-- the Poly of numbers without zeros at the end -/
def polD (cP c : Nat) (ps : List (Int × Int)) : D := .obj cP [.tup (ps.map (rat c)), .int ((ps.length : Int) - 1), match ps.getLast? with
  | some q => rat c q
  | none => .non]
def pkPInit (cP c e er ei : Nat) (tb tbR : List (Nat × Bool)) (fuel : DL.Env → Nat) : List D → Pen → R (List D × Pen) Pen := runI 2 cP 3
    (seqS (selfS 0 cP 0 (callF 1 (pkWz c fuel) [] (consM (callF 1 (pkNumbers c e er ei tb tbR) [] (consM (mVar 1) (retM []))) (retM []))))
    (seqS (selfS 0 cP 1 (m2 subD (callM lenD (consM (mSelf 0 cP 0) (retM []))) (retM (.int 1))))
    (selfS 0 cP 2 (ifM (truM (m2 gtD (callM lenD (consM (mSelf 0 cP 0) (retM []))) (retM (.int 0)))) (m2 ixD (mSelf 0 cP 0) (m1 negD (retM (.int 1)))) (retM .non)))))
theorem ix_last {α : Type} {xs : List α} (f : α → D) {q : α} (hq : xs.getLast? = some q) : atI (xs.map f) (-1) = some (f q) := by
  have h0 : xs ≠ [] := by rintro rfl; cases hq
  have hl : 0 < xs.length := List.length_pos_iff.mpr h0
  unfold atI ixN
  rw [List.length_map, if_neg (by omega), if_pos (by omega)]
  show (xs.map f)[((-1 : Int) + (xs.length : Int)).toNat]? = _
  rw [show ((-1 : Int) + (xs.length : Int)).toNat = xs.length - 1 by omega, List.getElem?_map]
  rw [List.getLast?_eq_getElem?] at hq
  rw [hq]; rfl
theorem pinit_ok {cP c e er ei k : Nat} {tb tbR : List (Nat × Bool)} (h1 : tb.lookup c = some false) (h2 : tbR.lookup c = some true) {gs : List ((Int × Int) × Bool)} (hg : Given k gs) (hl : gs.length < 1000000) (b : Bool) (s : Pen) :
    makeR cP 1 (pkPInit cP c e er ei tb tbR wzFuel) [rowD b (gs.map (gv c))] s = .ok (polD cP c (trimL (gs.map (·.1))), s) := by
  have n1 := numbers_ok (e := e) (er := er) (ei := ei) h1 h2 hg hl b s
  have w1 := wz_ok (c := c) (ps := gs.map (·.1)) (by rw [List.length_map]; exact hl) s
  rw [List.map_map] at w1
  have w1 : pkWz c wzFuel [.lst (gs.map fun g => rat c g.1)] s = .ok (.tup ((trimL (gs.map (·.1))).map (rat c)), s) := w1
  generalize trimL (gs.map (·.1)) = ps at w1
  have hi : pkPInit cP c e er ei tb tbR wzFuel [rowD b (gs.map (gv c))] s = .ok ([.tup (ps.map (rat c)), .int ((ps.length : Int) - 1), match ps.getLast? with
    | some q => rat c q
    | none => .non], s) := by
    unfold pkPInit
    refine runI_W (env := [Slot.ins cP [], .d (rowD b (gs.map (gv c)))]) rfl rfl ?_
    refine W.step (by simp only [ev_m1, ev_m2, ev_consM, ev_callM, ev_callF, ev_truM, ev_andT, ev_orT, ev_notT, ev_andV, ev_orV, ev_notV, ev_ifM, ev_tupM, ev_lstM, ev_partM, ev_parS, ev_par3S, ev_parOS, ev_asgS, ev_setS, ev_retS, ev_exprS, ev_ifS, ev_ownS, ev_raiseS, ev_makeF, ev_methF, ev_chT, ev_itM, ev_itA, ev_sliceM, ev_selfS, ev_penGet, ev_penPut, ev_mStr1, ev_thenS, ev_bindM, ev_retM, ev_optM, ev_mVar, ev_nextS, frzS, ev_yesM, List.append_nil, List.cons_append, List.nil_append, List.length_cons, List.length_nil, Nat.zero_add, Nat.reduceAdd, reduceIte, addD, subD, ltD, gtD, geD, leD, negD, DL.intD, absD, lenD, truD, DL.isNon, truB, strCD, extS, apS, DL.setAll, DL.assignT, List.getElem?_cons_succ, List.getElem?_cons_zero, List.set_cons_succ, List.set_cons_zero, if_true, Bool.false_eq_true, if_false, Bool.not_true, Bool.not_false, W_ok, W_exc, KS_nx, KS_rt, Bool.true_and, Bool.and_true, Bool.false_or, Bool.or_false, Bool.and_false, Bool.or_true, Bool.false_and, Bool.true_or, n1, w1, selfS, and_self] <;> rfl) ?_
    refine W.step (by simp only [ev_m1, ev_m2, ev_consM, ev_callM, ev_callF, ev_truM, ev_andT, ev_orT, ev_notT, ev_andV, ev_orV, ev_notV, ev_ifM, ev_tupM, ev_lstM, ev_partM, ev_parS, ev_par3S, ev_parOS, ev_asgS, ev_setS, ev_retS, ev_exprS, ev_ifS, ev_ownS, ev_raiseS, ev_makeF, ev_methF, ev_chT, ev_itM, ev_itA, ev_sliceM, ev_selfS, ev_penGet, ev_penPut, ev_mStr1, ev_thenS, ev_bindM, ev_retM, ev_optM, ev_mVar, ev_nextS, frzS, ev_yesM, List.append_nil, List.cons_append, List.nil_append, List.length_cons, List.length_nil, Nat.zero_add, Nat.reduceAdd, reduceIte, addD, subD, ltD, gtD, geD, leD, negD, DL.intD, absD, lenD, truD, DL.isNon, truB, strCD, extS, apS, DL.setAll, DL.assignT, List.getElem?_cons_succ, List.getElem?_cons_zero, List.set_cons_succ, List.set_cons_zero, if_true, Bool.false_eq_true, if_false, Bool.not_true, Bool.not_false, W_ok, W_exc, KS_nx, KS_rt, Bool.true_and, Bool.and_true, Bool.false_or, Bool.or_false, Bool.and_false, Bool.or_true, Bool.false_and, Bool.true_or, selfS, mSelf, and_self, List.length_map] <;> rfl) ?_
    cases hq : ps.getLast? with
    | none =>
      have : ps = [] := List.getLast?_eq_none_iff.mp hq
      subst this
      simp only [ev_m1, ev_m2, ev_consM, ev_callM, ev_callF, ev_truM, ev_andT, ev_orT, ev_notT, ev_andV, ev_orV, ev_notV, ev_ifM, ev_tupM, ev_lstM, ev_partM, ev_parS, ev_par3S, ev_parOS, ev_asgS, ev_setS, ev_retS, ev_exprS, ev_ifS, ev_ownS, ev_raiseS, ev_makeF, ev_methF, ev_chT, ev_itM, ev_itA, ev_sliceM, ev_selfS, ev_penGet, ev_penPut, ev_mStr1, ev_thenS, ev_bindM, ev_retM, ev_optM, ev_mVar, ev_nextS, frzS, ev_yesM, List.append_nil, List.cons_append, List.nil_append, List.length_cons, List.length_nil, Nat.zero_add, Nat.reduceAdd, reduceIte, addD, subD, ltD, gtD, geD, leD, negD, DL.intD, absD, lenD, truD, DL.isNon, truB, strCD, extS, apS, DL.setAll, DL.assignT, List.getElem?_cons_succ, List.getElem?_cons_zero, List.set_cons_succ, List.set_cons_zero, if_true, Bool.false_eq_true, if_false, Bool.not_true, Bool.not_false, W_ok, W_exc, KS_nx, KS_rt, Bool.true_and, Bool.and_true, Bool.false_or, Bool.or_false, Bool.and_false, Bool.or_true, Bool.false_and, Bool.true_or, selfS, mSelf, and_self, List.map_nil, Int.natCast_zero, Int.lt_irrefl, decide_false]
      exact ⟨_, rfl⟩
    | some q =>
      have h0 : ps ≠ [] := by rintro rfl; cases hq
      have hl : 0 < ps.length := List.length_pos_iff.mpr h0
      have hz : decide ((0 : Int) < (ps.length : Int)) = true := decide_eq_true (by omega)
      simp only [ev_m1, ev_m2, ev_consM, ev_callM, ev_callF, ev_truM, ev_andT, ev_orT, ev_notT, ev_andV, ev_orV, ev_notV, ev_ifM, ev_tupM, ev_lstM, ev_partM, ev_parS, ev_par3S, ev_parOS, ev_asgS, ev_setS, ev_retS, ev_exprS, ev_ifS, ev_ownS, ev_raiseS, ev_makeF, ev_methF, ev_chT, ev_itM, ev_itA, ev_sliceM, ev_selfS, ev_penGet, ev_penPut, ev_mStr1, ev_thenS, ev_bindM, ev_retM, ev_optM, ev_mVar, ev_nextS, frzS, ev_yesM, List.append_nil, List.cons_append, List.nil_append, List.length_cons, List.length_nil, Nat.zero_add, Nat.reduceAdd, reduceIte, addD, subD, ltD, gtD, geD, leD, negD, DL.intD, absD, lenD, truD, DL.isNon, truB, strCD, extS, apS, DL.setAll, DL.assignT, List.getElem?_cons_succ, List.getElem?_cons_zero, List.set_cons_succ, List.set_cons_zero, if_true, Bool.false_eq_true, if_false, Bool.not_true, Bool.not_false, W_ok, W_exc, KS_nx, KS_rt, Bool.true_and, Bool.and_true, Bool.false_or, Bool.or_false, Bool.and_false, Bool.or_true, Bool.false_and, Bool.true_or, selfS, mSelf, and_self, List.length_map, hz, ixD, ix_last (rat c) hq]
      exact ⟨_, rfl⟩
  unfold makeR
  rw [if_pos (show ([rowD b (gs.map (gv c))] : List D).length = 1 from rfl), hi]
  rfl
end DL
set_option Elab.async false
set_option linter.all false
set_option maxRecDepth 100000
set_option maxHeartbeats 1000000
namespace DL
open PySem PySem.Spec PyProof.Rows L2
theorem lsum_snoc (l : List (Int × Int)) (y : Int × Int) : lsum (l ++ [y]) = ladd (lsum l) y := by unfold lsum; rw [List.foldl_append]; rfl
theorem pol_num {cP c : Nat} {ps : List (Int × Int)} : fldD [(cP, 0)] (polD cP c ps) = some (.tup (ps.map (rat c))) := by unfold polD fldD; simp only [List.lookup, beq_self_eq_true]; rfl
theorem pol_deg {cP c : Nat} {ps : List (Int × Int)} : fldD [(cP, 1)] (polD cP c ps) = some (.int ((ps.length : Int) - 1)) := by unfold polD fldD; simp only [List.lookup, beq_self_eq_true]; rfl
theorem isi_pol {cP c : Nat} {tbP : List (Nat × Bool)} {b : Bool} {ps : List (Int × Int)} (h : tbP.lookup cP = some b) : isiD false false false false false false tbP (polD cP c ps) = some (.bl b) := by unfold polD; simp only [isiD, h, Option.map_some]
def pkSummed (cP c e : Nat) (tb tbR : List (Nat × Bool)) : List D → Pen → R (D × Pen) Pen := runF 5
    (seqS (setS 2 (makeF c 2 (pkRInit c e tb) [.int 1] (consM (retM (.int 0)) (retM []))))
    (seqS (forS (.tp [3, 4]) (itA zipOf (consM (m1 (fldD [(cP, 0)]) (mVar 1)) (consM (mVar 0) (retM [])))) (setS 2 (binO c (pkRAdd c e tb tbR) (mVar 2) (binO c (pkRMul c e tb tbR) (mVar 3) (mVar 4)))))
    (retS (mVar 2))))
theorem summed_ok {cP c e k : Nat} {tb tbR : List (Nat × Bool)} (h1 : tb.lookup c = some false) (h2 : tbR.lookup c = some true) {ps rs : List (Int × Int)} (hp : ∀ x ∈ ps, Lo k x) (hr : ∀ x ∈ rs, Lo k x) (hk : 1 + (k + k + 1) * ps.length ≤ 7000) (h8 : k < 400) (s : Pen) :
    pkSummed cP c e tb tbR [.tup (rs.map (rat c)), polD cP c ps] s = .ok (rat c (ltot ps rs), s) := by
  have hz : ∀ x ∈ ps.zip rs, Lo k x.1 ∧ Lo k x.2 := fun x hx => ⟨hp _ (List.of_mem_zip hx).1, hr _ (List.of_mem_zip hx).2⟩
  have hl : (ps.zip rs).length ≤ ps.length := by rw [List.length_zip]; exact Nat.min_le_left _ _
  have mk := rmake_ok (c := c) (e := e) (tb := tb) (a := 0) (b := 1) (by decide) (by decide +kernel) s
  rw [low_whole] at mk
  unfold pkSummed
  refine runF_W (env := [.d (.tup (rs.map (rat c))), .d (polD cP c ps), .no, .no, .no]) rfl ?_
  refine W.step (by simp only [ev_m1, ev_m2, ev_consM, ev_callM, ev_callF, ev_truM, ev_andT, ev_orT, ev_notT, ev_andV, ev_orV, ev_notV, ev_ifM, ev_tupM, ev_lstM, ev_partM, ev_parS, ev_par3S, ev_parOS, ev_asgS, ev_setS, ev_retS, ev_exprS, ev_ifS, ev_ownS, ev_raiseS, ev_makeF, ev_methF, ev_chT, ev_itM, ev_itA, ev_sliceM, ev_selfS, ev_penGet, ev_penPut, ev_mStr1, ev_thenS, ev_bindM, ev_retM, ev_optM, ev_mVar, ev_nextS, frzS, ev_yesM, List.append_nil, List.cons_append, List.nil_append, List.length_cons, List.length_nil, Nat.zero_add, Nat.reduceAdd, reduceIte, addD, subD, ltD, gtD, geD, leD, negD, DL.intD, absD, lenD, truD, DL.isNon, truB, strCD, extS, apS, DL.setAll, DL.assignT, List.getElem?_cons_succ, List.getElem?_cons_zero, List.set_cons_succ, List.set_cons_zero, if_true, Bool.false_eq_true, if_false, Bool.not_true, Bool.not_false, W_ok, W_exc, KS_nx, KS_rt, Bool.true_and, Bool.and_true, Bool.false_or, Bool.or_false, Bool.and_false, Bool.or_true, Bool.false_and, Bool.true_or, mk] <;> rfl) ?_
  refine W.seq (W.forT (fun x : (Int × Int) × (Int × Int) => D.tup [rat c x.1, rat c x.2]) (xs := ps.zip rs) (s1 := s) (by simp only [ev_m1, ev_m2, ev_consM, ev_callM, ev_callF, ev_truM, ev_andT, ev_orT, ev_notT, ev_andV, ev_orV, ev_notV, ev_ifM, ev_tupM, ev_lstM, ev_partM, ev_parS, ev_par3S, ev_parOS, ev_asgS, ev_setS, ev_retS, ev_exprS, ev_ifS, ev_ownS, ev_raiseS, ev_makeF, ev_methF, ev_chT, ev_itM, ev_itA, ev_sliceM, ev_selfS, ev_penGet, ev_penPut, ev_mStr1, ev_thenS, ev_bindM, ev_retM, ev_optM, ev_mVar, ev_nextS, frzS, ev_yesM, List.append_nil, List.cons_append, List.nil_append, List.length_cons, List.length_nil, Nat.zero_add, Nat.reduceAdd, reduceIte, addD, subD, ltD, gtD, geD, leD, negD, DL.intD, absD, lenD, truD, DL.isNon, truB, strCD, extS, apS, DL.setAll, DL.assignT, List.getElem?_cons_succ, List.getElem?_cons_zero, List.set_cons_succ, List.set_cons_zero, if_true, Bool.false_eq_true, if_false, Bool.not_true, Bool.not_false, pol_num, zipOf, zipL_map]) (fun r env s' => s' = s ∧ ∃ l x3 x4, ps.zip rs = l ++ r ∧ env = [.d (.tup (rs.map (rat c))), .d (polD cP c ps), .d (rat c (lsum (l.map fun x => lmul x.1 x.2))), x3, x4]) ⟨rfl, [], _, _, rfl, rfl⟩ ?_ ?_)
  · rintro x r env s' ⟨hs', l, x3, x4, e1, he⟩
    subst hs'; subst he
    have hx := hz x (by rw [e1]; simp)
    have hll : (k + k + 1) * l.length ≤ (k + k + 1) * ps.length := Nat.mul_le_mul_left _ (Nat.le_trans (by rw [e1]; simp) hl)
    have lo := Lo.sum (k := k + k) (l.map fun x => lmul x.1 x.2) (0, 1) 1 lo01 fun y hy => by
      obtain ⟨z, hz', rfl⟩ := List.mem_map.mp hy
      have := hz z (by rw [e1]; simp [hz'])
      exact this.1.mul this.2
    rw [List.length_map] at lo
    have eb : binO c (pkRMul c e tb tbR) (mVar 3) (mVar 4) [.d (.tup (rs.map (rat c))), .d (polD cP c ps), .d (rat c (lsum (l.map fun x => lmul x.1 x.2))), .d (rat c x.1), .d (rat c x.2)] s' = .ok (rat c (lmul x.1 x.2), s') :=
      (binO_rat (p := x.1) (q := x.2) rfl rfl).trans (rmul_ok h1 h2 hx.1 hx.2 (by omega) s')
    have ea : binO c (pkRAdd c e tb tbR) (mVar 2) (binO c (pkRMul c e tb tbR) (mVar 3) (mVar 4)) [.d (.tup (rs.map (rat c))), .d (polD cP c ps), .d (rat c (lsum (l.map fun x => lmul x.1 x.2))), .d (rat c x.1), .d (rat c x.2)] s' = .ok (rat c (ladd (lsum (l.map fun x => lmul x.1 x.2)) (lmul x.1 x.2)), s') :=
      (binO_rat (p := lsum (l.map fun x => lmul x.1 x.2)) (q := lmul x.1 x.2) rfl eb).trans (radd_ok h1 h2 lo (hx.1.mul hx.2) (by omega) s')
    refine ⟨[.d (.tup (rs.map (rat c))), .d (polD cP c ps), .d (rat c (lsum (l.map fun x => lmul x.1 x.2))), .d (rat c x.1), .d (rat c x.2)], rfl, ?_⟩
    simp only [ev_m1, ev_m2, ev_consM, ev_callM, ev_callF, ev_truM, ev_andT, ev_orT, ev_notT, ev_andV, ev_orV, ev_notV, ev_ifM, ev_tupM, ev_lstM, ev_partM, ev_parS, ev_par3S, ev_parOS, ev_asgS, ev_setS, ev_retS, ev_exprS, ev_ifS, ev_ownS, ev_raiseS, ev_makeF, ev_methF, ev_chT, ev_itM, ev_itA, ev_sliceM, ev_selfS, ev_penGet, ev_penPut, ev_mStr1, ev_thenS, ev_bindM, ev_retM, ev_optM, ev_mVar, ev_nextS, frzS, ev_yesM, List.append_nil, List.cons_append, List.nil_append, List.length_cons, List.length_nil, Nat.zero_add, Nat.reduceAdd, reduceIte, addD, subD, ltD, gtD, geD, leD, negD, DL.intD, absD, lenD, truD, DL.isNon, truB, strCD, extS, apS, DL.setAll, DL.assignT, List.getElem?_cons_succ, List.getElem?_cons_zero, List.set_cons_succ, List.set_cons_zero, if_true, Bool.false_eq_true, if_false, Bool.not_true, Bool.not_false, W_ok, W_exc, KS_nx, KS_rt, Bool.true_and, Bool.and_true, Bool.false_or, Bool.or_false, Bool.and_false, Bool.or_true, Bool.false_and, Bool.true_or, ea, KL_nx, true_and]
    exact ⟨l ++ [x], _, _, by rw [e1]; simp, by rw [List.map_append, show List.map (fun x : (Int × Int) × (Int × Int) => lmul x.1 x.2) [x] = [lmul x.1 x.2] from rfl, lsum_snoc]⟩
  · rintro env s' ⟨hs', l, x3, x4, e1, he⟩
    subst hs'; subst he
    rw [List.append_nil] at e1
    rw [KS_nx]
    simp only [ev_m1, ev_m2, ev_consM, ev_callM, ev_callF, ev_truM, ev_andT, ev_orT, ev_notT, ev_andV, ev_orV, ev_notV, ev_ifM, ev_tupM, ev_lstM, ev_partM, ev_parS, ev_par3S, ev_parOS, ev_asgS, ev_setS, ev_retS, ev_exprS, ev_ifS, ev_ownS, ev_raiseS, ev_makeF, ev_methF, ev_chT, ev_itM, ev_itA, ev_sliceM, ev_selfS, ev_penGet, ev_penPut, ev_mStr1, ev_thenS, ev_bindM, ev_retM, ev_optM, ev_mVar, ev_nextS, frzS, ev_yesM, List.append_nil, List.cons_append, List.nil_append, List.length_cons, List.length_nil, Nat.zero_add, Nat.reduceAdd, reduceIte, addD, subD, ltD, gtD, geD, leD, negD, DL.intD, absD, lenD, truD, DL.isNon, truB, strCD, extS, apS, DL.setAll, DL.assignT, List.getElem?_cons_succ, List.getElem?_cons_zero, List.set_cons_succ, List.set_cons_zero, if_true, Bool.false_eq_true, if_false, Bool.not_true, Bool.not_false, W_ok, W_exc, KS_nx, KS_rt, Bool.true_and, Bool.and_true, Bool.false_or, Bool.or_false, Bool.and_false, Bool.or_true, Bool.false_and, Bool.true_or, ltot, e1]
theorem toPys_frac : ∀ ps : List (Int × Int), toPys (ps.map frac) = some (ps.map fun p => PyData.tuple [.int p.1, .int p.2])
  | [] => rfl
  | p :: ps => by
    rw [List.map_cons]
    unfold toPys
    rw [toPys_frac ps]
    rfl
theorem depth_frac : ∀ ps : List (Int × Int), PyData.depthAll (ps.map fun p => PyData.tuple [.int p.1, .int p.2]) ≤ 1
  | [] => Nat.zero_le _
  | p :: ps => by
    have := depth_frac ps
    show max 1 _ ≤ 1
    omega
theorem neD_nil (ps : List (Int × Int)) : neD (.lst (ps.map frac)) (.lst []) = some (.bl (!ps.isEmpty)) := by
  have e1 : toPy (.lst (ps.map frac)) = some (.list (ps.map fun p => PyData.tuple [.int p.1, .int p.2])) := by
    unfold toPy
    rw [toPys_frac]; rfl
  have d1 := depth_frac ps
  unfold neD eqvD
  rw [e1]
  show (if (PyData.list (ps.map fun p => PyData.tuple [.int p.1, .int p.2])).depth ≤ 64 ∧ (PyData.list []).depth ≤ 64 then _ else none : Option Bool).map (fun b => D.bl (!b)) = _
  rw [if_pos ⟨by show PyData.depthAll _ + 1 ≤ 64; omega, by decide⟩]
  cases ps with
  | nil => rfl
  | cons p ps => rfl
theorem cutL_but {α : Type} (ds : List α) : cutL ds none (some (-1)) = ds.take (ds.length - 1) := by
  unfold cutL
  show (ds.drop 0).take (HT.sIx ds.length ds.length (some (-1)) - 0) = _
  rw [show HT.sIx ds.length ds.length (some (-1)) = ds.length - 1 from by show ((-1 : Int) + (ds.length : Int)).toNat = _; omega]
  rfl
def lxTrim (fuel : DL.Env → Nat) : List D → Pen → R (D × Pen) Pen := runF 1
    (seqS (whileS fuel (andT (truM (m2 neD (mVar 0) (lstM (retM [])))) (truM (m2 eqD (m2 ixD (m2 ixD (mVar 0) (m1 negD (retM (.int 1)))) (retM (.int 0))) (retM (.int 0))))) (setS 0 (sliceM (mVar 0) (retM none) (partM (m1 negD (retM (.int 1)))))))
    (retS (mVar 0)))
def trimFuel : DL.Env → Nat := fun env => match env[0]? with | some (Slot.d (D.lst l)) => l.length + 1 | _ => 0
theorem lxTrim_ok {ps : List (Int × Int)} (s : Pen) : lxTrim trimFuel [.lst (ps.map frac)] s = .ok (.lst ((trimL ps).map frac), s) := by
  unfold lxTrim
  refine runF_W (env := [.d (.lst (ps.map frac))]) rfl ?_
  refine W.seq (W.whileN (fun n env s' => s' = s ∧ env = [.d (.lst ((ps.take n).map frac))] ∧ n ≤ ps.length ∧ trimN ps n = trimN ps ps.length) ?_ _ ps.length _ _ (by show _ < (ps.map frac).length + 1; rw [List.length_map]; omega) ⟨rfl, by rw [List.take_length], Nat.le_refl _, rfl⟩)
  rintro n env s' ⟨hs', he, hn, ht⟩
  subst hs'; subst he
  have nn := neD_nil (ps.take n)
  have fin : trimN ps n = n → W ((retS (mVar 0) : MS Pen) [.d (.lst ((ps.take n).map frac))] s') (fun os => os = (.rt (.lst ((trimL ps).map frac)), s')) noE := fun hf => by
    have e1 : ps.take n = trimL ps := by unfold trimL; rw [← ht, hf]
    simp only [ev_m1, ev_m2, ev_consM, ev_callM, ev_callF, ev_truM, ev_andT, ev_orT, ev_notT, ev_andV, ev_orV, ev_notV, ev_ifM, ev_tupM, ev_lstM, ev_partM, ev_parS, ev_par3S, ev_parOS, ev_asgS, ev_setS, ev_retS, ev_exprS, ev_ifS, ev_ownS, ev_raiseS, ev_makeF, ev_methF, ev_chT, ev_itM, ev_itA, ev_sliceM, ev_selfS, ev_penGet, ev_penPut, ev_mStr1, ev_thenS, ev_bindM, ev_retM, ev_optM, ev_mVar, ev_nextS, frzS, ev_yesM, List.append_nil, List.cons_append, List.nil_append, List.length_cons, List.length_nil, Nat.zero_add, Nat.reduceAdd, reduceIte, addD, subD, ltD, gtD, geD, leD, negD, DL.intD, absD, lenD, truD, DL.isNon, truB, strCD, extS, apS, DL.setAll, DL.assignT, List.getElem?_cons_succ, List.getElem?_cons_zero, List.set_cons_succ, List.set_cons_zero, if_true, Bool.false_eq_true, if_false, Bool.not_true, Bool.not_false, W_ok, W_exc, KS_nx, KS_rt, Bool.true_and, Bool.and_true, Bool.false_or, Bool.or_false, Bool.and_false, Bool.or_true, Bool.false_and, Bool.true_or, e1]
  cases n with
  | zero =>
    have nn : neD (.lst ((ps.take 0).map frac)) (.lst []) = some (.bl false) := by rw [nn]; rfl
    refine ⟨false, s', by simp only [ev_m1, ev_m2, ev_consM, ev_callM, ev_callF, ev_truM, ev_andT, ev_orT, ev_notT, ev_andV, ev_orV, ev_notV, ev_ifM, ev_tupM, ev_lstM, ev_partM, ev_parS, ev_par3S, ev_parOS, ev_asgS, ev_setS, ev_retS, ev_exprS, ev_ifS, ev_ownS, ev_raiseS, ev_makeF, ev_methF, ev_chT, ev_itM, ev_itA, ev_sliceM, ev_selfS, ev_penGet, ev_penPut, ev_mStr1, ev_thenS, ev_bindM, ev_retM, ev_optM, ev_mVar, ev_nextS, frzS, ev_yesM, List.append_nil, List.cons_append, List.nil_append, List.length_cons, List.length_nil, Nat.zero_add, Nat.reduceAdd, reduceIte, addD, subD, ltD, gtD, geD, leD, negD, DL.intD, absD, lenD, truD, DL.isNon, truB, strCD, extS, apS, DL.setAll, DL.assignT, List.getElem?_cons_succ, List.getElem?_cons_zero, List.set_cons_succ, List.set_cons_zero, if_true, Bool.false_eq_true, if_false, Bool.not_true, Bool.not_false, lstD, List.length_nil, Nat.zero_le, nn], fun _ => ?_, fun h => by cases h⟩
    rw [KS_nx]
    exact fin rfl
  | succ n =>
    obtain ⟨q, hq⟩ : ∃ q, ps[n]? = some q := ⟨_, List.getElem?_eq_getElem (by omega)⟩
    have hlast : (ps.take (n + 1)).getLast? = some q := by
      rw [List.getLast?_eq_getElem?, List.length_take, Nat.min_eq_left hn, List.getElem?_take_of_lt (by omega)]
      exact hq
    have nn : neD (.lst ((ps.take (n + 1)).map frac)) (.lst []) = some (.bl true) := by
      rw [nn]
      have : ps.take (n + 1) ≠ [] := fun z => by rw [z] at hlast; cases hlast
      cases z : ps.take (n + 1) with
      | nil => exact absurd z this
      | cons _ _ => rfl
    have e1 := ix_last frac hlast
    refine ⟨q.1 == 0, s', ?_, fun h => ?_, fun h => ?_⟩
    · simp only [ev_m1, ev_m2, ev_consM, ev_callM, ev_callF, ev_truM, ev_andT, ev_orT, ev_notT, ev_andV, ev_orV, ev_notV, ev_ifM, ev_tupM, ev_lstM, ev_partM, ev_parS, ev_par3S, ev_parOS, ev_asgS, ev_setS, ev_retS, ev_exprS, ev_ifS, ev_ownS, ev_raiseS, ev_makeF, ev_methF, ev_chT, ev_itM, ev_itA, ev_sliceM, ev_selfS, ev_penGet, ev_penPut, ev_mStr1, ev_thenS, ev_bindM, ev_retM, ev_optM, ev_mVar, ev_nextS, frzS, ev_yesM, List.append_nil, List.cons_append, List.nil_append, List.length_cons, List.length_nil, Nat.zero_add, Nat.reduceAdd, reduceIte, addD, subD, ltD, gtD, geD, leD, negD, DL.intD, absD, lenD, truD, DL.isNon, truB, strCD, extS, apS, DL.setAll, DL.assignT, List.getElem?_cons_succ, List.getElem?_cons_zero, List.set_cons_succ, List.set_cons_zero, if_true, Bool.false_eq_true, if_false, Bool.not_true, Bool.not_false, lstD, List.length_nil, Nat.zero_le, nn, show ixD (.lst ((ps.take (n + 1)).map frac)) (.int (-1)) = atI ((ps.take (n + 1)).map frac) (-1) from rfl, e1, frac0, eqD_int]
    · rw [KS_nx]
      refine fin ?_
      rw [trimN_s, hq]
      exact if_neg (beq_eq_false_iff_ne.mp h)
    · simp only [ev_m1, ev_m2, ev_consM, ev_callM, ev_callF, ev_truM, ev_andT, ev_orT, ev_notT, ev_andV, ev_orV, ev_notV, ev_ifM, ev_tupM, ev_lstM, ev_partM, ev_parS, ev_par3S, ev_parOS, ev_asgS, ev_setS, ev_retS, ev_exprS, ev_ifS, ev_ownS, ev_raiseS, ev_makeF, ev_methF, ev_chT, ev_itM, ev_itA, ev_sliceM, ev_selfS, ev_penGet, ev_penPut, ev_mStr1, ev_thenS, ev_bindM, ev_retM, ev_optM, ev_mVar, ev_nextS, frzS, ev_yesM, List.append_nil, List.cons_append, List.nil_append, List.length_cons, List.length_nil, Nat.zero_add, Nat.reduceAdd, reduceIte, addD, subD, ltD, gtD, geD, leD, negD, DL.intD, absD, lenD, truD, DL.isNon, truB, strCD, extS, apS, DL.setAll, DL.assignT, List.getElem?_cons_succ, List.getElem?_cons_zero, List.set_cons_succ, List.set_cons_zero, if_true, Bool.false_eq_true, if_false, Bool.not_true, Bool.not_false, W_ok, W_exc, KS_nx, KS_rt, Bool.true_and, Bool.and_true, Bool.false_or, Bool.or_false, Bool.and_false, Bool.or_true, Bool.false_and, Bool.true_or, partD, sliceD, cutL_but, List.length_map, List.length_take, KL_nx, true_and]
      refine ⟨n, Nat.lt_succ_self n, ?_, by omega, ?_⟩
      · rw [Nat.min_eq_left hn, ← List.map_take, List.take_take, Nat.add_sub_cancel, Nat.min_eq_left (by omega)]
      · rw [← ht, trimN_s, hq]
        exact (if_pos (beq_iff_eq.mp h)).symm
end DL
set_option Elab.async false
set_option linter.all false
set_option maxRecDepth 100000
set_option maxHeartbeats 4000000
namespace K22
open PySem PySem.Spec PyProof.Rows L2 DL
def flds : Nat → List Str
  | 0 => []
  | 1 => ["what", "value"]
  | 2 => ["value"]
  | 3 => ["value"]
  | 4 => ["what", "most"]
  | 5 => ["why"]
  | 6 => ["land"]
  | 7 => ["top", "bottom", "sign", "whole"]
  | 8 => ["numbers", "degree", "lead"]
  | 9 => ["poly", "weights", "many"]
  | 10 => ["heap"]
  | 11 => ["factor", "poly"]
  | 12 => ["factor", "poly", "other"]
  | _ => []
abbrev dcL (K : PySem.W.Frag) (cls : Nat → Addr) (T : List (Addr × Str)) : Option Addr → DC := mkDC K cls flds T
/-- the code objects of the defs that make lambdas, and their tables -/
structure Cs where
  law : Addr
structure TBs (base : Heap) (mg : Str → Option Value) (ca pa : Cs) : Prop where
  t_law : LamX.TabB base mg ca.law pa.law
def tabs (pa : Cs) : List (Addr × Str) := [(pa.law, lamQ "law")]
theorem mem_law {pa : Cs} : (pa.law, lamQ "law") ∈ tabs pa := List.Mem.head _
structure Fx (K : PySem.W.Frag) (mg : Str → Option Value) (cls : Nat → Addr) (ca pa : Cs) : Prop where
  ndT : ((tabs pa).map (·.1)).Nodup
  n_abs : mg "abs" = none
  n_all : mg "all" = none
  n_bool : mg "bool" = none
  n_gcd : mg "gcd" = some (.builtin "math.gcd")
  n_int : mg "int" = none
  n_isinstance : mg "isinstance" = none
  n_len : mg "len" = none
  n_list : mg "list" = none
  n_range : mg "range" = none
  n_repr : mg "repr" = none
  n_str : mg "str" = none
  n_tuple : mg "tuple" = none
  n_zip : mg "zip" = none
  c_LANDS : TupG K mg "LANDS" ["line", "ray", "stretch"]
  c_MOST_SUMS : ∃ t, mg "MOST_SUMS" = some (.int 12 t)
  g_BadNumber : mg "BadNumber" = some (.ref (cls 1))
  g_BadRow : mg "BadRow" = some (.ref (cls 2))
  g_BadItem : mg "BadItem" = some (.ref (cls 3))
  g_TooMany : mg "TooMany" = some (.ref (cls 4))
  g_BadLand : mg "BadLand" = some (.ref (cls 6))
  g_Found : mg "Found" = some (.ref (cls 10))
  g_Square : mg "Square" = some (.ref (cls 11))
  g_Clash : mg "Clash" = some (.ref (cls 12))
  x_BadNumber : ExcT PW K (cls 1) (flds 1)
  x_BadRow : ExcT PW K (cls 2) (flds 2)
  x_BadItem : ExcT PW K (cls 3) (flds 3)
  x_TooMany : ExcT PW K (cls 4) (flds 4)
  x_BadLand : ExcT PW K (cls 6) (flds 6)
  sf_Ratio : PySem.W.selfFirst K (cls 7) = true
  g_Ratio : mg "Ratio" = some (.ref (cls 7))
  k_Ratio : ∀ {so : Option Addr}, ClsD (dcL K cls (tabs pa) so) 7
  g_Poly : mg "Poly" = some (.ref (cls 8))
  k_Poly : ∀ {so : Option Addr}, ClsD (dcL K cls (tabs pa) so) 8
  kb_bool : KTb K cls (.type "bool") [(7, false), (8, false)]
  kb_int : KTb K cls (.type "int") [(7, false), (8, false)]
  kb_list : KTb K cls (.type "list") [(7, false), (8, false)]
  kb_str : KTb K cls (.type "str") [(7, false), (8, false)]
  kb_tuple : KTb K cls (.type "tuple") [(7, false), (8, false)]
  kt_Clash : KTab K (.ref (cls 12)) false false false false false false
  kb_Clash : KTb K cls (.ref (cls 12)) [(7, false), (8, false)]
  kt_Found : KTab K (.ref (cls 10)) false false false false false false
  kb_Found : KTb K cls (.ref (cls 10)) [(7, false), (8, false)]
  kt_Poly : KTab K (.ref (cls 8)) false false false false false false
  kb_Poly : KTb K cls (.ref (cls 8)) [(7, false), (8, true)]
  kt_Ratio : KTab K (.ref (cls 7)) false false false false false false
  kb_Ratio : KTb K cls (.ref (cls 7)) [(7, true), (8, false)]
  kt_Square : KTab K (.ref (cls 11)) false false false false false false
  kb_Square : KTb K cls (.ref (cls 11)) [(7, false), (8, false)]
  e__law_complaint_0 : ExL K cls (.ref (cls 3)) [(3, true), (2, false), (6, false), (4, false)]
  e__law_complaint_1 : ExL K cls (.ref (cls 2)) [(2, true), (6, false), (4, false)]
  e__law_complaint_2 : ExL K cls (.ref (cls 6)) [(6, true), (4, false)]
  e__law_complaint_3 : ExL K cls (.ref (cls 4)) [(4, true)]
  d__law_draw : ∃ f fd, mg "_law_draw" = some (.ref f) ∧ PySem.W.keepIn K (.ref f) = true ∧ FunD K "_law_draw" "_law_draw" (defArgs (top 121)) (defBody (top 121)) (defScope (top 121)) [] [] f fd ∧ Binds K fd ["pen", "many"] []
  d__law_gcd : ∃ f fd, mg "_law_gcd" = some (.ref f) ∧ PySem.W.keepIn K (.ref f) = true ∧ FunD K "_law_gcd" "_law_gcd" (defArgs (top 123)) (defBody (top 123)) (defScope (top 123)) [] [] f fd ∧ Binds K fd ["a", "b"] []
  d__law_f : ∃ f fd, mg "_law_f" = some (.ref f) ∧ PySem.W.keepIn K (.ref f) = true ∧ FunD K "_law_f" "_law_f" (defArgs (top 124)) (defBody (top 124)) (defScope (top 124)) [] [] f fd ∧ Binds K fd ["top", "bottom"] []
  d__law_some_f : ∃ f fd, mg "_law_some_f" = some (.ref f) ∧ PySem.W.keepIn K (.ref f) = true ∧ FunD K "_law_some_f" "_law_some_f" (defArgs (top 129)) (defBody (top 129)) (defScope (top 129)) [] [] f fd ∧ Binds K fd ["pen", "most", "bottoms"] []
  d__law_trim : ∃ f fd, mg "_law_trim" = some (.ref f) ∧ PySem.W.keepIn K (.ref f) = true ∧ FunD K "_law_trim" "_law_trim" (defArgs (top 128)) (defBody (top 128)) (defScope (top 128)) [] [] f fd ∧ Binds K fd ["p"] []
  d__law_listed : ∃ f fd, mg "_law_listed" = some (.ref f) ∧ PySem.W.keepIn K (.ref f) = true ∧ FunD K "_law_listed" "_law_listed" (defArgs (top 131)) (defBody (top 131)) (defScope (top 131)) [] [] f fd ∧ Binds K fd ["pen", "row"] []
  d_is_integer : ∃ f fd, mg "is_integer" = some (.ref f) ∧ PySem.W.keepIn K (.ref f) = true ∧ FunD K "is_integer" "is_integer" (defArgs (top 11)) (defBody (top 11)) (defScope (top 11)) [] [] f fd ∧ Binds K fd ["value"] []
  d_Ratio___init___1 : ∃ f fd, Mk K (cls 7) f ∧ FunD K "__init__" "Ratio.__init__" (defArgs (cst 16 0)) (defBody (cst 16 0)) (defScope (cst 16 0)) [.int 1] [] f fd ∧ ∃ ds, Vals [.int 1] ds ∧ Binds K fd ["self", "top", "bottom"] ds
  d_Ratio___init___2 : ∃ f fd, Mk K (cls 7) f ∧ FunD K "__init__" "Ratio.__init__" (defArgs (cst 16 0)) (defBody (cst 16 0)) (defScope (cst 16 0)) [.int 1] [] f fd ∧ ∃ ds, Vals [] ds ∧ Binds K fd ["self", "top", "bottom"] ds
  d__law_ratio : ∃ f fd, mg "_law_ratio" = some (.ref f) ∧ PySem.W.keepIn K (.ref f) = true ∧ FunD K "_law_ratio" "_law_ratio" (defArgs (top 132)) (defBody (top 132)) (defScope (top 132)) [] [] f fd ∧ Binds K fd ["item"] []
  d__law_complaint : ∃ f fd, mg "_law_complaint" = some (.ref f) ∧ PySem.W.keepIn K (.ref f) = true ∧ Fun K "_law_complaint" "_law_complaint" (top 133) f fd ∧ Binds K fd ["call"] []
  d_is_row : ∃ f fd, mg "is_row" = some (.ref f) ∧ PySem.W.keepIn K (.ref f) = true ∧ FunD K "is_row" "is_row" (defArgs (top 13)) (defBody (top 13)) (defScope (top 13)) [] [] f fd ∧ Binds K fd ["value"] []
  d_is_number_heaps : ∃ f fd, mg "is_number_heaps" = some (.ref f) ∧ PySem.W.keepIn K (.ref f) = true ∧ FunD K "is_number" "is_number" (defArgs (top 72)) (defBody (top 72)) (defScope (top 72)) [] [] f fd ∧ Binds K fd ["value"] []
  d_is_number_ratios : ∃ f fd, mg "is_number_ratios" = some (.ref f) ∧ PySem.W.keepIn K (.ref f) = true ∧ FunD K "is_number" "is_number" (defArgs (top 18)) (defBody (top 18)) (defScope (top 18)) [] [] f fd ∧ Binds K fd ["value"] []
  d_plain_ratio : ∃ f fd, mg "plain_ratio" = some (.ref f) ∧ PySem.W.keepIn K (.ref f) = true ∧ FunD K "plain_ratio" "plain_ratio" (defArgs (top 20)) (defBody (top 20)) (defScope (top 20)) [] [] f fd ∧ Binds K fd ["value"] []
  d_ratio_of : ∃ f fd, mg "ratio_of" = some (.ref f) ∧ PySem.W.keepIn K (.ref f) = true ∧ FunD K "ratio_of" "ratio_of" (defArgs (top 21)) (defBody (top 21)) (defScope (top 21)) [] [] f fd ∧ Binds K fd ["number"] []
  d_need_sums : ∃ f fd, mg "need_sums" = some (.ref f) ∧ PySem.W.keepIn K (.ref f) = true ∧ FunD K "need_sums" "need_sums" (defArgs (top 85)) (defBody (top 85)) (defScope (top 85)) [] [] f fd ∧ Binds K fd ["row"] []
  d_Ratio___mul__ : ∃ f fd, Meth K (cls 7) "__mul__" f ∧ FunD K "__mul__" "Ratio.__mul__" (defArgs (cst 16 8)) (defBody (cst 16 8)) (defScope (cst 16 8)) [] [] f fd ∧ Binds K fd ["self", "other"] []
  d_Ratio___add__ : ∃ f fd, Meth K (cls 7) "__add__" f ∧ FunD K "__add__" "Ratio.__add__" (defArgs (cst 16 4)) (defBody (cst 16 4)) (defScope (cst 16 4)) [] [] f fd ∧ Binds K fd ["self", "other"] []
  d_summed_totals : ∃ f fd, mg "summed_totals" = some (.ref f) ∧ PySem.W.keepIn K (.ref f) = true ∧ FunD K "summed" "summed" (defArgs (top 59)) (defBody (top 59)) (defScope (top 59)) [] [] f fd ∧ Binds K fd ["row", "poly"] []
  d_row_total : ∃ f fd, mg "row_total" = some (.ref f) ∧ PySem.W.keepIn K (.ref f) = true ∧ FunD K "row_total" "row_total" (defArgs (top 86)) (defBody (top 86)) (defScope (top 86)) [] [] f fd ∧ Binds K fd ["row", "poly"] []
  d_without_zeros : ∃ f fd, mg "without_zeros" = some (.ref f) ∧ PySem.W.keepIn K (.ref f) = true ∧ FunD K "without_zeros" "without_zeros" (defArgs (top 24)) (defBody (top 24)) (defScope (top 24)) [] [] f fd ∧ Binds K fd ["ratios"] []
  d_need_numbers : ∃ f fd, mg "need_numbers" = some (.ref f) ∧ PySem.W.keepIn K (.ref f) = true ∧ FunD K "need_numbers" "need_numbers" (defArgs (top 22)) (defBody (top 22)) (defScope (top 22)) [] [] f fd ∧ Binds K fd ["numbers"] []
  d_Poly___init___1 : ∃ f fd a0, Mk K (cls 8) f ∧ FunD K "__init__" "Poly.__init__" (defArgs (cst 30 0)) (defBody (cst 30 0)) (defScope (cst 30 0)) [.ref a0] [] f fd ∧ ∃ ds, Vals [] ds ∧ Binds K fd ["self", "numbers"] ds
  d__law_add : ∃ f fd, mg "_law_add" = some (.ref f) ∧ PySem.W.keepIn K (.ref f) = true ∧ FunD K "_law_add" "_law_add" (defArgs (top 125)) (defBody (top 125)) (defScope (top 125)) [] [] f fd ∧ Binds K fd ["a", "b"] []
  d__law_sum : ∃ f fd, mg "_law_sum" = some (.ref f) ∧ PySem.W.keepIn K (.ref f) = true ∧ FunD K "_law_sum" "_law_sum" (defArgs (top 127)) (defBody (top 127)) (defScope (top 127)) [] [] f fd ∧ Binds K fd ["items"] []
  d__law_mul : ∃ f fd, mg "_law_mul" = some (.ref f) ∧ PySem.W.keepIn K (.ref f) = true ∧ FunD K "_law_mul" "_law_mul" (defArgs (top 126)) (defBody (top 126)) (defScope (top 126)) [] [] f fd ∧ Binds K fd ["a", "b"] []
  d__law_total : ∃ f fd, mg "_law_total" = some (.ref f) ∧ PySem.W.keepIn K (.ref f) = true ∧ FunD K "_law_total" "_law_total" (defArgs (top 130)) (defBody (top 130)) (defScope (top 130)) [] [] f fd ∧ Binds K fd ["row", "p"] []
  d__law_pick : ∃ f fd, mg "_law_pick" = some (.ref f) ∧ PySem.W.keepIn K (.ref f) = true ∧ FunD K "_law_pick" "_law_pick" (defArgs (top 122)) (defBody (top 122)) (defScope (top 122)) [] [] f fd ∧ Binds K fd ["pen", "some"] []
  d_need_land : ∃ f fd, mg "need_land" = some (.ref f) ∧ PySem.W.keepIn K (.ref f) = true ∧ FunD K "need_land" "need_land" (defArgs (top 103)) (defBody (top 103)) (defScope (top 103)) [] [] f fd ∧ Binds K fd ["land"] []
  d_settle_row : ∃ f fd, mg "settle_row" = some (.ref f) ∧ PySem.W.keepIn K (.ref f) = true ∧ FunD K "settle_row" "settle_row" (defArgs (top 113)) (defBody (top 113)) (defScope (top 113)) [] [] f fd ∧ Binds K fd ["row", "land"] []
  d_row_fault : ∃ f fd, mg "row_fault" = some (.ref f) ∧ PySem.W.keepIn K (.ref f) = true ∧ FunD K "row_fault" "row_fault" (defArgs (top 118)) (defBody (top 118)) (defScope (top 118)) [] [] f fd ∧ Binds K fd ["row", "land", "answer"] []
  d_need_factor : ∃ f fd, mg "need_factor" = some (.ref f) ∧ PySem.W.keepIn K (.ref f) = true ∧ FunD K "need_factor" "need_factor" (defArgs (top 87)) (defBody (top 87)) (defScope (top 87)) [] [] f fd ∧ Binds K fd ["factor"] []
  d_table_of : ∃ f fd, mg "table_of" = some (.ref f) ∧ PySem.W.keepIn K (.ref f) = true ∧ FunD K "table_of" "table_of" (defArgs (top 89)) (defBody (top 89)) (defScope (top 89)) [] [] f fd ∧ Binds K fd ["row", "factor"] []
  d_minors : ∃ f fd, mg "minors" = some (.ref f) ∧ PySem.W.keepIn K (.ref f) = true ∧ FunD K "minors" "minors" (defArgs (top 91)) (defBody (top 91)) (defScope (top 91)) [] [] f fd ∧ Binds K fd ["row", "factor"] []
  d_split : ∃ f fd, mg "split" = some (.ref f) ∧ PySem.W.keepIn K (.ref f) = true ∧ FunD K "split" "split" (defArgs (top 92)) (defBody (top 92)) (defScope (top 92)) [] [] f fd ∧ Binds K fd ["row", "factor"] []
  d__law_pen : ∃ f fd, mg "_law_pen" = some (.ref f) ∧ PySem.W.keepIn K (.ref f) = true ∧ Fun K "_law_pen" "_law_pen" (top 120) f fd ∧ Binds K fd ["script"] []
section
variable {w : World} {K : PySem.W.Frag} {mg : Str → Option Value} {base : Heap} {cls : Nat → Addr} {ca pa : Cs}
abbrev st__law_draw : Stmt := (top 121)
theorem sc__law_draw : FnScope ["pen", "many", "cell", "digit", "mixed"] ["pen", "many"] (defScope st__law_draw) := ⟨rfl, rfl, rfl, by decide +kernel, rfl, by decide +kernel, by decide +kernel⟩
def m__law_draw : MS Pen :=
    (seqS (penPut 3 (mVar 0) (m2 addD (penGet 3 (mVar 0)) (retM (.int 1))))
    (seqS (ifS (andT (truM (m2 eqD (penGet 2 (mVar 0)) (retM (.int 0)))) (truM (m2 ltD (penGet 1 (mVar 0)) (callM lenD (consM (penGet 0 (mVar 0)) (retM [])))))) (seqS (setS 2 (m2 ixD (penGet 0 (mVar 0)) (penGet 1 (mVar 0))))
    (seqS (penPut 1 (mVar 0) (m2 addD (penGet 1 (mVar 0)) (retM (.int 1))))
    (ifS (truM (m2 geD (mVar 2) (m2 powD (retM (.int 10)) (retM (.int 18))))) (penPut 2 (mVar 0) (m2 subD (mVar 2) (m2 powD (retM (.int 10)) (retM (.int 18))))) (penPut 4 (mVar 0) (m2 modD (callM intD (consM (m2 addD (m2 mulD (penGet 4 (mVar 0)) (retM (.int 69069))) (mVar 2)) (retM []))) (retM (.int 2147483587))))))) nextS)
    (seqS (ifS (truM (m2 gtD (penGet 2 (mVar 0)) (retM (.int 0)))) (seqS (setS 3 (m2 modD (callM intD (consM (penGet 2 (mVar 0)) (retM []))) (mVar 1)))
    (seqS (penPut 2 (mVar 0) (m2 fdivD (penGet 2 (mVar 0)) (mVar 1)))
    (retS (mVar 3)))) nextS)
    (seqS (setS 4 (m2 addD (m2 addD (penGet 4 (mVar 0)) (m2 mulD (penGet 3 (mVar 0)) (retM (.int 7907)))) (retM (.int 37))))
    (retS (m2 modD (m2 fdivD (callM intD (consM (m2 modD (m2 powD (mVar 4) (retM (.int 17))) (retM (.int 2305843009213693951))) (retM []))) (retM (.int 128))) (mVar 1)))))))
def f__law_draw : List D → Pen → R (D × Pen) Pen := runF 5 m__law_draw
theorem p__law_draw (Fx : Fx K mg cls ca pa) (TB : TBs base mg ca pa) : GF PW w K mg base (dcL K cls (tabs pa)) 1 "_law_draw" [] (spD (dcL K cls (tabs pa)) (penJ K) 2 f__law_draw) := by
  obtain ⟨f, fd, hm, kp, Fu, hb⟩ := Fx.d__law_draw
  exact ⟨f, fd, _, [], [], fnD_of Fu sc__law_draw (fun _ => rfl) rfl (fun {cd A outer s H E so B} o => by
    unfold m__law_draw
    exact (ss_cons (s_pput (i := 3) rfl o.hu (d_var 0) (d_add (d_pget (i := 3) rfl o.hu (d_var 0)) d_int))
    (ss_cons (s_if (L2.PW.pt (t_and (t_eq o.hk o.hu (d_pget (i := 2) rfl o.hu (d_var 0)) d_int) (t_and1 (t_lt (d_pget (i := 1) rfl o.hu (d_var 0)) (d_len o.hk Fx.n_len (d_pget (i := 0) rfl o.hu (d_var 0))))))) (ss_cons (s_set (i := 2) sc__law_draw.nd (d_ix o.hk (d_pget (i := 0) rfl o.hu (d_var 0)) (d_pget (i := 1) rfl o.hu (d_var 0))))
    (ss_cons (s_pput (i := 1) rfl o.hu (d_var 0) (d_add (d_pget (i := 1) rfl o.hu (d_var 0)) d_int))
    (ss_one (s_if (t_ge (d_var 2) (d_pow d_int d_int)) (ss_one (s_pput (i := 2) rfl o.hu (d_var 0) (d_sub (d_var 2) (d_pow d_int d_int)))) (ss_one (s_pput (i := 4) rfl o.hu (d_var 0) (d_mod (d_intC Fx.n_int (d_add (d_mul (d_pget (i := 4) rfl o.hu (d_var 0)) d_int) (d_var 2))) d_int))))))) ss_nil)
    (ss_cons (s_if (t_gt (d_pget (i := 2) rfl o.hu (d_var 0)) d_int) (ss_cons (s_set (i := 3) sc__law_draw.nd (d_mod (d_intC Fx.n_int (d_pget (i := 2) rfl o.hu (d_var 0))) (d_var 1)))
    (ss_cons (s_pput (i := 2) rfl o.hu (d_var 0) (d_fdiv (d_pget (i := 2) rfl o.hu (d_var 0)) (d_var 1)))
    (ss_one (s_ret (d_var 3))))) ss_nil)
    (ss_cons (s_set (i := 4) sc__law_draw.nd (d_add (d_add (d_pget (i := 4) rfl o.hu (d_var 0)) (d_mul (d_pget (i := 3) rfl o.hu (d_var 0)) d_int)) d_int))
    (ss_one (s_ret (d_mod (d_fdiv (d_intC Fx.n_int (d_mod (d_pow (d_var 4) d_int) d_int)) d_int) (d_var 1))))))))), hm, kp, hb, .nil, fun _ _ => rfl⟩
abbrev st__law_gcd : Stmt := (top 123)
theorem sc__law_gcd : FnScope ["a", "b"] ["a", "b"] (defScope st__law_gcd) := ⟨rfl, rfl, rfl, by decide +kernel, rfl, by decide +kernel, by decide +kernel⟩
def fuel__law_gcd : DL.Env → Nat := fun env => match env[1]? with | some (Slot.d (D.int b)) => b.natAbs + 1 | _ => 0
def m__law_gcd : MS Pen :=
    (seqS (parS 0 1 (consM (callM absD (consM (mVar 0) (retM []))) (consM (callM absD (consM (mVar 1) (retM []))) (retM []))))
    (seqS (whileS fuel__law_gcd (truM (m2 neD (mVar 1) (retM (.int 0)))) (parS 0 1 (consM (mVar 1) (consM (m2 modD (callM intD (consM (mVar 0) (retM []))) (mVar 1)) (retM [])))))
    (retS (mVar 0))))
def f__law_gcd : List D → Pen → R (D × Pen) Pen := runF 2 m__law_gcd
theorem p__law_gcd (Fx : Fx K mg cls ca pa) (TB : TBs base mg ca pa) : GF PW w K mg base (dcL K cls (tabs pa)) 1 "_law_gcd" [] (spD (dcL K cls (tabs pa)) (penJ K) 2 f__law_gcd) := by
  obtain ⟨f, fd, hm, kp, Fu, hb⟩ := Fx.d__law_gcd
  exact ⟨f, fd, _, [], [], fnD_of Fu sc__law_gcd (fun _ => rfl) rfl (fun {cd A outer s H E so B} o => by
    unfold m__law_gcd
    exact (ss_cons (s_par (i := 0) (j := 1) o.cm sc__law_gcd.nd (a_cons (d_abs Fx.n_abs (d_var 0)) (a_cons (d_abs Fx.n_abs (d_var 1)) a_nil)))
    (ss_cons (s_while (fuel := fuel__law_gcd) o.ps (t_ne o.hk o.hu (d_var 1) d_int) (ss_one (s_par (i := 0) (j := 1) o.cm sc__law_gcd.nd (a_cons (d_var 1) (a_cons (d_mod (d_intC Fx.n_int (d_var 0)) (d_var 1)) a_nil)))))
    (ss_one (s_ret (d_var 0)))))), hm, kp, hb, .nil, fun _ _ => rfl⟩
abbrev st__law_f : Stmt := (top 124)
theorem sc__law_f : FnScope ["top", "bottom", "both", "sign"] ["top", "bottom"] (defScope st__law_f) := ⟨rfl, rfl, rfl, by decide +kernel, rfl, by decide +kernel, by decide +kernel⟩
def m__law_f : MS Pen :=
    (seqS (setS 2 (callF 2 f__law_gcd [] (consM (mVar 0) (consM (mVar 1) (retM [])))))
    (seqS (setS 3 (ifM (truM (m2 gtD (mVar 1) (retM (.int 0)))) (retM (.int 1)) (m1 negD (retM (.int 1)))))
    (retS (tupM (consM (m2 fdivD (m2 mulD (mVar 3) (mVar 0)) (mVar 2)) (consM (m2 fdivD (m2 mulD (mVar 3) (mVar 1)) (mVar 2)) (retM [])))))))
def f__law_f : List D → Pen → R (D × Pen) Pen := runF 4 m__law_f
theorem p__law_f (Fx : Fx K mg cls ca pa) (TB : TBs base mg ca pa) : GF PW w K mg base (dcL K cls (tabs pa)) 2 "_law_f" [] (spD (dcL K cls (tabs pa)) (penJ K) 2 f__law_f) := by
  obtain ⟨f, fd, hm, kp, Fu, hb⟩ := Fx.d__law_f
  exact ⟨f, fd, _, [], [], fnD_of Fu sc__law_f (fun _ => rfl) rfl (fun {cd A outer s H E so B} o => by
    unfold m__law_f
    exact (ss_cons (s_set (i := 2) sc__law_f.nd (d_call (p__law_gcd Fx TB) o (a_cons (d_var 0) (a_cons (d_var 1) a_nil))))
    (ss_cons (s_set (i := 3) sc__law_f.nd (d_ifE (t_gt (d_var 1) d_int) d_int (d_neg d_int)))
    (ss_one (s_ret (d_tup (a_cons (d_fdiv (d_mul (d_var 3) (d_var 0)) (d_var 2)) (a_cons (d_fdiv (d_mul (d_var 3) (d_var 1)) (d_var 2)) a_nil)))))))), hm, kp, hb, .nil, fun _ _ => rfl⟩
abbrev st__law_some_f : Stmt := (top 129)
theorem sc__law_some_f : FnScope ["pen", "most", "bottoms", "bottom"] ["pen", "most", "bottoms"] (defScope st__law_some_f) := ⟨rfl, rfl, rfl, by decide +kernel, rfl, by decide +kernel, by decide +kernel⟩
def m__law_some_f : MS Pen :=
    (seqS (setS 3 (m2 addD (retM (.int 1)) (callF 2 f__law_draw [] (consM (mVar 0) (consM (mVar 2) (retM []))))))
    (retS (callF 2 f__law_f [] (consM (m2 subD (callF 2 f__law_draw [] (consM (mVar 0) (consM (m2 addD (m2 mulD (m2 mulD (retM (.int 2)) (mVar 1)) (mVar 3)) (retM (.int 1))) (retM [])))) (m2 mulD (mVar 1) (mVar 3))) (consM (mVar 3) (retM []))))))
def f__law_some_f : List D → Pen → R (D × Pen) Pen := runF 4 m__law_some_f
theorem p__law_some_f (Fx : Fx K mg cls ca pa) (TB : TBs base mg ca pa) : GF PW w K mg base (dcL K cls (tabs pa)) 3 "_law_some_f" [] (spD (dcL K cls (tabs pa)) (penJ K) 3 f__law_some_f) := by
  obtain ⟨f, fd, hm, kp, Fu, hb⟩ := Fx.d__law_some_f
  exact ⟨f, fd, _, [], [], fnD_of Fu sc__law_some_f (fun _ => rfl) rfl (fun {cd A outer s H E so B} o => by
    unfold m__law_some_f
    exact (ss_cons (s_set (i := 3) sc__law_some_f.nd (d_add d_int (d_call (p__law_draw Fx TB) o (a_cons (d_var 0) (a_cons (d_var 2) a_nil)))))
    (ss_one (s_ret (d_call (p__law_f Fx TB) o (a_cons (d_sub (d_call (p__law_draw Fx TB) o (a_cons (d_var 0) (a_cons (d_add (d_mul (d_mul d_int (d_var 1)) (d_var 3)) d_int) a_nil))) (d_mul (d_var 1) (d_var 3))) (a_cons (d_var 3) a_nil))))))), hm, kp, hb, .nil, fun _ _ => rfl⟩
abbrev st__law_trim : Stmt := (top 128)
theorem sc__law_trim : FnScope ["p"] ["p"] (defScope st__law_trim) := ⟨rfl, rfl, rfl, by decide +kernel, rfl, by decide +kernel, by decide +kernel⟩
def fuel__law_trim : DL.Env → Nat := fun env => match env[0]? with | some (Slot.d (D.lst l)) => l.length + 1 | _ => 0
def m__law_trim : MS Pen :=
    (seqS (whileS fuel__law_trim (andT (truM (m2 neD (mVar 0) (lstM (retM [])))) (truM (m2 eqD (m2 ixD (m2 ixD (mVar 0) (m1 negD (retM (.int 1)))) (retM (.int 0))) (retM (.int 0))))) (setS 0 (sliceM (mVar 0) (retM none) (partM (m1 negD (retM (.int 1)))))))
    (retS (mVar 0)))
def f__law_trim : List D → Pen → R (D × Pen) Pen := runF 1 m__law_trim
theorem p__law_trim (Fx : Fx K mg cls ca pa) (TB : TBs base mg ca pa) : GF PW w K mg base (dcL K cls (tabs pa)) 1 "_law_trim" [] (spD (dcL K cls (tabs pa)) (penJ K) 1 f__law_trim) := by
  obtain ⟨f, fd, hm, kp, Fu, hb⟩ := Fx.d__law_trim
  exact ⟨f, fd, _, [], [], fnD_of Fu sc__law_trim (fun _ => rfl) rfl (fun {cd A outer s H E so B} o => by
    unfold m__law_trim
    exact (ss_cons (s_while (fuel := fuel__law_trim) o.ps (L2.PW.pt (t_and (t_ne o.hk o.hu (d_var 0) (d_lst a_nil)) (t_and1 (t_eq o.hk o.hu (d_ix o.hk (d_ix o.hk (d_var 0) (d_neg d_int)) d_int) d_int)))) (ss_one (s_set (i := 0) sc__law_trim.nd (d_slice o.hk (d_var 0) o_none (o_some (d_neg d_int))))))
    (ss_one (s_ret (d_var 0))))), hm, kp, hb, .nil, fun _ _ => rfl⟩
abbrev st__law_listed : Stmt := (top 131)
theorem sc__law_listed : FnScope ["pen", "row"] ["pen", "row"] (defScope st__law_listed) := ⟨rfl, rfl, rfl, by decide +kernel, rfl, by decide +kernel, by decide +kernel⟩
def m__law_listed : MS Pen :=
    (retS (ifM (truM (m2 eqD (callF 2 f__law_draw [] (consM (mVar 0) (consM (retM (.int 2)) (retM [])))) (retM (.int 0)))) (callM listD (consM (mVar 1) (retM []))) (callM tupleD (consM (mVar 1) (retM [])))))
def f__law_listed : List D → Pen → R (D × Pen) Pen := runF 2 m__law_listed
theorem p__law_listed (Fx : Fx K mg cls ca pa) (TB : TBs base mg ca pa) : GF PW w K mg base (dcL K cls (tabs pa)) 2 "_law_listed" [] (spD (dcL K cls (tabs pa)) (penJ K) 2 f__law_listed) := by
  obtain ⟨f, fd, hm, kp, Fu, hb⟩ := Fx.d__law_listed
  exact ⟨f, fd, _, [], [], fnD_of Fu sc__law_listed (fun _ => rfl) rfl (fun {cd A outer s H E so B} o => by
    unfold m__law_listed
    exact (ss_one (s_ret (d_ifE (t_eq o.hk o.hu (d_call (p__law_draw Fx TB) o (a_cons (d_var 0) (a_cons d_int a_nil))) d_int) (d_listC o.hk Fx.n_list (d_var 1)) (d_tupleC o.hk Fx.n_tuple (d_var 1)))))), hm, kp, hb, .nil, fun _ _ => rfl⟩
abbrev st_is_integer : Stmt := (top 11)
theorem sc_is_integer : FnScope ["value"] ["value"] (defScope st_is_integer) := ⟨rfl, rfl, rfl, by decide +kernel, rfl, by decide +kernel, by decide +kernel⟩
def m_is_integer : MS Pen :=
    (retS (andV (m1 (isiD false true true false false false [(7, false), (8, false)]) (mVar 0)) (notV (m1 (isiD false true false false false false [(7, false), (8, false)]) (mVar 0)))))
def f_is_integer : List D → Pen → R (D × Pen) Pen := runF 1 m_is_integer
theorem p_is_integer (Fx : Fx K mg cls ca pa) (TB : TBs base mg ca pa) : GF PW w K mg base (dcL K cls (tabs pa)) 1 "is_integer" [] (spD (dcL K cls (tabs pa)) (penJ K) 1 f_is_integer) := by
  obtain ⟨f, fd, hm, kp, Fu, hb⟩ := Fx.d_is_integer
  exact ⟨f, fd, _, [], [], fnD_of Fu sc_is_integer (fun _ => rfl) rfl (fun {cd A outer s H E so B} o => by
    unfold m_is_integer
    exact (ss_one (s_ret (d_and o.hk (d_isi o.hk Fx.n_isinstance (.ty _) kt_int Fx.kb_int (d_var 0) (L2.pe_bltn rfl Fx.n_int (by decide +kernel) rfl)) (d_one (d_not o.hk (d_isi o.hk Fx.n_isinstance (.ty _) kt_bool Fx.kb_bool (d_var 0) (L2.pe_bltn rfl Fx.n_bool (by decide +kernel) rfl)))))))), hm, kp, hb, .nil, fun _ _ => rfl⟩
abbrev st_Ratio___init__ : Stmt := (cst 16 0)
theorem sc_Ratio___init__ : FnScope ["self", "top", "bottom", "shared"] ["self", "top", "bottom"] (defScope st_Ratio___init__) := ⟨rfl, rfl, rfl, by decide +kernel, rfl, by decide +kernel, by decide +kernel⟩
def m_Ratio___init__ : MS Pen :=
    (seqS (ifS (notT (truM (callF 1 f_is_integer [] (consM (mVar 1) (retM []))))) (raiseS 1 2 (consM (retM (.str "top")) (consM (mVar 1) (retM [])))) nextS)
    (seqS (ifS (orT (notT (truM (callF 1 f_is_integer [] (consM (mVar 2) (retM []))))) (truM (m2 eqD (mVar 2) (retM (.int 0))))) (raiseS 1 2 (consM (retM (.str "bottom")) (consM (mVar 2) (retM [])))) nextS)
    (seqS (setS 3 (ifM (truM (m2 gtD (mVar 2) (retM (.int 0)))) (callM gcdD (consM (mVar 1) (consM (mVar 2) (retM [])))) (m1 negD (callM gcdD (consM (mVar 1) (consM (mVar 2) (retM [])))))))
    (seqS (selfS 0 7 0 (m2 fdivD (mVar 1) (mVar 3)))
    (seqS (selfS 0 7 1 (m2 fdivD (mVar 2) (mVar 3)))
    (seqS (selfS 0 7 2 (m2 subD (m2 gtD (mSelf 0 7 0) (retM (.int 0))) (m2 ltD (mSelf 0 7 0) (retM (.int 0)))))
    (selfS 0 7 3 (m2 eqD (mSelf 0 7 1) (retM (.int 1))))))))))
def f_Ratio___init__ : List D → Pen → R (List D × Pen) Pen := runI 4 7 4 m_Ratio___init__
theorem p_Ratio___init___1 (Fx : Fx K mg cls ca pa) (TB : TBs base mg ca pa) : GI PW w K mg base (dcL K cls (tabs pa)) 2 "Ratio" 7 [.int 1] (spI (dcL K cls (tabs pa)) (penJ K) 3 7 f_Ratio___init__) := by
  obtain ⟨f, fd, mk, Fu, ds, hds, hb⟩ := Fx.d_Ratio___init___1
  exact ⟨f, fd, _, ds, [.int 1], fnI_of Fu sc_Ratio___init__ (fun _ => rfl) rfl (fun _ => rfl) (fun {cd A outer s H E so B} o => by
    unfold m_Ratio___init__
    exact (ss_cons (s_if (t_not (d_test o.hk (d_call (p_is_integer Fx TB) o (a_cons (d_var 1) a_nil)))) (ss_one (s_raise (k := 1) (n := 2) Fx.x_BadNumber o Fx.g_BadNumber (a_cons d_str (a_cons (d_var 1) a_nil)))) ss_nil)
    (ss_cons (s_if (L2.PW.pt (t_or (t_not (d_test o.hk (d_call (p_is_integer Fx TB) o (a_cons (d_var 2) a_nil)))) (t_or1 (t_eq o.hk o.hu (d_var 2) d_int)))) (ss_one (s_raise (k := 1) (n := 2) Fx.x_BadNumber o Fx.g_BadNumber (a_cons d_str (a_cons (d_var 2) a_nil)))) ss_nil)
    (ss_cons (s_set (i := 3) sc_Ratio___init__.nd (d_ifE (t_gt (d_var 2) d_int) (d_gcd Fx.n_gcd (a_cons (d_var 1) (a_cons (d_var 2) a_nil))) (d_neg (d_gcd Fx.n_gcd (a_cons (d_var 1) (a_cons (d_var 2) a_nil))))))
    (ss_cons (s_self (i := 0) (jx := 0) o.hk Fx.k_Ratio rfl (d_fdiv (d_var 1) (d_var 3)))
    (ss_cons (s_self (i := 0) (jx := 1) o.hk Fx.k_Ratio rfl (d_fdiv (d_var 2) (d_var 3)))
    (ss_cons (s_self (i := 0) (jx := 2) o.hk Fx.k_Ratio rfl (d_sub (d_gt (d_self (i := 0) (jx := 0) o.hk Fx.k_Ratio rfl) d_int) (d_lt (d_self (i := 0) (jx := 0) o.hk Fx.k_Ratio rfl) d_int)))
    (ss_one (s_self (i := 0) (jx := 3) o.hk Fx.k_Ratio rfl (d_eq o.hk o.hu (d_self (i := 0) (jx := 1) o.hk Fx.k_Ratio rfl) d_int)))))))))), fun _ => Fx.g_Ratio, fun _ => mk, hb, hds, fun _ _ => ⟨_, _, rfl, rfl, rfl⟩⟩
theorem p_Ratio___init___2 (Fx : Fx K mg cls ca pa) (TB : TBs base mg ca pa) : GI PW w K mg base (dcL K cls (tabs pa)) 2 "Ratio" 7 [] (spI (dcL K cls (tabs pa)) (penJ K) 3 7 f_Ratio___init__) := by
  obtain ⟨f, fd, mk, Fu, ds, hds, hb⟩ := Fx.d_Ratio___init___2
  exact ⟨f, fd, _, ds, [], fnI_of Fu sc_Ratio___init__ (fun _ => rfl) rfl (fun _ => rfl) (fun {cd A outer s H E so B} o => by
    unfold m_Ratio___init__
    exact (ss_cons (s_if (t_not (d_test o.hk (d_call (p_is_integer Fx TB) o (a_cons (d_var 1) a_nil)))) (ss_one (s_raise (k := 1) (n := 2) Fx.x_BadNumber o Fx.g_BadNumber (a_cons d_str (a_cons (d_var 1) a_nil)))) ss_nil)
    (ss_cons (s_if (L2.PW.pt (t_or (t_not (d_test o.hk (d_call (p_is_integer Fx TB) o (a_cons (d_var 2) a_nil)))) (t_or1 (t_eq o.hk o.hu (d_var 2) d_int)))) (ss_one (s_raise (k := 1) (n := 2) Fx.x_BadNumber o Fx.g_BadNumber (a_cons d_str (a_cons (d_var 2) a_nil)))) ss_nil)
    (ss_cons (s_set (i := 3) sc_Ratio___init__.nd (d_ifE (t_gt (d_var 2) d_int) (d_gcd Fx.n_gcd (a_cons (d_var 1) (a_cons (d_var 2) a_nil))) (d_neg (d_gcd Fx.n_gcd (a_cons (d_var 1) (a_cons (d_var 2) a_nil))))))
    (ss_cons (s_self (i := 0) (jx := 0) o.hk Fx.k_Ratio rfl (d_fdiv (d_var 1) (d_var 3)))
    (ss_cons (s_self (i := 0) (jx := 1) o.hk Fx.k_Ratio rfl (d_fdiv (d_var 2) (d_var 3)))
    (ss_cons (s_self (i := 0) (jx := 2) o.hk Fx.k_Ratio rfl (d_sub (d_gt (d_self (i := 0) (jx := 0) o.hk Fx.k_Ratio rfl) d_int) (d_lt (d_self (i := 0) (jx := 0) o.hk Fx.k_Ratio rfl) d_int)))
    (ss_one (s_self (i := 0) (jx := 3) o.hk Fx.k_Ratio rfl (d_eq o.hk o.hu (d_self (i := 0) (jx := 1) o.hk Fx.k_Ratio rfl) d_int)))))))))), fun _ => Fx.g_Ratio, fun _ => mk, hb, hds, fun _ _ => rfl⟩
abbrev st__law_ratio : Stmt := (top 132)
theorem sc__law_ratio : FnScope ["item"] ["item"] (defScope st__law_ratio) := ⟨rfl, rfl, rfl, by decide +kernel, rfl, by decide +kernel, by decide +kernel⟩
def m__law_ratio : MS Pen :=
    (retS (makeF 7 2 f_Ratio___init__ [] (consM (m2 ixD (mVar 0) (retM (.int 0))) (consM (m2 ixD (mVar 0) (retM (.int 1))) (retM [])))))
def f__law_ratio : List D → Pen → R (D × Pen) Pen := runF 1 m__law_ratio
theorem p__law_ratio (Fx : Fx K mg cls ca pa) (TB : TBs base mg ca pa) : GF PW w K mg base (dcL K cls (tabs pa)) 4 "_law_ratio" [] (spD (dcL K cls (tabs pa)) (penJ K) 1 f__law_ratio) := by
  obtain ⟨f, fd, hm, kp, Fu, hb⟩ := Fx.d__law_ratio
  exact ⟨f, fd, _, [], [], fnD_of Fu sc__law_ratio (fun _ => rfl) rfl (fun {cd A outer s H E so B} o => by
    unfold m__law_ratio
    exact (ss_one (s_ret (d_make (p_Ratio___init___2 Fx TB) o (a_cons (d_ix o.hk (d_var 0) d_int) (a_cons (d_ix o.hk (d_var 0) d_int) a_nil)))))), hm, kp, hb, .nil, fun _ _ => rfl⟩
abbrev st__law_complaint : Stmt := (top 133)
theorem sc__law_complaint : FnScope ["call", "e"] ["call"] (defScope st__law_complaint) := ⟨rfl, rfl, rfl, by decide +kernel, rfl, by decide +kernel, by decide +kernel⟩
def tab__law_complaint_0 : List (Nat × Bool) := [(3, true), (2, false), (6, false), (4, false)]
def tab__law_complaint_1 : List (Nat × Bool) := [(2, true), (6, false), (4, false)]
def tab__law_complaint_2 : List (Nat × Bool) := [(6, true), (4, false)]
def tab__law_complaint_3 : List (Nat × Bool) := [(4, true)]
def n__law_complaint : Nat := 2
def m__law_complaint (thunk : Pen → R (D × Pen) Pen) : MS Pen :=
    (tryS (retS (tupM (consM (retM (.str "ok")) (consM (actM thunk) (retM []))))) [⟨exT tab__law_complaint_0, some 1, (retS (tupM (consM (retM (.str "item")) (consM (callM reprD (consM (xfM 1 3 0) (retM []))) (retM [])))))⟩,
    ⟨exT tab__law_complaint_1, some 1, (retS (tupM (consM (retM (.str "row")) (consM (callM reprD (consM (xfM 1 2 0) (retM []))) (retM [])))))⟩,
    ⟨exT tab__law_complaint_2, some 1, (retS (tupM (consM (retM (.str "land")) (consM (callM reprD (consM (xfM 1 6 0) (retM []))) (retM [])))))⟩,
    ⟨exT tab__law_complaint_3, some 1, (retS (tupM (consM (retM (.str "many")) (consM (xfM 1 4 0) (consM (xfM 1 4 1) (retM []))))))⟩])
theorem p__law_complaint (Fx : Fx K mg cls ca pa) (TB : TBs base mg ca pa) : GT PW w K mg base (dcL K cls (tabs pa)) (penJ K) 0 "_law_complaint" n__law_complaint m__law_complaint := by
  obtain ⟨f, fd, hm, kp, Fu, hb⟩ := Fx.d__law_complaint
  exact ⟨f, st__law_complaint, fd, ["call", "e"], "call", hm, kp, Fu, sc__law_complaint, rfl, rfl, .inl rfl, ⟨by decide, by decide⟩, hb, fun {cd A outer s H E so B thunk} o act => by
    unfold m__law_complaint
    exact (ss_one (s_try o sc__law_complaint.nd (fun W pn xe o2 => (ss_one (s_ret (d_tup (a_cons d_str (a_cons (act _ _ _ _ _ o2) a_nil))))))
    (HdL.as (i := 1) (ts := fun a cl d => tS (Ct.su (ctD (dcL K cls (tabs pa)) (penJ K) so B E) a cl d) (retS (tupM (consM (retM (.str "item")) (consM (callM reprD (consM (xfM 1 3 0) (retM []))) (retM [])))))) ⟨rfl, by decide, Or.inl Fx.g_BadItem⟩ rfl rfl (fun a oe cl d pn hz hf => (ss_one (s_ret (d_tup (a_cons d_str (a_cons (d_repr o.hk o.gd o.hu Fx.n_repr (d_xf (c := ctD (dcL K cls (tabs pa)) (penJ K) so B E) (i := 1) (q := 3) (jx := 0) Fx.x_BadItem rfl o.hk hz hf)) a_nil))))))
    (HdL.as (i := 1) (ts := fun a cl d => tS (Ct.su (ctD (dcL K cls (tabs pa)) (penJ K) so B E) a cl d) (retS (tupM (consM (retM (.str "row")) (consM (callM reprD (consM (xfM 1 2 0) (retM []))) (retM [])))))) ⟨rfl, by decide, Or.inl Fx.g_BadRow⟩ rfl rfl (fun a oe cl d pn hz hf => (ss_one (s_ret (d_tup (a_cons d_str (a_cons (d_repr o.hk o.gd o.hu Fx.n_repr (d_xf (c := ctD (dcL K cls (tabs pa)) (penJ K) so B E) (i := 1) (q := 2) (jx := 0) Fx.x_BadRow rfl o.hk hz hf)) a_nil))))))
    (HdL.as (i := 1) (ts := fun a cl d => tS (Ct.su (ctD (dcL K cls (tabs pa)) (penJ K) so B E) a cl d) (retS (tupM (consM (retM (.str "land")) (consM (callM reprD (consM (xfM 1 6 0) (retM []))) (retM [])))))) ⟨rfl, by decide, Or.inl Fx.g_BadLand⟩ rfl rfl (fun a oe cl d pn hz hf => (ss_one (s_ret (d_tup (a_cons d_str (a_cons (d_repr o.hk o.gd o.hu Fx.n_repr (d_xf (c := ctD (dcL K cls (tabs pa)) (penJ K) so B E) (i := 1) (q := 6) (jx := 0) Fx.x_BadLand rfl o.hk hz hf)) a_nil))))))
    (HdL.as (i := 1) (ts := fun a cl d => tS (Ct.su (ctD (dcL K cls (tabs pa)) (penJ K) so B E) a cl d) (retS (tupM (consM (retM (.str "many")) (consM (xfM 1 4 0) (consM (xfM 1 4 1) (retM []))))))) ⟨rfl, by decide, Or.inl Fx.g_TooMany⟩ rfl rfl (fun a oe cl d pn hz hf => (ss_one (s_ret (d_tup (a_cons d_str (a_cons (d_xf (c := ctD (dcL K cls (tabs pa)) (penJ K) so B E) (i := 1) (q := 4) (jx := 0) Fx.x_TooMany rfl o.hk hz hf) (a_cons (d_xf (c := ctD (dcL K cls (tabs pa)) (penJ K) so B E) (i := 1) (q := 4) (jx := 1) Fx.x_TooMany rfl o.hk hz hf) a_nil)))))))
    HdL.nil))))
    (HdD.cons (i := some 1) (h := ⟨exT tab__law_complaint_0, some 1, (retS (tupM (consM (retM (.str "item")) (consM (callM reprD (consM (xfM 1 3 0) (retM []))) (retM [])))))⟩) rfl (exT_ok Fx.e__law_complaint_0) (HdD.cons (i := some 1) (h := ⟨exT tab__law_complaint_1, some 1, (retS (tupM (consM (retM (.str "row")) (consM (callM reprD (consM (xfM 1 2 0) (retM []))) (retM [])))))⟩) rfl (exT_ok Fx.e__law_complaint_1) (HdD.cons (i := some 1) (h := ⟨exT tab__law_complaint_2, some 1, (retS (tupM (consM (retM (.str "land")) (consM (callM reprD (consM (xfM 1 6 0) (retM []))) (retM [])))))⟩) rfl (exT_ok Fx.e__law_complaint_2) (HdD.cons (i := some 1) (h := ⟨exT tab__law_complaint_3, some 1, (retS (tupM (consM (retM (.str "many")) (consM (xfM 1 4 0) (consM (xfM 1 4 1) (retM []))))))⟩) rfl (exT_ok Fx.e__law_complaint_3) HdD.nil))))))⟩
abbrev st_is_row : Stmt := (top 13)
theorem sc_is_row : FnScope ["value"] ["value"] (defScope st_is_row) := ⟨rfl, rfl, rfl, by decide +kernel, rfl, by decide +kernel, by decide +kernel⟩
def m_is_row : MS Pen :=
    (retS (m1 (isi2D (isiD false false false false false true [(7, false), (8, false)]) (isiD false false false false true false [(7, false), (8, false)])) (mVar 0)))
def f_is_row : List D → Pen → R (D × Pen) Pen := runF 1 m_is_row
theorem p_is_row (Fx : Fx K mg cls ca pa) (TB : TBs base mg ca pa) : GF PW w K mg base (dcL K cls (tabs pa)) 1 "is_row" [] (spD (dcL K cls (tabs pa)) (penJ K) 1 f_is_row) := by
  obtain ⟨f, fd, hm, kp, Fu, hb⟩ := Fx.d_is_row
  exact ⟨f, fd, _, [], [], fnD_of Fu sc_is_row (fun _ => rfl) rfl (fun {cd A outer s H E so B} o => by
    unfold m_is_row
    exact (ss_one (s_ret (d_isi2 o.hk Fx.n_isinstance (.ty _) (.ty _) kt_list Fx.kb_list kt_tuple Fx.kb_tuple (d_var 0) (L2.pe_bltn rfl Fx.n_list (by decide +kernel) rfl) (L2.pe_bltn rfl Fx.n_tuple (by decide +kernel) rfl))))), hm, kp, hb, .nil, fun _ _ => rfl⟩
abbrev st_is_number_heaps : Stmt := (top 72)
theorem sc_is_number_heaps : FnScope ["value"] ["value"] (defScope st_is_number_heaps) := ⟨rfl, rfl, rfl, by decide +kernel, rfl, by decide +kernel, by decide +kernel⟩
def m_is_number_heaps : MS Pen :=
    (retS (orV (m1 (isiD false false false false false false [(7, true), (8, false)]) (mVar 0)) (callF 1 f_is_integer [] (consM (mVar 0) (retM [])))))
def f_is_number_heaps : List D → Pen → R (D × Pen) Pen := runF 1 m_is_number_heaps
theorem p_is_number_heaps (Fx : Fx K mg cls ca pa) (TB : TBs base mg ca pa) : GF PW w K mg base (dcL K cls (tabs pa)) 2 "is_number_heaps" [] (spD (dcL K cls (tabs pa)) (penJ K) 1 f_is_number_heaps) := by
  obtain ⟨f, fd, hm, kp, Fu, hb⟩ := Fx.d_is_number_heaps
  exact ⟨f, fd, _, [], [], fnD_of Fu sc_is_number_heaps (fun _ => rfl) rfl (fun {cd A outer s H E so B} o => by
    unfold m_is_number_heaps
    exact (ss_one (s_ret (d_or o.hk (d_isi o.hk Fx.n_isinstance (.own _) Fx.kt_Ratio Fx.kb_Ratio (d_var 0) (L2.pe_glob rfl Fx.g_Ratio rfl)) (d_one (d_call (p_is_integer Fx TB) o (a_cons (d_var 0) a_nil))))))), hm, kp, hb, .nil, fun _ _ => rfl⟩
abbrev st_is_number_ratios : Stmt := (top 18)
theorem sc_is_number_ratios : FnScope ["value"] ["value"] (defScope st_is_number_ratios) := ⟨rfl, rfl, rfl, by decide +kernel, rfl, by decide +kernel, by decide +kernel⟩
def m_is_number_ratios : MS Pen :=
    (retS (orV (callF 1 f_is_integer [] (consM (mVar 0) (retM []))) (m1 (isiD false false false false false false [(7, true), (8, false)]) (mVar 0))))
def f_is_number_ratios : List D → Pen → R (D × Pen) Pen := runF 1 m_is_number_ratios
theorem p_is_number_ratios (Fx : Fx K mg cls ca pa) (TB : TBs base mg ca pa) : GF PW w K mg base (dcL K cls (tabs pa)) 2 "is_number_ratios" [] (spD (dcL K cls (tabs pa)) (penJ K) 1 f_is_number_ratios) := by
  obtain ⟨f, fd, hm, kp, Fu, hb⟩ := Fx.d_is_number_ratios
  exact ⟨f, fd, _, [], [], fnD_of Fu sc_is_number_ratios (fun _ => rfl) rfl (fun {cd A outer s H E so B} o => by
    unfold m_is_number_ratios
    exact (ss_one (s_ret (d_or o.hk (d_call (p_is_integer Fx TB) o (a_cons (d_var 0) a_nil)) (d_one (d_isi o.hk Fx.n_isinstance (.own _) Fx.kt_Ratio Fx.kb_Ratio (d_var 0) (L2.pe_glob rfl Fx.g_Ratio rfl))))))), hm, kp, hb, .nil, fun _ _ => rfl⟩
abbrev st_plain_ratio : Stmt := (top 20)
theorem sc_plain_ratio : FnScope ["value"] ["value"] (defScope st_plain_ratio) := ⟨rfl, rfl, rfl, by decide +kernel, rfl, by decide +kernel, by decide +kernel⟩
def m_plain_ratio : MS Pen :=
    (retS (ifM (truM (callF 1 f_is_integer [] (consM (mVar 0) (retM [])))) (makeF 7 2 f_Ratio___init__ [.int 1] (consM (mVar 0) (retM []))) (mVar 0)))
def f_plain_ratio : List D → Pen → R (D × Pen) Pen := runF 1 m_plain_ratio
theorem p_plain_ratio (Fx : Fx K mg cls ca pa) (TB : TBs base mg ca pa) : GF PW w K mg base (dcL K cls (tabs pa)) 4 "plain_ratio" [] (spD (dcL K cls (tabs pa)) (penJ K) 1 f_plain_ratio) := by
  obtain ⟨f, fd, hm, kp, Fu, hb⟩ := Fx.d_plain_ratio
  exact ⟨f, fd, _, [], [], fnD_of Fu sc_plain_ratio (fun _ => rfl) rfl (fun {cd A outer s H E so B} o => by
    unfold m_plain_ratio
    exact (ss_one (s_ret (d_ifE (d_test o.hk (d_call (p_is_integer Fx TB) o (a_cons (d_var 0) a_nil))) (d_make (p_Ratio___init___1 Fx TB) o (a_cons (d_var 0) a_nil)) (d_var 0))))), hm, kp, hb, .nil, fun _ _ => rfl⟩
abbrev st_ratio_of : Stmt := (top 21)
theorem sc_ratio_of : FnScope ["number"] ["number"] (defScope st_ratio_of) := ⟨rfl, rfl, rfl, by decide +kernel, rfl, by decide +kernel, by decide +kernel⟩
def m_ratio_of : MS Pen :=
    (seqS (ifS (notT (truM (callF 1 f_is_number_ratios [] (consM (mVar 0) (retM []))))) (raiseS 3 1 (consM (mVar 0) (retM []))) nextS)
    (retS (callF 1 f_plain_ratio [] (consM (mVar 0) (retM [])))))
def f_ratio_of : List D → Pen → R (D × Pen) Pen := runF 1 m_ratio_of
theorem p_ratio_of (Fx : Fx K mg cls ca pa) (TB : TBs base mg ca pa) : GF PW w K mg base (dcL K cls (tabs pa)) 5 "ratio_of" [] (spD (dcL K cls (tabs pa)) (penJ K) 1 f_ratio_of) := by
  obtain ⟨f, fd, hm, kp, Fu, hb⟩ := Fx.d_ratio_of
  exact ⟨f, fd, _, [], [], fnD_of Fu sc_ratio_of (fun _ => rfl) rfl (fun {cd A outer s H E so B} o => by
    unfold m_ratio_of
    exact (ss_cons (s_if (t_not (d_test o.hk (d_call (p_is_number_ratios Fx TB) o (a_cons (d_var 0) a_nil)))) (ss_one (s_raise (k := 3) (n := 1) Fx.x_BadItem o Fx.g_BadItem (a_cons (d_var 0) a_nil))) ss_nil)
    (ss_one (s_ret (d_call (p_plain_ratio Fx TB) o (a_cons (d_var 0) a_nil)))))), hm, kp, hb, .nil, fun _ _ => rfl⟩
abbrev st_need_sums : Stmt := (top 85)
theorem sc_need_sums : FnScope ["row", "item"] ["row"] (defScope st_need_sums) := ⟨rfl, rfl, rfl, by decide +kernel, rfl, by decide +kernel, by decide +kernel⟩
def m_need_sums : MS Pen :=
    (seqS (ifS (orT (notT (truM (callF 1 f_is_row [] (consM (mVar 0) (retM []))))) (orT (notT (chT leD leD (retM (.int 1)) (callM lenD (consM (mVar 0) (retM []))) (m2 addD (retM (.int 12)) (retM (.int 1))))) (notT (truM (callM allD (consM (lcM (.nm 1) (itM seqOf (mVar 0)) yesM (callF 1 f_is_number_heaps [] (consM (mVar 1) (retM []))) [1]) (retM []))))))) (raiseS 2 1 (consM (mVar 0) (retM []))) nextS)
    (retS (callM tupleD (consM (lcM (.nm 1) (itM seqOf (mVar 0)) yesM (callF 1 f_ratio_of [] (consM (mVar 1) (retM []))) [1]) (retM [])))))
def f_need_sums : List D → Pen → R (D × Pen) Pen := runF 2 m_need_sums
theorem p_need_sums (Fx : Fx K mg cls ca pa) (TB : TBs base mg ca pa) : GF PW w K mg base (dcL K cls (tabs pa)) 6 "need_sums" [] (spD (dcL K cls (tabs pa)) (penJ K) 1 f_need_sums) := by
  obtain ⟨f, fd, hm, kp, Fu, hb⟩ := Fx.d_need_sums
  exact ⟨f, fd, _, [], [], fnD_of Fu sc_need_sums (fun _ => rfl) rfl (fun {cd A outer s H E so B} o => by
    unfold m_need_sums
    exact (ss_cons (s_if (L2.PW.pt (t_or (t_not (d_test o.hk (d_call (p_is_row Fx TB) o (a_cons (d_var 0) a_nil)))) (t_or (t_not (t_lele d_int (d_len o.hk Fx.n_len (d_var 0)) (d_add (d_globI Fx.c_MOST_SUMS.choose_spec) d_int))) (t_or1 (t_not (d_test o.hk (d_all o.hk o.cm Fx.n_all (d_lc (own := [("item", 1)]) (g := (.nm 1)) o.cm sc_need_sums.nd (i_seq o.hk (d_var 0)) (blkOk_by (show blkC ["row", "item"] (defScope st_need_sums) _ _ = true from by decide +kernel)) (fun s H C cl fp => g_name sc_need_sums.nd) (fun s H C cl fp B => ts_nil) (fun s H C cl fp B => (d_call (p_is_number_heaps Fx TB) (o.bk s H _ C cl fp B) (a_cons (d_var 1) a_nil))) (by decide))))))))) (ss_one (s_raise (k := 2) (n := 1) Fx.x_BadRow o Fx.g_BadRow (a_cons (d_var 0) a_nil))) ss_nil)
    (ss_one (s_ret (d_tupleC o.hk Fx.n_tuple (d_lc (own := [("item", 1)]) (g := (.nm 1)) o.cm sc_need_sums.nd (i_seq o.hk (d_var 0)) (blkOk_by (show blkC ["row", "item"] (defScope st_need_sums) _ _ = true from by decide +kernel)) (fun s H C cl fp => g_name sc_need_sums.nd) (fun s H C cl fp B => ts_nil) (fun s H C cl fp B => (d_call (p_ratio_of Fx TB) (o.bk s H _ C cl fp B) (a_cons (d_var 1) a_nil))) (by decide))))))), hm, kp, hb, .nil, fun _ _ => rfl⟩
abbrev st_Ratio___mul__ : Stmt := (cst 16 8)
theorem sc_Ratio___mul__ : FnScope ["self", "other"] ["self", "other"] (defScope st_Ratio___mul__) := ⟨rfl, rfl, rfl, by decide +kernel, rfl, by decide +kernel, by decide +kernel⟩
def m_Ratio___mul__ : MS Pen :=
    (seqS (ifS (truM (callF 1 f_is_integer [] (consM (mVar 1) (retM [])))) (retS (makeF 7 2 f_Ratio___init__ [] (consM (m2 mulD (m1 (fldD [(7, 0)]) (mVar 0)) (mVar 1)) (consM (m1 (fldD [(7, 1)]) (mVar 0)) (retM []))))) nextS)
    (seqS (ifS (notT (truM (m1 (isiD false false false false false false [(7, true), (8, false)]) (mVar 1)))) badS nextS)
    (retS (makeF 7 2 f_Ratio___init__ [] (consM (m2 mulD (m1 (fldD [(7, 0)]) (mVar 0)) (m1 (fldD [(7, 0)]) (mVar 1))) (consM (m2 mulD (m1 (fldD [(7, 1)]) (mVar 0)) (m1 (fldD [(7, 1)]) (mVar 1))) (retM [])))))))
def f_Ratio___mul__ : List D → Pen → R (D × Pen) Pen := runF 2 m_Ratio___mul__
theorem p_Ratio___mul__ (Fx : Fx K mg cls ca pa) (TB : TBs base mg ca pa) : GM PW w K mg base (dcL K cls (tabs pa)) 4 7 "__mul__" [] (spD (dcL K cls (tabs pa)) (penJ K) 2 f_Ratio___mul__) := by
  obtain ⟨f, fd, me, Fu, hb⟩ := Fx.d_Ratio___mul__
  exact ⟨f, fd, _, [], [], fnD_of Fu sc_Ratio___mul__ (fun _ => rfl) rfl (fun {cd A outer s H E so B} o => by
    unfold m_Ratio___mul__
    exact (ss_cons (s_if (d_test o.hk (d_call (p_is_integer Fx TB) o (a_cons (d_var 1) a_nil))) (ss_one (s_ret (d_make (p_Ratio___init___2 Fx TB) o (a_cons (d_mul (d_fld o.hk [(7, 0)] ⟨⟨Fx.k_Ratio, rfl⟩, trivial⟩ (d_var 0)) (d_var 1)) (a_cons (d_fld o.hk [(7, 1)] ⟨⟨Fx.k_Ratio, rfl⟩, trivial⟩ (d_var 0)) a_nil))))) ss_nil)
    (ss_cons (s_if (t_not (d_test o.hk (d_isi o.hk Fx.n_isinstance (.own _) Fx.kt_Ratio Fx.kb_Ratio (d_var 1) (L2.pe_glob rfl Fx.g_Ratio rfl)))) (ss_one s_bad) ss_nil)
    (ss_one (s_ret (d_make (p_Ratio___init___2 Fx TB) o (a_cons (d_mul (d_fld o.hk [(7, 0)] ⟨⟨Fx.k_Ratio, rfl⟩, trivial⟩ (d_var 0)) (d_fld o.hk [(7, 0)] ⟨⟨Fx.k_Ratio, rfl⟩, trivial⟩ (d_var 1))) (a_cons (d_mul (d_fld o.hk [(7, 1)] ⟨⟨Fx.k_Ratio, rfl⟩, trivial⟩ (d_var 0)) (d_fld o.hk [(7, 1)] ⟨⟨Fx.k_Ratio, rfl⟩, trivial⟩ (d_var 1))) a_nil)))))))), fun _ => me, fun _ => (by decide : ("__mul__" : Str) ∉ flds 7), hb, .nil, fun _ _ => rfl⟩
abbrev st_Ratio___add__ : Stmt := (cst 16 4)
theorem sc_Ratio___add__ : FnScope ["self", "other"] ["self", "other"] (defScope st_Ratio___add__) := ⟨rfl, rfl, rfl, by decide +kernel, rfl, by decide +kernel, by decide +kernel⟩
def m_Ratio___add__ : MS Pen :=
    (seqS (ifS (truM (callF 1 f_is_integer [] (consM (mVar 1) (retM [])))) (retS (makeF 7 2 f_Ratio___init__ [] (consM (m2 addD (m1 (fldD [(7, 0)]) (mVar 0)) (m2 mulD (mVar 1) (m1 (fldD [(7, 1)]) (mVar 0)))) (consM (m1 (fldD [(7, 1)]) (mVar 0)) (retM []))))) nextS)
    (seqS (ifS (notT (truM (m1 (isiD false false false false false false [(7, true), (8, false)]) (mVar 1)))) badS nextS)
    (retS (makeF 7 2 f_Ratio___init__ [] (consM (m2 addD (m2 mulD (m1 (fldD [(7, 0)]) (mVar 0)) (m1 (fldD [(7, 1)]) (mVar 1))) (m2 mulD (m1 (fldD [(7, 0)]) (mVar 1)) (m1 (fldD [(7, 1)]) (mVar 0)))) (consM (m2 mulD (m1 (fldD [(7, 1)]) (mVar 0)) (m1 (fldD [(7, 1)]) (mVar 1))) (retM [])))))))
def f_Ratio___add__ : List D → Pen → R (D × Pen) Pen := runF 2 m_Ratio___add__
theorem p_Ratio___add__ (Fx : Fx K mg cls ca pa) (TB : TBs base mg ca pa) : GM PW w K mg base (dcL K cls (tabs pa)) 4 7 "__add__" [] (spD (dcL K cls (tabs pa)) (penJ K) 2 f_Ratio___add__) := by
  obtain ⟨f, fd, me, Fu, hb⟩ := Fx.d_Ratio___add__
  exact ⟨f, fd, _, [], [], fnD_of Fu sc_Ratio___add__ (fun _ => rfl) rfl (fun {cd A outer s H E so B} o => by
    unfold m_Ratio___add__
    exact (ss_cons (s_if (d_test o.hk (d_call (p_is_integer Fx TB) o (a_cons (d_var 1) a_nil))) (ss_one (s_ret (d_make (p_Ratio___init___2 Fx TB) o (a_cons (d_add (d_fld o.hk [(7, 0)] ⟨⟨Fx.k_Ratio, rfl⟩, trivial⟩ (d_var 0)) (d_mul (d_var 1) (d_fld o.hk [(7, 1)] ⟨⟨Fx.k_Ratio, rfl⟩, trivial⟩ (d_var 0)))) (a_cons (d_fld o.hk [(7, 1)] ⟨⟨Fx.k_Ratio, rfl⟩, trivial⟩ (d_var 0)) a_nil))))) ss_nil)
    (ss_cons (s_if (t_not (d_test o.hk (d_isi o.hk Fx.n_isinstance (.own _) Fx.kt_Ratio Fx.kb_Ratio (d_var 1) (L2.pe_glob rfl Fx.g_Ratio rfl)))) (ss_one s_bad) ss_nil)
    (ss_one (s_ret (d_make (p_Ratio___init___2 Fx TB) o (a_cons (d_add (d_mul (d_fld o.hk [(7, 0)] ⟨⟨Fx.k_Ratio, rfl⟩, trivial⟩ (d_var 0)) (d_fld o.hk [(7, 1)] ⟨⟨Fx.k_Ratio, rfl⟩, trivial⟩ (d_var 1))) (d_mul (d_fld o.hk [(7, 0)] ⟨⟨Fx.k_Ratio, rfl⟩, trivial⟩ (d_var 1)) (d_fld o.hk [(7, 1)] ⟨⟨Fx.k_Ratio, rfl⟩, trivial⟩ (d_var 0)))) (a_cons (d_mul (d_fld o.hk [(7, 1)] ⟨⟨Fx.k_Ratio, rfl⟩, trivial⟩ (d_var 0)) (d_fld o.hk [(7, 1)] ⟨⟨Fx.k_Ratio, rfl⟩, trivial⟩ (d_var 1))) a_nil)))))))), fun _ => me, fun _ => (by decide : ("__add__" : Str) ∉ flds 7), hb, .nil, fun _ _ => rfl⟩
abbrev st_summed_totals : Stmt := (top 59)
theorem sc_summed_totals : FnScope ["row", "poly", "found", "number", "item"] ["row", "poly"] (defScope st_summed_totals) := ⟨rfl, rfl, rfl, by decide +kernel, rfl, by decide +kernel, by decide +kernel⟩
def m_summed_totals : MS Pen :=
    (seqS (setS 2 (makeF 7 2 f_Ratio___init__ [.int 1] (consM (retM (.int 0)) (retM []))))
    (seqS (forS (.tp [3, 4]) (itA zipOf (consM (m1 (fldD [(8, 0)]) (mVar 1)) (consM (mVar 0) (retM [])))) (setS 2 (binO 7 f_Ratio___add__ (mVar 2) (binO 7 f_Ratio___mul__ (mVar 3) (mVar 4)))))
    (retS (mVar 2))))
def f_summed_totals : List D → Pen → R (D × Pen) Pen := runF 5 m_summed_totals
theorem p_summed_totals (Fx : Fx K mg cls ca pa) (TB : TBs base mg ca pa) : GF PW w K mg base (dcL K cls (tabs pa)) 5 "summed_totals" [] (spD (dcL K cls (tabs pa)) (penJ K) 2 f_summed_totals) := by
  obtain ⟨f, fd, hm, kp, Fu, hb⟩ := Fx.d_summed_totals
  exact ⟨f, fd, _, [], [], fnD_of Fu sc_summed_totals (fun _ => rfl) rfl (fun {cd A outer s H E so B} o => by
    unfold m_summed_totals
    exact (ss_cons (s_set (i := 2) sc_summed_totals.nd (d_make (p_Ratio___init___1 Fx TB) o (a_cons d_int a_nil)))
    (ss_cons (s_for o.ps o.cm (i_zip o.hk Fx.n_zip (a_cons (d_fld o.hk [(8, 0)] ⟨⟨Fx.k_Poly, rfl⟩, trivial⟩ (d_var 1)) (a_cons (d_var 0) a_nil))) (g_tup o.hk o.cm (g_cons (pg_name (i := 3) sc_summed_totals.nd rfl (by first | exact Or.inl rfl | exact Or.inr rfl) (.inl rfl)) (g_cons (pg_name (i := 4) sc_summed_totals.nd rfl (by first | exact Or.inl rfl | exact Or.inr rfl) (.inl rfl)) g_nil))) (ss_one (s_set (i := 2) sc_summed_totals.nd (d_binO rfl (GM.call (p_Ratio___add__ Fx TB) o) Fx.sf_Ratio o (d_var 2) (d_binO rfl (GM.call (p_Ratio___mul__ Fx TB) o) Fx.sf_Ratio o (d_var 3) (d_var 4))))))
    (ss_one (s_ret (d_var 2)))))), hm, kp, hb, .nil, fun _ _ => rfl⟩
abbrev st_row_total : Stmt := (top 86)
theorem sc_row_total : FnScope ["row", "poly", "numbers"] ["row", "poly"] (defScope st_row_total) := ⟨rfl, rfl, rfl, by decide +kernel, rfl, by decide +kernel, by decide +kernel⟩
def m_row_total : MS Pen :=
    (seqS (setS 2 (callF 1 f_need_sums [] (consM (mVar 0) (retM []))))
    (seqS (ifS (notT (truM (m1 (isiD false false false false false false [(7, false), (8, true)]) (mVar 1)))) (raiseS 3 1 (consM (mVar 1) (retM []))) nextS)
    (seqS (ifS (truM (m2 geD (m1 (fldD [(8, 1)]) (mVar 1)) (callM lenD (consM (mVar 2) (retM []))))) (raiseS 4 2 (consM (retM (.str "degree")) (consM (m2 subD (callM lenD (consM (mVar 2) (retM []))) (retM (.int 1))) (retM [])))) nextS)
    (retS (callF 2 f_summed_totals [] (consM (mVar 2) (consM (mVar 1) (retM []))))))))
def f_row_total : List D → Pen → R (D × Pen) Pen := runF 3 m_row_total
theorem p_row_total (Fx : Fx K mg cls ca pa) (TB : TBs base mg ca pa) : GF PW w K mg base (dcL K cls (tabs pa)) 7 "row_total" [] (spD (dcL K cls (tabs pa)) (penJ K) 2 f_row_total) := by
  obtain ⟨f, fd, hm, kp, Fu, hb⟩ := Fx.d_row_total
  exact ⟨f, fd, _, [], [], fnD_of Fu sc_row_total (fun _ => rfl) rfl (fun {cd A outer s H E so B} o => by
    unfold m_row_total
    exact (ss_cons (s_set (i := 2) sc_row_total.nd (d_call (p_need_sums Fx TB) o (a_cons (d_var 0) a_nil)))
    (ss_cons (s_if (t_not (d_test o.hk (d_isi o.hk Fx.n_isinstance (.own _) Fx.kt_Poly Fx.kb_Poly (d_var 1) (L2.pe_glob rfl Fx.g_Poly rfl)))) (ss_one (s_raise (k := 3) (n := 1) Fx.x_BadItem o Fx.g_BadItem (a_cons (d_var 1) a_nil))) ss_nil)
    (ss_cons (s_if (t_ge (d_fld o.hk [(8, 1)] ⟨⟨Fx.k_Poly, rfl⟩, trivial⟩ (d_var 1)) (d_len o.hk Fx.n_len (d_var 2))) (ss_one (s_raise (k := 4) (n := 2) Fx.x_TooMany o Fx.g_TooMany (a_cons d_str (a_cons (d_sub (d_len o.hk Fx.n_len (d_var 2)) d_int) a_nil)))) ss_nil)
    (ss_one (s_ret (d_call (p_summed_totals Fx TB) o (a_cons (d_var 2) (a_cons (d_var 1) a_nil))))))))), hm, kp, hb, .nil, fun _ _ => rfl⟩
abbrev st_without_zeros : Stmt := (top 24)
theorem sc_without_zeros : FnScope ["ratios", "many"] ["ratios"] (defScope st_without_zeros) := ⟨rfl, rfl, rfl, by decide +kernel, rfl, by decide +kernel, by decide +kernel⟩
def fuel_without_zeros : DL.Env → Nat := fun env => match env[1]? with | some (Slot.d (D.int b)) => b.natAbs + 1 | _ => 0
def m_without_zeros : MS Pen :=
    (seqS (setS 1 (callM lenD (consM (mVar 0) (retM []))))
    (seqS (whileS fuel_without_zeros (andT (truM (m2 gtD (mVar 1) (retM (.int 0)))) (truM (m2 eqD (m1 (fldD [(7, 0)]) (m2 ixD (mVar 0) (m2 subD (mVar 1) (retM (.int 1))))) (retM (.int 0))))) (setS 1 (m2 subD (mVar 1) (retM (.int 1)))))
    (retS (callM tupleD (consM (sliceM (mVar 0) (retM none) (partM (mVar 1))) (retM []))))))
def f_without_zeros : List D → Pen → R (D × Pen) Pen := runF 2 m_without_zeros
theorem p_without_zeros (Fx : Fx K mg cls ca pa) (TB : TBs base mg ca pa) : GF PW w K mg base (dcL K cls (tabs pa)) 1 "without_zeros" [] (spD (dcL K cls (tabs pa)) (penJ K) 1 f_without_zeros) := by
  obtain ⟨f, fd, hm, kp, Fu, hb⟩ := Fx.d_without_zeros
  exact ⟨f, fd, _, [], [], fnD_of Fu sc_without_zeros (fun _ => rfl) rfl (fun {cd A outer s H E so B} o => by
    unfold m_without_zeros
    exact (ss_cons (s_set (i := 1) sc_without_zeros.nd (d_len o.hk Fx.n_len (d_var 0)))
    (ss_cons (s_while (fuel := fuel_without_zeros) o.ps (L2.PW.pt (t_and (t_gt (d_var 1) d_int) (t_and1 (t_eq o.hk o.hu (d_fld o.hk [(7, 0)] ⟨⟨Fx.k_Ratio, rfl⟩, trivial⟩ (d_ix o.hk (d_var 0) (d_sub (d_var 1) d_int))) d_int)))) (ss_one (s_set (i := 1) sc_without_zeros.nd (d_sub (d_var 1) d_int))))
    (ss_one (s_ret (d_tupleC o.hk Fx.n_tuple (d_slice o.hk (d_var 0) o_none (o_some (d_var 1))))))))), hm, kp, hb, .nil, fun _ _ => rfl⟩
abbrev st_need_numbers : Stmt := (top 22)
theorem sc_need_numbers : FnScope ["numbers", "item"] ["numbers"] (defScope st_need_numbers) := ⟨rfl, rfl, rfl, by decide +kernel, rfl, by decide +kernel, by decide +kernel⟩
def m_need_numbers : MS Pen :=
    (seqS (ifS (notT (truM (callF 1 f_is_row [] (consM (mVar 0) (retM []))))) (raiseS 2 1 (consM (mVar 0) (retM []))) nextS)
    (retS (lcM (.nm 1) (itM seqOf (mVar 0)) yesM (callF 1 f_ratio_of [] (consM (mVar 1) (retM []))) [1])))
def f_need_numbers : List D → Pen → R (D × Pen) Pen := runF 2 m_need_numbers
theorem p_need_numbers (Fx : Fx K mg cls ca pa) (TB : TBs base mg ca pa) : GF PW w K mg base (dcL K cls (tabs pa)) 6 "need_numbers" [] (spD (dcL K cls (tabs pa)) (penJ K) 1 f_need_numbers) := by
  obtain ⟨f, fd, hm, kp, Fu, hb⟩ := Fx.d_need_numbers
  exact ⟨f, fd, _, [], [], fnD_of Fu sc_need_numbers (fun _ => rfl) rfl (fun {cd A outer s H E so B} o => by
    unfold m_need_numbers
    exact (ss_cons (s_if (t_not (d_test o.hk (d_call (p_is_row Fx TB) o (a_cons (d_var 0) a_nil)))) (ss_one (s_raise (k := 2) (n := 1) Fx.x_BadRow o Fx.g_BadRow (a_cons (d_var 0) a_nil))) ss_nil)
    (ss_one (s_ret (d_lc (own := [("item", 1)]) (g := (.nm 1)) o.cm sc_need_numbers.nd (i_seq o.hk (d_var 0)) (blkOk_by (show blkC ["numbers", "item"] (defScope st_need_numbers) _ _ = true from by decide +kernel)) (fun s H C cl fp => g_name sc_need_numbers.nd) (fun s H C cl fp B => ts_nil) (fun s H C cl fp B => (d_call (p_ratio_of Fx TB) (o.bk s H _ C cl fp B) (a_cons (d_var 1) a_nil))) (by decide)))))), hm, kp, hb, .nil, fun _ _ => rfl⟩
abbrev st_Poly___init__ : Stmt := (cst 30 0)
theorem sc_Poly___init__ : FnScope ["self", "numbers"] ["self", "numbers"] (defScope st_Poly___init__) := ⟨rfl, rfl, rfl, by decide +kernel, rfl, by decide +kernel, by decide +kernel⟩
def m_Poly___init__ : MS Pen :=
    (seqS (selfS 0 8 0 (callF 1 f_without_zeros [] (consM (callF 1 f_need_numbers [] (consM (mVar 1) (retM []))) (retM []))))
    (seqS (selfS 0 8 1 (m2 subD (callM lenD (consM (mSelf 0 8 0) (retM []))) (retM (.int 1))))
    (selfS 0 8 2 (ifM (truM (m2 gtD (callM lenD (consM (mSelf 0 8 0) (retM []))) (retM (.int 0)))) (m2 ixD (mSelf 0 8 0) (m1 negD (retM (.int 1)))) (retM .non)))))
def f_Poly___init__ : List D → Pen → R (List D × Pen) Pen := runI 2 8 3 m_Poly___init__
theorem p_Poly___init___1 (Fx : Fx K mg cls ca pa) (TB : TBs base mg ca pa) : GI PW w K mg base (dcL K cls (tabs pa)) 7 "Poly" 8 [] (spI (dcL K cls (tabs pa)) (penJ K) 2 8 f_Poly___init__) := by
  obtain ⟨f, fd, a0, mk, Fu, ds, hds, hb⟩ := Fx.d_Poly___init___1
  exact ⟨f, fd, _, ds, [], fnI_of Fu sc_Poly___init__ (fun _ => rfl) rfl (fun _ => rfl) (fun {cd A outer s H E so B} o => by
    unfold m_Poly___init__
    exact (ss_cons (s_self (i := 0) (jx := 0) o.hk Fx.k_Poly rfl (d_call (p_without_zeros Fx TB) o (a_cons (d_call (p_need_numbers Fx TB) o (a_cons (d_var 1) a_nil)) a_nil)))
    (ss_cons (s_self (i := 0) (jx := 1) o.hk Fx.k_Poly rfl (d_sub (d_len o.hk Fx.n_len (d_self (i := 0) (jx := 0) o.hk Fx.k_Poly rfl)) d_int))
    (ss_one (s_self (i := 0) (jx := 2) o.hk Fx.k_Poly rfl (d_ifE (t_gt (d_len o.hk Fx.n_len (d_self (i := 0) (jx := 0) o.hk Fx.k_Poly rfl)) d_int) (d_ix o.hk (d_self (i := 0) (jx := 0) o.hk Fx.k_Poly rfl) (d_neg d_int)) d_non)))))), fun _ => Fx.g_Poly, fun _ => mk, hb, hds, fun _ _ => rfl⟩
abbrev st__law_add : Stmt := (top 125)
theorem sc__law_add : FnScope ["a", "b"] ["a", "b"] (defScope st__law_add) := ⟨rfl, rfl, rfl, by decide +kernel, rfl, by decide +kernel, by decide +kernel⟩
def m__law_add : MS Pen :=
    (retS (callF 2 f__law_f [] (consM (m2 addD (m2 mulD (m2 ixD (mVar 0) (retM (.int 0))) (m2 ixD (mVar 1) (retM (.int 1)))) (m2 mulD (m2 ixD (mVar 1) (retM (.int 0))) (m2 ixD (mVar 0) (retM (.int 1))))) (consM (m2 mulD (m2 ixD (mVar 0) (retM (.int 1))) (m2 ixD (mVar 1) (retM (.int 1)))) (retM [])))))
def f__law_add : List D → Pen → R (D × Pen) Pen := runF 2 m__law_add
theorem p__law_add (Fx : Fx K mg cls ca pa) (TB : TBs base mg ca pa) : GF PW w K mg base (dcL K cls (tabs pa)) 3 "_law_add" [] (spD (dcL K cls (tabs pa)) (penJ K) 2 f__law_add) := by
  obtain ⟨f, fd, hm, kp, Fu, hb⟩ := Fx.d__law_add
  exact ⟨f, fd, _, [], [], fnD_of Fu sc__law_add (fun _ => rfl) rfl (fun {cd A outer s H E so B} o => by
    unfold m__law_add
    exact (ss_one (s_ret (d_call (p__law_f Fx TB) o (a_cons (d_add (d_mul (d_ix o.hk (d_var 0) d_int) (d_ix o.hk (d_var 1) d_int)) (d_mul (d_ix o.hk (d_var 1) d_int) (d_ix o.hk (d_var 0) d_int))) (a_cons (d_mul (d_ix o.hk (d_var 0) d_int) (d_ix o.hk (d_var 1) d_int)) a_nil)))))), hm, kp, hb, .nil, fun _ _ => rfl⟩
abbrev st__law_sum : Stmt := (top 127)
theorem sc__law_sum : FnScope ["items", "whole", "item"] ["items"] (defScope st__law_sum) := ⟨rfl, rfl, rfl, by decide +kernel, rfl, by decide +kernel, by decide +kernel⟩
def m__law_sum : MS Pen :=
    (seqS (setS 1 (tupM (consM (retM (.int 0)) (consM (retM (.int 1)) (retM [])))))
    (seqS (forS (.nm 2) (itM seqOf (mVar 0)) (setS 1 (callF 2 f__law_add [] (consM (mVar 1) (consM (mVar 2) (retM []))))))
    (retS (mVar 1))))
def f__law_sum : List D → Pen → R (D × Pen) Pen := runF 3 m__law_sum
theorem p__law_sum (Fx : Fx K mg cls ca pa) (TB : TBs base mg ca pa) : GF PW w K mg base (dcL K cls (tabs pa)) 4 "_law_sum" [] (spD (dcL K cls (tabs pa)) (penJ K) 1 f__law_sum) := by
  obtain ⟨f, fd, hm, kp, Fu, hb⟩ := Fx.d__law_sum
  exact ⟨f, fd, _, [], [], fnD_of Fu sc__law_sum (fun _ => rfl) rfl (fun {cd A outer s H E so B} o => by
    unfold m__law_sum
    exact (ss_cons (s_set (i := 1) sc__law_sum.nd (d_tup (a_cons d_int (a_cons d_int a_nil))))
    (ss_cons (s_for o.ps o.cm (i_seq o.hk (d_var 0)) (g_name (i := 2) sc__law_sum.nd) (ss_one (s_set (i := 1) sc__law_sum.nd (d_call (p__law_add Fx TB) o (a_cons (d_var 1) (a_cons (d_var 2) a_nil))))))
    (ss_one (s_ret (d_var 1)))))), hm, kp, hb, .nil, fun _ _ => rfl⟩
abbrev st__law_mul : Stmt := (top 126)
theorem sc__law_mul : FnScope ["a", "b"] ["a", "b"] (defScope st__law_mul) := ⟨rfl, rfl, rfl, by decide +kernel, rfl, by decide +kernel, by decide +kernel⟩
def m__law_mul : MS Pen :=
    (retS (callF 2 f__law_f [] (consM (m2 mulD (m2 ixD (mVar 0) (retM (.int 0))) (m2 ixD (mVar 1) (retM (.int 0)))) (consM (m2 mulD (m2 ixD (mVar 0) (retM (.int 1))) (m2 ixD (mVar 1) (retM (.int 1)))) (retM [])))))
def f__law_mul : List D → Pen → R (D × Pen) Pen := runF 2 m__law_mul
theorem p__law_mul (Fx : Fx K mg cls ca pa) (TB : TBs base mg ca pa) : GF PW w K mg base (dcL K cls (tabs pa)) 3 "_law_mul" [] (spD (dcL K cls (tabs pa)) (penJ K) 2 f__law_mul) := by
  obtain ⟨f, fd, hm, kp, Fu, hb⟩ := Fx.d__law_mul
  exact ⟨f, fd, _, [], [], fnD_of Fu sc__law_mul (fun _ => rfl) rfl (fun {cd A outer s H E so B} o => by
    unfold m__law_mul
    exact (ss_one (s_ret (d_call (p__law_f Fx TB) o (a_cons (d_mul (d_ix o.hk (d_var 0) d_int) (d_ix o.hk (d_var 1) d_int)) (a_cons (d_mul (d_ix o.hk (d_var 0) d_int) (d_ix o.hk (d_var 1) d_int)) a_nil)))))), hm, kp, hb, .nil, fun _ _ => rfl⟩
abbrev st__law_total : Stmt := (top 130)
theorem sc__law_total : FnScope ["row", "p", "one_v", "other"] ["row", "p"] (defScope st__law_total) := ⟨rfl, rfl, rfl, by decide +kernel, rfl, by decide +kernel, by decide +kernel⟩
def m__law_total : MS Pen :=
    (retS (callF 1 f__law_sum [] (consM (lcM (.tp [2, 3]) (itA zipOf (consM (mVar 1) (consM (mVar 0) (retM [])))) yesM (callF 2 f__law_mul [] (consM (mVar 2) (consM (mVar 3) (retM [])))) [2, 3]) (retM []))))
def f__law_total : List D → Pen → R (D × Pen) Pen := runF 4 m__law_total
theorem p__law_total (Fx : Fx K mg cls ca pa) (TB : TBs base mg ca pa) : GF PW w K mg base (dcL K cls (tabs pa)) 5 "_law_total" [] (spD (dcL K cls (tabs pa)) (penJ K) 2 f__law_total) := by
  obtain ⟨f, fd, hm, kp, Fu, hb⟩ := Fx.d__law_total
  exact ⟨f, fd, _, [], [], fnD_of Fu sc__law_total (fun _ => rfl) rfl (fun {cd A outer s H E so B} o => by
    unfold m__law_total
    exact (ss_one (s_ret (d_call (p__law_sum Fx TB) o (a_cons (d_lc (own := [("one_v", 2), ("other", 3)]) (g := (.tp [2, 3])) o.cm sc__law_total.nd (i_zip o.hk Fx.n_zip (a_cons (d_var 1) (a_cons (d_var 0) a_nil))) (blkOk_by (show blkC ["row", "p", "one_v", "other"] (defScope st__law_total) _ _ = true from by decide +kernel)) (fun s H C cl fp => g_tup o.hk o.cm (g_cons (pg_name (i := 2) sc__law_total.nd rfl (by first | exact Or.inl rfl | exact Or.inr rfl) (by first | exact .inl rfl | exact .inr rfl)) (g_cons (pg_name (i := 3) sc__law_total.nd rfl (by first | exact Or.inl rfl | exact Or.inr rfl) (by first | exact .inl rfl | exact .inr rfl)) g_nil))) (fun s H C cl fp B => ts_nil) (fun s H C cl fp B => (d_call (p__law_mul Fx TB) (o.bk s H _ C cl fp B) (a_cons (d_var 2) (a_cons (d_var 3) a_nil)))) (by decide)) a_nil))))), hm, kp, hb, .nil, fun _ _ => rfl⟩
abbrev st__law_pick : Stmt := (top 122)
theorem sc__law_pick : FnScope ["pen", "some"] ["pen", "some"] (defScope st__law_pick) := ⟨rfl, rfl, rfl, by decide +kernel, rfl, by decide +kernel, by decide +kernel⟩
def m__law_pick : MS Pen :=
    (retS (m2 ixD (mVar 1) (callF 2 f__law_draw [] (consM (mVar 0) (consM (callM lenD (consM (mVar 1) (retM []))) (retM []))))))
def f__law_pick : List D → Pen → R (D × Pen) Pen := runF 2 m__law_pick
theorem p__law_pick (Fx : Fx K mg cls ca pa) (TB : TBs base mg ca pa) : GF PW w K mg base (dcL K cls (tabs pa)) 2 "_law_pick" [] (spD (dcL K cls (tabs pa)) (penJ K) 2 f__law_pick) := by
  obtain ⟨f, fd, hm, kp, Fu, hb⟩ := Fx.d__law_pick
  exact ⟨f, fd, _, [], [], fnD_of Fu sc__law_pick (fun _ => rfl) rfl (fun {cd A outer s H E so B} o => by
    unfold m__law_pick
    exact (ss_one (s_ret (d_ix o.hk (d_var 1) (d_call (p__law_draw Fx TB) o (a_cons (d_var 0) (a_cons (d_len o.hk Fx.n_len (d_var 1)) a_nil))))))), hm, kp, hb, .nil, fun _ _ => rfl⟩
abbrev st_need_land : Stmt := (top 103)
theorem sc_need_land : FnScope ["land"] ["land"] (defScope st_need_land) := ⟨rfl, rfl, rfl, by decide +kernel, rfl, by decide +kernel, by decide +kernel⟩
def m_need_land : MS Pen :=
    (ifS (orT (notT (truM (m1 (isiD false false false true false false [(7, false), (8, false)]) (mVar 0)))) (truM (m2 (inTD true) (mVar 0) (retM (.tup ((["line", "ray", "stretch"] : List Str).map D.str)))))) (raiseS 6 1 (consM (mVar 0) (retM []))) nextS)
def f_need_land : List D → Pen → R (D × Pen) Pen := runF 1 m_need_land
theorem p_need_land (Fx : Fx K mg cls ca pa) (TB : TBs base mg ca pa) : GF PW w K mg base (dcL K cls (tabs pa)) 2 "need_land" [] (spD (dcL K cls (tabs pa)) (penJ K) 1 f_need_land) := by
  obtain ⟨f, fd, hm, kp, Fu, hb⟩ := Fx.d_need_land
  exact ⟨f, fd, _, [], [], fnD_of Fu sc_need_land (fun _ => rfl) rfl (fun {cd A outer s H E so B} o => by
    unfold m_need_land
    exact (ss_one (s_if (L2.PW.pt (t_or (t_not (d_test o.hk (d_isi o.hk Fx.n_isinstance (.ty _) kt_str Fx.kb_str (d_var 0) (L2.pe_bltn rfl Fx.n_str (by decide +kernel) rfl)))) (t_or1 (t_notinT o (d_var 0) (d_globT o.hk Fx.c_LANDS))))) (ss_one (s_raise (k := 6) (n := 1) Fx.x_BadLand o Fx.g_BadLand (a_cons (d_var 0) a_nil))) ss_nil))), hm, kp, hb, .nil, fun _ _ => rfl⟩
abbrev st_settle_row : Stmt := (top 113)
theorem sc_settle_row : FnScope ["row", "land", "numbers"] ["row", "land"] (defScope st_settle_row) := ⟨rfl, rfl, rfl, by decide +kernel, rfl, by decide +kernel, by decide +kernel⟩
def m_settle_row : MS Pen :=
    (seqS (setS 2 (callF 1 f_need_sums [] (consM (mVar 0) (retM []))))
    (seqS (exprS (callF 1 f_need_land [] (consM (mVar 1) (retM []))))
    (retS badM)))
def f_settle_row : List D → Pen → R (D × Pen) Pen := runF 3 m_settle_row
theorem p_settle_row (Fx : Fx K mg cls ca pa) (TB : TBs base mg ca pa) : GF PW w K mg base (dcL K cls (tabs pa)) 7 "settle_row" [] (spD (dcL K cls (tabs pa)) (penJ K) 2 f_settle_row) := by
  obtain ⟨f, fd, hm, kp, Fu, hb⟩ := Fx.d_settle_row
  exact ⟨f, fd, _, [], [], fnD_of Fu sc_settle_row (fun _ => rfl) rfl (fun {cd A outer s H E so B} o => by
    unfold m_settle_row
    exact (ss_cons (s_set (i := 2) sc_settle_row.nd (d_call (p_need_sums Fx TB) o (a_cons (d_var 0) a_nil)))
    (ss_cons (s_expr (d_call (p_need_land Fx TB) o (a_cons (d_var 1) a_nil)))
    (ss_one (s_ret d_bad))))), hm, kp, hb, .nil, fun _ _ => rfl⟩
abbrev st_row_fault : Stmt := (top 118)
theorem sc_row_fault : FnScope ["row", "land", "answer", "numbers"] ["row", "land", "answer"] (defScope st_row_fault) := ⟨rfl, rfl, rfl, by decide +kernel, rfl, by decide +kernel, by decide +kernel⟩
def m_row_fault : MS Pen :=
    (seqS (setS 3 (callF 1 f_need_sums [] (consM (mVar 0) (retM []))))
    (seqS (exprS (callF 1 f_need_land [] (consM (mVar 1) (retM []))))
    (seqS (ifS (truM (m1 (isiD false false false false false false [(7, false), (8, false)]) (mVar 2))) (retS badM) nextS)
    (seqS (ifS (truM (m1 (isiD false false false false false false [(7, false), (8, false)]) (mVar 2))) (retS badM) nextS)
    (retS (ifM (truM (m1 (isiD false false false false false false [(7, false), (8, false)]) (mVar 2))) badM (tupM (consM (retM (.str "answer")) (retM [])))))))))
def f_row_fault : List D → Pen → R (D × Pen) Pen := runF 4 m_row_fault
theorem p_row_fault (Fx : Fx K mg cls ca pa) (TB : TBs base mg ca pa) : GF PW w K mg base (dcL K cls (tabs pa)) 7 "row_fault" [] (spD (dcL K cls (tabs pa)) (penJ K) 3 f_row_fault) := by
  obtain ⟨f, fd, hm, kp, Fu, hb⟩ := Fx.d_row_fault
  exact ⟨f, fd, _, [], [], fnD_of Fu sc_row_fault (fun _ => rfl) rfl (fun {cd A outer s H E so B} o => by
    unfold m_row_fault
    exact (ss_cons (s_set (i := 3) sc_row_fault.nd (d_call (p_need_sums Fx TB) o (a_cons (d_var 0) a_nil)))
    (ss_cons (s_expr (d_call (p_need_land Fx TB) o (a_cons (d_var 1) a_nil)))
    (ss_cons (s_if (d_test o.hk (d_isi o.hk Fx.n_isinstance (.own _) Fx.kt_Found Fx.kb_Found (d_var 2) (L2.pe_glob rfl Fx.g_Found rfl))) (ss_one (s_ret d_bad)) ss_nil)
    (ss_cons (s_if (d_test o.hk (d_isi o.hk Fx.n_isinstance (.own _) Fx.kt_Square Fx.kb_Square (d_var 2) (L2.pe_glob rfl Fx.g_Square rfl))) (ss_one (s_ret d_bad)) ss_nil)
    (ss_one (s_ret (d_ifE (d_test o.hk (d_isi o.hk Fx.n_isinstance (.own _) Fx.kt_Clash Fx.kb_Clash (d_var 2) (L2.pe_glob rfl Fx.g_Clash rfl))) d_bad (d_tup (a_cons d_str a_nil)))))))))), hm, kp, hb, .nil, fun _ _ => rfl⟩
abbrev st_need_factor : Stmt := (top 87)
theorem sc_need_factor : FnScope ["factor"] ["factor"] (defScope st_need_factor) := ⟨rfl, rfl, rfl, by decide +kernel, rfl, by decide +kernel, by decide +kernel⟩
def m_need_factor : MS Pen :=
    (ifS (orT (notT (truM (m1 (isiD false false false false false false [(7, false), (8, true)]) (mVar 0)))) (truM (m2 ltD (m1 (fldD [(8, 1)]) (mVar 0)) (retM (.int 0))))) (raiseS 3 1 (consM (mVar 0) (retM []))) nextS)
def f_need_factor : List D → Pen → R (D × Pen) Pen := runF 1 m_need_factor
theorem p_need_factor (Fx : Fx K mg cls ca pa) (TB : TBs base mg ca pa) : GF PW w K mg base (dcL K cls (tabs pa)) 2 "need_factor" [] (spD (dcL K cls (tabs pa)) (penJ K) 1 f_need_factor) := by
  obtain ⟨f, fd, hm, kp, Fu, hb⟩ := Fx.d_need_factor
  exact ⟨f, fd, _, [], [], fnD_of Fu sc_need_factor (fun _ => rfl) rfl (fun {cd A outer s H E so B} o => by
    unfold m_need_factor
    exact (ss_one (s_if (L2.PW.pt (t_or (t_not (d_test o.hk (d_isi o.hk Fx.n_isinstance (.own _) Fx.kt_Poly Fx.kb_Poly (d_var 0) (L2.pe_glob rfl Fx.g_Poly rfl)))) (t_or1 (t_lt (d_fld o.hk [(8, 1)] ⟨⟨Fx.k_Poly, rfl⟩, trivial⟩ (d_var 0)) d_int)))) (ss_one (s_raise (k := 3) (n := 1) Fx.x_BadItem o Fx.g_BadItem (a_cons (d_var 0) a_nil))) ss_nil))), hm, kp, hb, .nil, fun _ _ => rfl⟩
abbrev st_table_of : Stmt := (top 89)
theorem sc_table_of : FnScope ["row", "factor", "numbers", "line"] ["row", "factor"] (defScope st_table_of) := ⟨rfl, rfl, rfl, by decide +kernel, rfl, by decide +kernel, by decide +kernel⟩
def m_table_of : MS Pen :=
    (seqS (setS 2 (callF 1 f_need_sums [] (consM (mVar 0) (retM []))))
    (seqS (exprS (callF 1 f_need_factor [] (consM (mVar 1) (retM []))))
    (retS (callM tupleD (consM (lcM (.nm 3) (itM seqOf badM) yesM (callM tupleD (consM (mVar 3) (retM []))) [3]) (retM []))))))
def f_table_of : List D → Pen → R (D × Pen) Pen := runF 4 m_table_of
theorem p_table_of (Fx : Fx K mg cls ca pa) (TB : TBs base mg ca pa) : GF PW w K mg base (dcL K cls (tabs pa)) 7 "table_of" [] (spD (dcL K cls (tabs pa)) (penJ K) 2 f_table_of) := by
  obtain ⟨f, fd, hm, kp, Fu, hb⟩ := Fx.d_table_of
  exact ⟨f, fd, _, [], [], fnD_of Fu sc_table_of (fun _ => rfl) rfl (fun {cd A outer s H E so B} o => by
    unfold m_table_of
    exact (ss_cons (s_set (i := 2) sc_table_of.nd (d_call (p_need_sums Fx TB) o (a_cons (d_var 0) a_nil)))
    (ss_cons (s_expr (d_call (p_need_factor Fx TB) o (a_cons (d_var 1) a_nil)))
    (ss_one (s_ret (d_tupleC o.hk Fx.n_tuple (d_lc (own := [("line", 3)]) (g := (.nm 3)) o.cm sc_table_of.nd (i_seq o.hk d_bad) (blkOk_by (show blkC ["row", "factor", "numbers", "line"] (defScope st_table_of) _ _ = true from by decide +kernel)) (fun s H C cl fp => g_name sc_table_of.nd) (fun s H C cl fp B => ts_nil) (fun s H C cl fp B => (d_tupleC (o.bk s H _ C cl fp B).hk Fx.n_tuple (d_var 3))) (by decide)))))))), hm, kp, hb, .nil, fun _ _ => rfl⟩
abbrev st_minors : Stmt := (top 91)
theorem sc_minors : FnScope ["row", "factor", "table", "line", "k"] ["row", "factor"] (defScope st_minors) := ⟨rfl, rfl, rfl, by decide +kernel, rfl, by decide +kernel, by decide +kernel⟩
def m_minors : MS Pen :=
    (seqS (setS 2 (callF 2 f_table_of [] (consM (mVar 0) (consM (mVar 1) (retM [])))))
    (retS (callM tupleD (consM (lcM (.nm 4) (itA rng1 (consM (callM lenD (consM (mVar 2) (retM []))) (retM []))) yesM badM [4]) (retM [])))))
def f_minors : List D → Pen → R (D × Pen) Pen := runF 5 m_minors
theorem p_minors (Fx : Fx K mg cls ca pa) (TB : TBs base mg ca pa) : GF PW w K mg base (dcL K cls (tabs pa)) 8 "minors" [] (spD (dcL K cls (tabs pa)) (penJ K) 2 f_minors) := by
  obtain ⟨f, fd, hm, kp, Fu, hb⟩ := Fx.d_minors
  exact ⟨f, fd, _, [], [], fnD_of Fu sc_minors (fun _ => rfl) rfl (fun {cd A outer s H E so B} o => by
    unfold m_minors
    exact (ss_cons (s_set (i := 2) sc_minors.nd (d_call (p_table_of Fx TB) o (a_cons (d_var 0) (a_cons (d_var 1) a_nil))))
    (ss_one (s_ret (d_tupleC o.hk Fx.n_tuple (d_lc (own := [("k", 4)]) (g := (.nm 4)) o.cm sc_minors.nd (i_range1 Fx.n_range (a_cons (d_len o.hk Fx.n_len (d_var 2)) a_nil)) (blkOk_by (show blkC ["row", "factor", "table", "line", "k"] (defScope st_minors) _ _ = true from by decide +kernel)) (fun s H C cl fp => g_name sc_minors.nd) (fun s H C cl fp B => ts_nil) (fun s H C cl fp B => d_bad) (by decide))))))), hm, kp, hb, .nil, fun _ _ => rfl⟩
abbrev st_split : Stmt := (top 92)
theorem sc_split : FnScope ["row", "factor", "numbers"] ["row", "factor"] (defScope st_split) := ⟨rfl, rfl, rfl, by decide +kernel, rfl, by decide +kernel, by decide +kernel⟩
def m_split : MS Pen :=
    (seqS (setS 2 (callF 1 f_need_sums [] (consM (mVar 0) (retM []))))
    (seqS (exprS (callF 1 f_need_factor [] (consM (mVar 1) (retM []))))
    (retS (callM tupleD (consM badM (retM []))))))
def f_split : List D → Pen → R (D × Pen) Pen := runF 3 m_split
theorem p_split (Fx : Fx K mg cls ca pa) (TB : TBs base mg ca pa) : GF PW w K mg base (dcL K cls (tabs pa)) 7 "split" [] (spD (dcL K cls (tabs pa)) (penJ K) 2 f_split) := by
  obtain ⟨f, fd, hm, kp, Fu, hb⟩ := Fx.d_split
  exact ⟨f, fd, _, [], [], fnD_of Fu sc_split (fun _ => rfl) rfl (fun {cd A outer s H E so B} o => by
    unfold m_split
    exact (ss_cons (s_set (i := 2) sc_split.nd (d_call (p_need_sums Fx TB) o (a_cons (d_var 0) a_nil)))
    (ss_cons (s_expr (d_call (p_need_factor Fx TB) o (a_cons (d_var 1) a_nil)))
    (ss_one (s_ret (d_tupleC o.hk Fx.n_tuple d_bad)))))), hm, kp, hb, .nil, fun _ _ => rfl⟩
abbrev st__law_pen : Stmt := (top 120)
theorem sc__law_pen : FnScope ["script", "fold", "cell"] ["script"] (defScope st__law_pen) := ⟨rfl, rfl, rfl, by decide +kernel, rfl, by decide +kernel, by decide +kernel⟩
theorem p__law_pen (Fx : Fx K mg cls ca pa) : GPen PW w K mg base (mkDC K cls flds (tabs pa) none) 1 "_law_pen" := by
  obtain ⟨f, fd, hm, kp, Fu, hb⟩ := Fx.d__law_pen
  exact ⟨f, fd, "script", fnPen_of (k := 0) (T := tabs pa) (cls := cls) (flds := flds) Fu sc__law_pen rfl pen_keeps (fun {cd A outer s H E B} o => ⟨(s_set (i := 1) sc__law_pen.nd d_int), (s_for o.ps o.cm (i_list o.hk (d_var 0)) (g_name (i := 2) sc__law_pen.nd) (ss_one (s_set (i := 1) sc__law_pen.nd (d_mod (d_intC Fx.n_int (d_add (d_mul (d_var 1) d_int) (d_var 2))) d_int)))), s_penRet rfl Fx.n_list⟩), hm, kp, hb⟩
abbrev st_law : Stmt := (top 134)
theorem sc_law : FnScope ["script", "pen", "lap", "row", "k", "p", "given", "item", "told", "odd", "one_v", "found", "land", "wrong"] ["script"] (defScope st_law) := ⟨rfl, rfl, rfl, by decide +kernel, rfl, by decide +kernel, by decide +kernel⟩
def m_law : MS Pen :=
    (seqS (forS (.nm 2) (itA rng1 (consM (retM (.int 4)) (retM []))) (seqS (setS 3 (lcM (.nm 4) (itA rng1 (consM (m2 addD (retM (.int 1)) (callF 2 f__law_draw [] (consM (mVar 1) (consM (retM (.int 13)) (retM []))))) (retM []))) yesM (callF 3 f__law_some_f [] (consM (mVar 1) (consM (retM (.int 4)) (consM (retM (.int 3)) (retM []))))) [4]))
    (seqS (setS 5 (callF 1 f__law_trim [] (consM (lcM (.nm 4) (itA rng1 (consM (callF 2 f__law_draw [] (consM (mVar 1) (consM (retM (.int 14)) (retM [])))) (retM []))) yesM (callF 3 f__law_some_f [] (consM (mVar 1) (consM (retM (.int 4)) (consM (retM (.int 3)) (retM []))))) [4]) (retM []))))
    (seqS (setS 6 (callF 2 f__law_listed [] (consM (mVar 1) (consM (lcM (.nm 7) (itM seqOf (mVar 3)) yesM (callF 1 f__law_ratio [] (consM (mVar 7) (retM []))) [7]) (retM [])))))
    (seqS (setS 8 (lamM n__law_complaint m__law_complaint (callF 2 f_row_total [] (consM (mVar 6) (consM (makeF 8 1 f_Poly___init__ [] (consM (lcM (.nm 7) (itM seqOf (mVar 5)) yesM (callF 1 f__law_ratio [] (consM (mVar 7) (retM []))) [7]) (retM []))) (retM []))))))
    (ifS (truM (m2 gtD (callM lenD (consM (mVar 5) (retM []))) (callM lenD (consM (mVar 3) (retM []))))) (ifS (truM (m2 neD (mVar 8) (tupM (consM (retM (.str "many")) (consM (retM (.str "degree")) (consM (m2 subD (callM lenD (consM (mVar 3) (retM []))) (retM (.int 1))) (retM []))))))) (retS (retM (.bl false))) nextS) (ifS (orT (truM (m2 neD (m2 ixD (mVar 8) (retM (.int 0))) (retM (.str "ok")))) (truM (m2 neD (tupM (consM (m1 (fldD [(7, 0)]) (m2 ixD (mVar 8) (retM (.int 1)))) (consM (m1 (fldD [(7, 1)]) (m2 ixD (mVar 8) (retM (.int 1)))) (retM [])))) (callF 2 f__law_total [] (consM (mVar 3) (consM (mVar 5) (retM []))))))) (retS (retM (.bl false))) nextS)))))))
    (seqS (setS 9 (callF 2 f__law_pick [] (consM (mVar 1) (consM (lstM (consM (retM .non) (consM (retM (.int 5)) (consM (tupM (retM [])) (consM (lstM (retM [])) (consM (retM (.str "1")) (consM (lstM (consM (retM (.int 1)) (consM (retM .non) (retM [])))) (consM (lstM (consM (retM (.int 1)) (consM (retM (.bl true)) (retM [])))) (consM (lstM (consM (retM (.str "1")) (retM []))) (consM (m2 repD (lstM (consM (retM (.int 1)) (retM []))) (retM (.int 14))) (consM (lstM (consM (tupM (consM (retM (.int 1)) (consM (retM (.int 1)) (retM [])))) (retM []))) (retM [])))))))))))) (retM [])))))
    (seqS (setS 10 (makeF 8 1 f_Poly___init__ [] (consM (tupM (consM (retM (.int 1)) (retM []))) (retM []))))
    (seqS (ownS 11 (consM (lamM n__law_complaint m__law_complaint (callF 2 f_settle_row [] (consM (mVar 9) (consM (retM .non) (retM []))))) (retM [])))
    (seqS (apS 11 (lamM n__law_complaint m__law_complaint (callF 3 f_row_fault [] (consM (mVar 9) (consM (retM .non) (consM (retM .non) (retM [])))))))
    (seqS (apS 11 (lamM n__law_complaint m__law_complaint (callF 2 f_row_total [] (consM (mVar 9) (consM (retM .non) (retM []))))))
    (seqS (apS 11 (lamM n__law_complaint m__law_complaint (callF 2 f_table_of [] (consM (mVar 9) (consM (retM .non) (retM []))))))
    (seqS (apS 11 (lamM n__law_complaint m__law_complaint (callF 2 f_minors [] (consM (mVar 9) (consM (mVar 10) (retM []))))))
    (seqS (apS 11 (lamM n__law_complaint m__law_complaint (callF 2 f_split [] (consM (mVar 9) (consM (retM .non) (retM []))))))
    (seqS (frzS 11) (seqS (ifS (truM (m2 neD (mVar 11) (m2 repD (lstM (consM (tupM (consM (retM (.str "row")) (consM (callM reprD (consM (mVar 9) (retM []))) (retM [])))) (retM []))) (retM (.int 6))))) (retS (retM (.bl false))) nextS)
    (seqS (setS 12 (callF 2 f__law_pick [] (consM (mVar 1) (consM (lstM (consM (retM .non) (consM (retM (.str "Line")) (consM (retM (.str "circle")) (consM (retM (.int 3)) (consM (tupM (consM (retM (.str "line")) (retM []))) (consM (retM (.str "")) (retM [])))))))) (retM [])))))
    (seqS (ifS (truM (m2 neD (lamM n__law_complaint m__law_complaint (callF 2 f_settle_row [] (consM (lstM (consM (retM (.int 1)) (retM []))) (consM (mVar 12) (retM []))))) (tupM (consM (retM (.str "land")) (consM (callM reprD (consM (mVar 12) (retM []))) (retM [])))))) (retS (retM (.bl false))) nextS)
    (seqS (ifS (truM (m2 neD (lamM n__law_complaint m__law_complaint (callF 3 f_row_fault [] (consM (lstM (consM (retM (.int 1)) (retM []))) (consM (mVar 12) (consM (retM .non) (retM [])))))) (tupM (consM (retM (.str "land")) (consM (callM reprD (consM (mVar 12) (retM []))) (retM [])))))) (retS (retM (.bl false))) nextS)
    (seqS (setS 13 (callF 2 f__law_pick [] (consM (mVar 1) (consM (lstM (consM (retM .non) (consM (retM (.int 3)) (consM (retM (.str "x")) (consM (tupM (consM (retM (.int 1)) (consM (retM (.int 1)) (retM [])))) (retM [])))))) (retM [])))))
    (seqS (ownS 11 (consM (lamM n__law_complaint m__law_complaint (callF 2 f_row_total [] (consM (lstM (consM (retM (.int 1)) (retM []))) (consM (mVar 13) (retM []))))) (retM [])))
    (seqS (apS 11 (lamM n__law_complaint m__law_complaint (callF 2 f_table_of [] (consM (lstM (consM (retM (.int 1)) (retM []))) (consM (mVar 13) (retM []))))))
    (seqS (apS 11 (lamM n__law_complaint m__law_complaint (callF 2 f_minors [] (consM (lstM (consM (retM (.int 1)) (retM []))) (consM (mVar 13) (retM []))))))
    (seqS (apS 11 (lamM n__law_complaint m__law_complaint (callF 2 f_split [] (consM (lstM (consM (retM (.int 1)) (retM []))) (consM (mVar 13) (retM []))))))
    (seqS (frzS 11) (retS (m2 eqD (mVar 11) (m2 repD (lstM (consM (tupM (consM (retM (.str "item")) (consM (callM reprD (consM (mVar 13) (retM []))) (retM [])))) (retM []))) (retM (.int 4)))))))))))))))))))))))))
theorem p_law (Fx : Fx K mg cls ca pa) (TB : TBs base mg ca pa) {f : Addr} {fd : FuncData} (Fu : FunA K "law" "law" st_law (.ref ca.law) f fd) {good : List Int → Prop} (hm : ∀ cells, good cells → lawTrue 13 1 m_law cells) : FnD PW w K mg base 11 f fd ["script"] (spLaw K (tabs pa) good) :=
  fnLaw_ofB (i := 1) (k := 10) (cls := cls) (flds := flds) Fu sc_law rfl (p__law_pen Fx) (by decide) hm rfl (by first | exact .inl rfl | exact .inr rfl) rfl rfl rfl (by decide) (by decide) (by decide) (fun {A outer s H E so B} hB o => by
    unfold m_law
    exact (ss_cons (s_for o.ps o.cm (i_range1 Fx.n_range (a_cons d_int a_nil)) (g_name (i := 2) sc_law.nd) (ss_cons (s_lc (i := 3) (own := [("k", 4)]) (g := (.nm 4)) o.cm sc_law.nd (i_range1 Fx.n_range (a_cons (d_add d_int (d_call (p__law_draw Fx TB) o (a_cons (d_var 1) (a_cons d_int a_nil)))) a_nil)) (blkOk_by (show blkC ["script", "pen", "lap", "row", "k", "p", "given", "item", "told", "odd", "one_v", "found", "land", "wrong"] (defScope st_law) _ _ = true from by decide +kernel)) (fun s H C cl fp => g_name sc_law.nd) (fun s H C cl fp B => ts_nil) (fun s H C cl fp B => (d_call (p__law_some_f Fx TB) (o.bk s H _ C cl fp B) (a_cons (d_var 1) (a_cons d_int (a_cons d_int a_nil))))) (by decide))
    (ss_cons (s_set (i := 5) sc_law.nd (d_call (p__law_trim Fx TB) o (a_cons (d_lc (own := [("k", 4)]) (g := (.nm 4)) o.cm sc_law.nd (i_range1 Fx.n_range (a_cons (d_call (p__law_draw Fx TB) o (a_cons (d_var 1) (a_cons d_int a_nil))) a_nil)) (blkOk_by (show blkC ["script", "pen", "lap", "row", "k", "p", "given", "item", "told", "odd", "one_v", "found", "land", "wrong"] (defScope st_law) _ _ = true from by decide +kernel)) (fun s H C cl fp => g_name sc_law.nd) (fun s H C cl fp B => ts_nil) (fun s H C cl fp B => (d_call (p__law_some_f Fx TB) (o.bk s H _ C cl fp B) (a_cons (d_var 1) (a_cons d_int (a_cons d_int a_nil))))) (by decide)) a_nil)))
    (ss_cons (s_set (i := 6) sc_law.nd (d_call (p__law_listed Fx TB) o (a_cons (d_var 1) (a_cons (d_lc (own := [("item", 7)]) (g := (.nm 7)) o.cm sc_law.nd (i_seq o.hk (d_var 3)) (blkOk_by (show blkC ["script", "pen", "lap", "row", "k", "p", "given", "item", "told", "odd", "one_v", "found", "land", "wrong"] (defScope st_law) _ _ = true from by decide +kernel)) (fun s H C cl fp => g_name sc_law.nd) (fun s H C cl fp B => ts_nil) (fun s H C cl fp B => (d_call (p__law_ratio Fx TB) (o.bk s H _ C cl fp B) (a_cons (d_var 7) a_nil))) (by decide)) a_nil))))
    (ss_cons (s_set (i := 8) sc_law.nd (d_lam (k := 8) (p__law_complaint Fx TB) o (by decide) (by decide) TB.t_law rfl mem_law (tab_hu Fx.ndT mem_law) (LamX.lamS_by (show LamX.lamSB (defScope st_law) _ = true from by decide +kernel)) (fun _ => rfl) (fun A outer s H E f c B o3 => (d_call (p_row_total Fx TB) o3 (a_cons (d_var 6) (a_cons (d_make (p_Poly___init___1 Fx TB) o3 (a_cons (d_lc (own := [("item", 7)]) (g := (.nm 7)) o3.cm sc_law.nd (i_seq o3.hk (d_var 5)) (blkOk_lam (show blkC ["script", "pen", "lap", "row", "k", "p", "given", "item", "told", "odd", "one_v", "found", "land", "wrong"] _ _ _ = true from by decide +kernel)) (fun s H C cl fp => g_name sc_law.nd) (fun s H C cl fp B => ts_nil) (fun s H C cl fp B => (d_call (p__law_ratio Fx TB) (o3.bk s H _ C cl fp B) (a_cons (d_var 7) a_nil))) (by decide)) a_nil)) a_nil))))))
    (ss_one (s_if (t_gt (d_len o.hk Fx.n_len (d_var 5)) (d_len o.hk Fx.n_len (d_var 3))) (ss_one (s_if (t_ne o.hk o.hu (d_var 8) (d_tup (a_cons d_str (a_cons d_str (a_cons (d_sub (d_len o.hk Fx.n_len (d_var 3)) d_int) a_nil))))) (ss_one (s_ret d_bl)) ss_nil)) (ss_one (s_if (L2.PW.pt (t_or (t_ne o.hk o.hu (d_ix o.hk (d_var 8) d_int) d_str) (t_or1 (t_ne o.hk o.hu (d_tup (a_cons (d_fld o.hk [(7, 0)] ⟨⟨Fx.k_Ratio, rfl⟩, trivial⟩ (d_ix o.hk (d_var 8) d_int)) (a_cons (d_fld o.hk [(7, 1)] ⟨⟨Fx.k_Ratio, rfl⟩, trivial⟩ (d_ix o.hk (d_var 8) d_int)) a_nil))) (d_call (p__law_total Fx TB) o (a_cons (d_var 3) (a_cons (d_var 5) a_nil))))))) (ss_one (s_ret d_bl)) ss_nil)))))))))
    (ss_cons (s_set (i := 9) sc_law.nd (d_call (p__law_pick Fx TB) o (a_cons (d_var 1) (a_cons (d_lst (a_cons d_non (a_cons d_int (a_cons (d_tup a_nil) (a_cons (d_lst a_nil) (a_cons d_str (a_cons (d_lst (a_cons d_int (a_cons d_non a_nil))) (a_cons (d_lst (a_cons d_int (a_cons d_bl a_nil))) (a_cons (d_lst (a_cons d_str a_nil)) (a_cons (d_rep o.hk (d_lst (a_cons d_int a_nil)) d_int) (a_cons (d_lst (a_cons (d_tup (a_cons d_int (a_cons d_int a_nil))) a_nil)) a_nil))))))))))) a_nil))))
    (ss_cons (s_set (i := 10) sc_law.nd (d_make (p_Poly___init___1 Fx TB) o (a_cons (d_tup (a_cons d_int a_nil)) a_nil)))
    (ss_cons (s_own (i := 11) sc_law.nd (a_cons (d_lam (k := 7) (p__law_complaint Fx TB) o (by decide) (by decide) TB.t_law rfl mem_law (tab_hu Fx.ndT mem_law) (LamX.lamS_by (show LamX.lamSB (defScope st_law) _ = true from by decide +kernel)) (fun _ => rfl) (fun A outer s H E f c B o3 => (d_call (p_settle_row Fx TB) o3 (a_cons (d_var 9) (a_cons d_non a_nil))))) a_nil))
    (ss_cons (s_app (i := 11) (d_lam (k := 7) (p__law_complaint Fx TB) o (by decide) (by decide) TB.t_law rfl mem_law (tab_hu Fx.ndT mem_law) (LamX.lamS_by (show LamX.lamSB (defScope st_law) _ = true from by decide +kernel)) (fun _ => rfl) (fun A outer s H E f c B o3 => (d_call (p_row_fault Fx TB) o3 (a_cons (d_var 9) (a_cons d_non (a_cons d_non a_nil)))))))
    (ss_cons (s_app (i := 11) (d_lam (k := 7) (p__law_complaint Fx TB) o (by decide) (by decide) TB.t_law rfl mem_law (tab_hu Fx.ndT mem_law) (LamX.lamS_by (show LamX.lamSB (defScope st_law) _ = true from by decide +kernel)) (fun _ => rfl) (fun A outer s H E f c B o3 => (d_call (p_row_total Fx TB) o3 (a_cons (d_var 9) (a_cons d_non a_nil))))))
    (ss_cons (s_app (i := 11) (d_lam (k := 7) (p__law_complaint Fx TB) o (by decide) (by decide) TB.t_law rfl mem_law (tab_hu Fx.ndT mem_law) (LamX.lamS_by (show LamX.lamSB (defScope st_law) _ = true from by decide +kernel)) (fun _ => rfl) (fun A outer s H E f c B o3 => (d_call (p_table_of Fx TB) o3 (a_cons (d_var 9) (a_cons d_non a_nil))))))
    (ss_cons (s_app (i := 11) (d_lam (k := 8) (p__law_complaint Fx TB) o (by decide) (by decide) TB.t_law rfl mem_law (tab_hu Fx.ndT mem_law) (LamX.lamS_by (show LamX.lamSB (defScope st_law) _ = true from by decide +kernel)) (fun _ => rfl) (fun A outer s H E f c B o3 => (d_call (p_minors Fx TB) o3 (a_cons (d_var 9) (a_cons (d_var 10) a_nil))))))
    (ss_cons (s_app (i := 11) (d_lam (k := 7) (p__law_complaint Fx TB) o (by decide) (by decide) TB.t_law rfl mem_law (tab_hu Fx.ndT mem_law) (LamX.lamS_by (show LamX.lamSB (defScope st_law) _ = true from by decide +kernel)) (fun _ => rfl) (fun A outer s H E f c B o3 => (d_call (p_split Fx TB) o3 (a_cons (d_var 9) (a_cons d_non a_nil))))))
    (ss_frz 11 hB (ss_cons (s_if (t_ne o.hk o.hu (d_var 11) (d_rep o.hk (d_lst (a_cons (d_tup (a_cons d_str (a_cons (d_repr o.hk o.gd o.hu Fx.n_repr (d_var 9)) a_nil))) a_nil)) d_int)) (ss_one (s_ret d_bl)) ss_nil)
    (ss_cons (s_set (i := 12) sc_law.nd (d_call (p__law_pick Fx TB) o (a_cons (d_var 1) (a_cons (d_lst (a_cons d_non (a_cons d_str (a_cons d_str (a_cons d_int (a_cons (d_tup (a_cons d_str a_nil)) (a_cons d_str a_nil))))))) a_nil))))
    (ss_cons (s_if (t_ne o.hk o.hu (d_lam (k := 7) (p__law_complaint Fx TB) o (by decide) (by decide) TB.t_law rfl mem_law (tab_hu Fx.ndT mem_law) (LamX.lamS_by (show LamX.lamSB (defScope st_law) _ = true from by decide +kernel)) (fun _ => rfl) (fun A outer s H E f c B o3 => (d_call (p_settle_row Fx TB) o3 (a_cons (d_lst (a_cons d_int a_nil)) (a_cons (d_var 12) a_nil))))) (d_tup (a_cons d_str (a_cons (d_repr o.hk o.gd o.hu Fx.n_repr (d_var 12)) a_nil)))) (ss_one (s_ret d_bl)) ss_nil)
    (ss_cons (s_if (t_ne o.hk o.hu (d_lam (k := 7) (p__law_complaint Fx TB) o (by decide) (by decide) TB.t_law rfl mem_law (tab_hu Fx.ndT mem_law) (LamX.lamS_by (show LamX.lamSB (defScope st_law) _ = true from by decide +kernel)) (fun _ => rfl) (fun A outer s H E f c B o3 => (d_call (p_row_fault Fx TB) o3 (a_cons (d_lst (a_cons d_int a_nil)) (a_cons (d_var 12) (a_cons d_non a_nil)))))) (d_tup (a_cons d_str (a_cons (d_repr o.hk o.gd o.hu Fx.n_repr (d_var 12)) a_nil)))) (ss_one (s_ret d_bl)) ss_nil)
    (ss_cons (s_set (i := 13) sc_law.nd (d_call (p__law_pick Fx TB) o (a_cons (d_var 1) (a_cons (d_lst (a_cons d_non (a_cons d_int (a_cons d_str (a_cons (d_tup (a_cons d_int (a_cons d_int a_nil))) a_nil))))) a_nil))))
    (ss_cons (s_own (i := 11) sc_law.nd (a_cons (d_lam (k := 7) (p__law_complaint Fx TB) o (by decide) (by decide) TB.t_law rfl mem_law (tab_hu Fx.ndT mem_law) (LamX.lamS_by (show LamX.lamSB (defScope st_law) _ = true from by decide +kernel)) (fun _ => rfl) (fun A outer s H E f c B o3 => (d_call (p_row_total Fx TB) o3 (a_cons (d_lst (a_cons d_int a_nil)) (a_cons (d_var 13) a_nil))))) a_nil))
    (ss_cons (s_app (i := 11) (d_lam (k := 7) (p__law_complaint Fx TB) o (by decide) (by decide) TB.t_law rfl mem_law (tab_hu Fx.ndT mem_law) (LamX.lamS_by (show LamX.lamSB (defScope st_law) _ = true from by decide +kernel)) (fun _ => rfl) (fun A outer s H E f c B o3 => (d_call (p_table_of Fx TB) o3 (a_cons (d_lst (a_cons d_int a_nil)) (a_cons (d_var 13) a_nil))))))
    (ss_cons (s_app (i := 11) (d_lam (k := 8) (p__law_complaint Fx TB) o (by decide) (by decide) TB.t_law rfl mem_law (tab_hu Fx.ndT mem_law) (LamX.lamS_by (show LamX.lamSB (defScope st_law) _ = true from by decide +kernel)) (fun _ => rfl) (fun A outer s H E f c B o3 => (d_call (p_minors Fx TB) o3 (a_cons (d_lst (a_cons d_int a_nil)) (a_cons (d_var 13) a_nil))))))
    (ss_cons (s_app (i := 11) (d_lam (k := 7) (p__law_complaint Fx TB) o (by decide) (by decide) TB.t_law rfl mem_law (tab_hu Fx.ndT mem_law) (LamX.lamS_by (show LamX.lamSB (defScope st_law) _ = true from by decide +kernel)) (fun _ => rfl) (fun A outer s H E f c B o3 => (d_call (p_split Fx TB) o3 (a_cons (d_lst (a_cons d_int a_nil)) (a_cons (d_var 13) a_nil))))))
    (ss_frz 11 hB (ss_one (s_ret (d_eq o.hk o.hu (d_var 11) (d_rep o.hk (d_lst (a_cons (d_tup (a_cons d_str (a_cons (d_repr o.hk o.gd o.hu Fx.n_repr (d_var 13)) a_nil))) a_nil)) d_int)))))))))))))))))))))))))
end
end K22
set_option Elab.async false
set_option linter.all false
set_option maxRecDepth 100000
set_option maxHeartbeats 4000000
namespace K22
open PySem PySem.Spec PyProof.Rows L2 DL
abbrev clsY (K : PySem.W.Frag) : Nat → Addr := clsL [He.ga K "LeverError", He.ga K "BadNumber", He.ga K "BadRow", He.ga K "BadItem", He.ga K "TooMany", 0, He.ga K "BadLand", He.ga K "Ratio", He.ga K "Poly", 0, He.ga K "Found", He.ga K "Square", He.ga K "Clash"]
abbrev caY (K : PySem.W.Frag) : Cs := ⟨DL.codeOf K ("law", none)⟩
abbrev paY (K : PySem.W.Frag) : Cs := ⟨DL.tabOf K ("law", none)⟩
section
variable {K : PySem.W.Frag} {mg : Str → Option Value} {h : Heap} (c : DL.SaysY fs fn tq h K) (G : h.Ns mainGlobals mg)
include c G
theorem y_x_BadNumber : ExcT PW K ((clsY K) 1) (flds 1) := by
  have X := c.kin
  obtain ⟨_, _, _, _, _, _, _, _, _, _, _, _, _, _, x1_1⟩ := DL.get_excC (c.fact 17 6)
  have x2_1 : PySem.W.findIn K (.ref (He.ga K "BadNumber")) "__setattr__" = some (some (.builtin "object.__setattr__")) := c.dec 1 11
  have x3_1 : PySem.W.subIn K (.ref (He.ga K "BadNumber")) (.type "BaseException") = some true := c.dec 1 12
  have x4_1 : PySem.W.typeIn K (.ref (He.ga K "BadNumber")) = some (.type "type") := c.dec 1 13
  have x5_1 : PySem.W.keepIn K (.ref (He.ga K "BadNumber")) = true := c.dec 1 14
  have x6_1 : PySem.W.findIn K (.ref (He.ga K "BadNumber")) "__getattribute__" = some (some (.builtin "BaseException.__getattribute__")) := c.dec 2 0
  have x7_1 : PySem.W.findIn K (.ref (He.ga K "BadNumber")) "__getattr__" = some none := c.dec 2 1
  have x8_1 : PySem.W.hasDictIn K (He.ga K "BadNumber") = true := c.dec 2 2
  have xa_1 : PySem.W.subIn K (.ref (He.ga K "BadNumber")) (.type "ValueError") = some true := c.dec 2 5
  have xb_1 : PySem.W.mroIn K (He.ga K "BadNumber") (.ref (He.ga K "BadNumber")) = some true := c.dec 2 6
  have xc_1 : PySem.W.ks_superIn K (He.ga K "BadNumber") (He.ga K "BadNumber") "__init__" = some (some (.builtin "ValueError.__init__")) := c.dec 2 7
  have ho : PySem.W.nsIn K cStatics "thirdparty.any" = some none := c.dec 1 9
  have hsu : PySem.W.nsIn K mainGlobals "super" = some none := c.dec 1 10
  have xd_1 : PySem.W.findIn K (.ref (He.ga K "BadNumber")) "__init__" = some (some (.ref (He.fAd K ("BadNumber", some "__init__")))) := c.dec 2 8
  have xe_1 : PySem.W.typeIn K (.ref (He.fAd K ("BadNumber", some "__init__"))) = some (.type "function") := c.dec 2 9
  obtain ⟨_, _, _, _, _, _, _, _, _, _, _, _, _, _, _, _, _, _, _, xf_1, xg_1, xh_1, xi_1, xj_1, xk_1⟩ := DL.get_exc (c.fn_ 0) (c.fact 17 7)
  have x9_1_what : PySem.W.findIn K (.ref (He.ga K "BadNumber")) "what" = some none := c.dec 2 3
  have x9_1_value : PySem.W.findIn K (.ref (He.ga K "BadNumber")) "value" = some none := c.dec 2 4
  exact by
      refine ⟨⟨⟨_, _, _, _, _, _, _, _, _, _, _, _, _, _, _, x1_1, (show PySem.HandSPX.refsVE [.type "ValueError", .type "Exception", .type "BaseException", .type "object"] = true from by decide +kernel)⟩, x2_1, x3_1, x4_1, x5_1⟩, ⟨x6_1, x7_1, x3_1, x8_1⟩, ?_, xa_1, xb_1, xc_1, ho, hsu, by decide +kernel, _, _, _, _, _, _, _, _, _, _, _, _, _, _, _, _, xd_1, xe_1, xf_1, xg_1, ?_, ?_, ⟨_, _, _, xh_1⟩, _, _, _, _, _, _, xi_1, xj_1, xk_1⟩
      · intro f hf
        simp only [flds, List.mem_cons, List.not_mem_nil, or_false] at hf
        rcases hf with rfl | rfl
        · exact x9_1_what
        · exact x9_1_value
      · exact ⟨⟨_, rfl, rfl⟩, ⟨_, _, _, _, _, _, _, _, rfl, .cons (.cons (.nil)), .cons (.cons (.nil)), rfl⟩, rfl, rfl, rfl, by decide +kernel, rfl, by decide +kernel, rfl, rfl, by decide, by decide, by decide⟩
      · exact fun s x us hl => match us, hl with | [_, _], _ => .of_eq rfl
theorem y_x_BadRow : ExcT PW K ((clsY K) 2) (flds 2) := by
  have X := c.kin
  obtain ⟨_, _, _, _, _, _, _, _, _, _, _, _, _, _, x1_2⟩ := DL.get_excC (c.fact 17 8)
  have x2_2 : PySem.W.findIn K (.ref (He.ga K "BadRow")) "__setattr__" = some (some (.builtin "object.__setattr__")) := c.dec 2 10
  have x3_2 : PySem.W.subIn K (.ref (He.ga K "BadRow")) (.type "BaseException") = some true := c.dec 2 11
  have x4_2 : PySem.W.typeIn K (.ref (He.ga K "BadRow")) = some (.type "type") := c.dec 2 12
  have x5_2 : PySem.W.keepIn K (.ref (He.ga K "BadRow")) = true := c.dec 2 13
  have x6_2 : PySem.W.findIn K (.ref (He.ga K "BadRow")) "__getattribute__" = some (some (.builtin "BaseException.__getattribute__")) := c.dec 2 14
  have x7_2 : PySem.W.findIn K (.ref (He.ga K "BadRow")) "__getattr__" = some none := c.dec 3 0
  have x8_2 : PySem.W.hasDictIn K (He.ga K "BadRow") = true := c.dec 3 1
  have xa_2 : PySem.W.subIn K (.ref (He.ga K "BadRow")) (.type "ValueError") = some true := c.dec 3 3
  have xb_2 : PySem.W.mroIn K (He.ga K "BadRow") (.ref (He.ga K "BadRow")) = some true := c.dec 3 4
  have xc_2 : PySem.W.ks_superIn K (He.ga K "BadRow") (He.ga K "BadRow") "__init__" = some (some (.builtin "ValueError.__init__")) := c.dec 3 5
  have ho : PySem.W.nsIn K cStatics "thirdparty.any" = some none := c.dec 1 9
  have hsu : PySem.W.nsIn K mainGlobals "super" = some none := c.dec 1 10
  have xd_2 : PySem.W.findIn K (.ref (He.ga K "BadRow")) "__init__" = some (some (.ref (He.fAd K ("BadRow", some "__init__")))) := c.dec 3 6
  have xe_2 : PySem.W.typeIn K (.ref (He.fAd K ("BadRow", some "__init__"))) = some (.type "function") := c.dec 3 7
  obtain ⟨_, _, _, _, _, _, _, _, _, _, _, _, _, _, _, _, _, _, _, xf_2, xg_2, xh_2, xi_2, xj_2, xk_2⟩ := DL.get_exc (c.fn_ 1) (c.fact 17 9)
  have x9_2_value : PySem.W.findIn K (.ref (He.ga K "BadRow")) "value" = some none := c.dec 3 2
  exact by
      refine ⟨⟨⟨_, _, _, _, _, _, _, _, _, _, _, _, _, _, _, x1_2, (show PySem.HandSPX.refsVE [.type "ValueError", .type "Exception", .type "BaseException", .type "object"] = true from by decide +kernel)⟩, x2_2, x3_2, x4_2, x5_2⟩, ⟨x6_2, x7_2, x3_2, x8_2⟩, ?_, xa_2, xb_2, xc_2, ho, hsu, by decide +kernel, _, _, _, _, _, _, _, _, _, _, _, _, _, _, _, _, xd_2, xe_2, xf_2, xg_2, ?_, ?_, ⟨_, _, _, xh_2⟩, _, _, _, _, _, _, xi_2, xj_2, xk_2⟩
      · intro f hf
        simp only [flds, List.mem_cons, List.not_mem_nil, or_false] at hf
        subst hf
        exact x9_2_value
      · exact ⟨⟨_, rfl, rfl⟩, ⟨_, _, _, _, _, _, _, _, rfl, .cons (.nil), .cons (.nil), rfl⟩, rfl, rfl, rfl, by decide +kernel, rfl, by decide +kernel, rfl, rfl, by decide, by decide, by decide⟩
      · exact fun s x us hl => match us, hl with | [_], _ => .of_eq rfl
theorem y_x_BadItem : ExcT PW K ((clsY K) 3) (flds 3) := by
  have X := c.kin
  obtain ⟨_, _, _, _, _, _, _, _, _, _, _, _, _, _, x1_3⟩ := DL.get_excC (c.fact 17 10)
  have x2_3 : PySem.W.findIn K (.ref (He.ga K "BadItem")) "__setattr__" = some (some (.builtin "object.__setattr__")) := c.dec 3 8
  have x3_3 : PySem.W.subIn K (.ref (He.ga K "BadItem")) (.type "BaseException") = some true := c.dec 3 9
  have x4_3 : PySem.W.typeIn K (.ref (He.ga K "BadItem")) = some (.type "type") := c.dec 3 10
  have x5_3 : PySem.W.keepIn K (.ref (He.ga K "BadItem")) = true := c.dec 3 11
  have x6_3 : PySem.W.findIn K (.ref (He.ga K "BadItem")) "__getattribute__" = some (some (.builtin "BaseException.__getattribute__")) := c.dec 3 12
  have x7_3 : PySem.W.findIn K (.ref (He.ga K "BadItem")) "__getattr__" = some none := c.dec 3 13
  have x8_3 : PySem.W.hasDictIn K (He.ga K "BadItem") = true := c.dec 3 14
  have xa_3 : PySem.W.subIn K (.ref (He.ga K "BadItem")) (.type "ValueError") = some true := c.dec 4 1
  have xb_3 : PySem.W.mroIn K (He.ga K "BadItem") (.ref (He.ga K "BadItem")) = some true := c.dec 4 2
  have xc_3 : PySem.W.ks_superIn K (He.ga K "BadItem") (He.ga K "BadItem") "__init__" = some (some (.builtin "ValueError.__init__")) := c.dec 4 3
  have ho : PySem.W.nsIn K cStatics "thirdparty.any" = some none := c.dec 1 9
  have hsu : PySem.W.nsIn K mainGlobals "super" = some none := c.dec 1 10
  have xd_3 : PySem.W.findIn K (.ref (He.ga K "BadItem")) "__init__" = some (some (.ref (He.fAd K ("BadItem", some "__init__")))) := c.dec 4 4
  have xe_3 : PySem.W.typeIn K (.ref (He.fAd K ("BadItem", some "__init__"))) = some (.type "function") := c.dec 4 5
  obtain ⟨_, _, _, _, _, _, _, _, _, _, _, _, _, _, _, _, _, _, _, xf_3, xg_3, xh_3, xi_3, xj_3, xk_3⟩ := DL.get_exc (c.fn_ 2) (c.fact 17 11)
  have x9_3_value : PySem.W.findIn K (.ref (He.ga K "BadItem")) "value" = some none := c.dec 4 0
  exact by
      refine ⟨⟨⟨_, _, _, _, _, _, _, _, _, _, _, _, _, _, _, x1_3, (show PySem.HandSPX.refsVE [.type "ValueError", .type "Exception", .type "BaseException", .type "object"] = true from by decide +kernel)⟩, x2_3, x3_3, x4_3, x5_3⟩, ⟨x6_3, x7_3, x3_3, x8_3⟩, ?_, xa_3, xb_3, xc_3, ho, hsu, by decide +kernel, _, _, _, _, _, _, _, _, _, _, _, _, _, _, _, _, xd_3, xe_3, xf_3, xg_3, ?_, ?_, ⟨_, _, _, xh_3⟩, _, _, _, _, _, _, xi_3, xj_3, xk_3⟩
      · intro f hf
        simp only [flds, List.mem_cons, List.not_mem_nil, or_false] at hf
        subst hf
        exact x9_3_value
      · exact ⟨⟨_, rfl, rfl⟩, ⟨_, _, _, _, _, _, _, _, rfl, .cons (.nil), .cons (.nil), rfl⟩, rfl, rfl, rfl, by decide +kernel, rfl, by decide +kernel, rfl, rfl, by decide, by decide, by decide⟩
      · exact fun s x us hl => match us, hl with | [_], _ => .of_eq rfl
theorem y_x_TooMany : ExcT PW K ((clsY K) 4) (flds 4) := by
  have X := c.kin
  obtain ⟨_, _, _, _, _, _, _, _, _, _, _, _, _, _, x1_4⟩ := DL.get_excC (c.fact 17 12)
  have x2_4 : PySem.W.findIn K (.ref (He.ga K "TooMany")) "__setattr__" = some (some (.builtin "object.__setattr__")) := c.dec 4 6
  have x3_4 : PySem.W.subIn K (.ref (He.ga K "TooMany")) (.type "BaseException") = some true := c.dec 4 7
  have x4_4 : PySem.W.typeIn K (.ref (He.ga K "TooMany")) = some (.type "type") := c.dec 4 8
  have x5_4 : PySem.W.keepIn K (.ref (He.ga K "TooMany")) = true := c.dec 4 9
  have x6_4 : PySem.W.findIn K (.ref (He.ga K "TooMany")) "__getattribute__" = some (some (.builtin "BaseException.__getattribute__")) := c.dec 4 10
  have x7_4 : PySem.W.findIn K (.ref (He.ga K "TooMany")) "__getattr__" = some none := c.dec 4 11
  have x8_4 : PySem.W.hasDictIn K (He.ga K "TooMany") = true := c.dec 4 12
  have xa_4 : PySem.W.subIn K (.ref (He.ga K "TooMany")) (.type "ValueError") = some true := c.dec 5 0
  have xb_4 : PySem.W.mroIn K (He.ga K "TooMany") (.ref (He.ga K "TooMany")) = some true := c.dec 5 1
  have xc_4 : PySem.W.ks_superIn K (He.ga K "TooMany") (He.ga K "TooMany") "__init__" = some (some (.builtin "ValueError.__init__")) := c.dec 5 2
  have ho : PySem.W.nsIn K cStatics "thirdparty.any" = some none := c.dec 1 9
  have hsu : PySem.W.nsIn K mainGlobals "super" = some none := c.dec 1 10
  have xd_4 : PySem.W.findIn K (.ref (He.ga K "TooMany")) "__init__" = some (some (.ref (He.fAd K ("TooMany", some "__init__")))) := c.dec 5 3
  have xe_4 : PySem.W.typeIn K (.ref (He.fAd K ("TooMany", some "__init__"))) = some (.type "function") := c.dec 5 4
  obtain ⟨_, _, _, _, _, _, _, _, _, _, _, _, _, _, _, _, _, _, _, xf_4, xg_4, xh_4, xi_4, xj_4, xk_4⟩ := DL.get_exc (c.fn_ 3) (c.fact 17 13)
  have x9_4_what : PySem.W.findIn K (.ref (He.ga K "TooMany")) "what" = some none := c.dec 4 13
  have x9_4_most : PySem.W.findIn K (.ref (He.ga K "TooMany")) "most" = some none := c.dec 4 14
  exact by
      refine ⟨⟨⟨_, _, _, _, _, _, _, _, _, _, _, _, _, _, _, x1_4, (show PySem.HandSPX.refsVE [.type "ValueError", .type "Exception", .type "BaseException", .type "object"] = true from by decide +kernel)⟩, x2_4, x3_4, x4_4, x5_4⟩, ⟨x6_4, x7_4, x3_4, x8_4⟩, ?_, xa_4, xb_4, xc_4, ho, hsu, by decide +kernel, _, _, _, _, _, _, _, _, _, _, _, _, _, _, _, _, xd_4, xe_4, xf_4, xg_4, ?_, ?_, ⟨_, _, _, xh_4⟩, _, _, _, _, _, _, xi_4, xj_4, xk_4⟩
      · intro f hf
        simp only [flds, List.mem_cons, List.not_mem_nil, or_false] at hf
        rcases hf with rfl | rfl
        · exact x9_4_what
        · exact x9_4_most
      · exact ⟨⟨_, rfl, rfl⟩, ⟨_, _, _, _, _, _, _, _, rfl, .cons (.cons (.nil)), .cons (.cons (.nil)), rfl⟩, rfl, rfl, rfl, by decide +kernel, rfl, by decide +kernel, rfl, rfl, by decide, by decide, by decide⟩
      · exact fun s x us hl => match us, hl with | [_, _], _ => .of_eq rfl
theorem y_x_BadLand : ExcT PW K ((clsY K) 6) (flds 6) := by
  have X := c.kin
  obtain ⟨_, _, _, _, _, _, _, _, _, _, _, _, _, _, x1_6⟩ := DL.get_excC (c.fact 17 14)
  have x2_6 : PySem.W.findIn K (.ref (He.ga K "BadLand")) "__setattr__" = some (some (.builtin "object.__setattr__")) := c.dec 5 5
  have x3_6 : PySem.W.subIn K (.ref (He.ga K "BadLand")) (.type "BaseException") = some true := c.dec 5 6
  have x4_6 : PySem.W.typeIn K (.ref (He.ga K "BadLand")) = some (.type "type") := c.dec 5 7
  have x5_6 : PySem.W.keepIn K (.ref (He.ga K "BadLand")) = true := c.dec 5 8
  have x6_6 : PySem.W.findIn K (.ref (He.ga K "BadLand")) "__getattribute__" = some (some (.builtin "BaseException.__getattribute__")) := c.dec 5 9
  have x7_6 : PySem.W.findIn K (.ref (He.ga K "BadLand")) "__getattr__" = some none := c.dec 5 10
  have x8_6 : PySem.W.hasDictIn K (He.ga K "BadLand") = true := c.dec 5 11
  have xa_6 : PySem.W.subIn K (.ref (He.ga K "BadLand")) (.type "ValueError") = some true := c.dec 5 13
  have xb_6 : PySem.W.mroIn K (He.ga K "BadLand") (.ref (He.ga K "BadLand")) = some true := c.dec 5 14
  have xc_6 : PySem.W.ks_superIn K (He.ga K "BadLand") (He.ga K "BadLand") "__init__" = some (some (.builtin "ValueError.__init__")) := c.dec 6 0
  have ho : PySem.W.nsIn K cStatics "thirdparty.any" = some none := c.dec 1 9
  have hsu : PySem.W.nsIn K mainGlobals "super" = some none := c.dec 1 10
  have xd_6 : PySem.W.findIn K (.ref (He.ga K "BadLand")) "__init__" = some (some (.ref (He.fAd K ("BadLand", some "__init__")))) := c.dec 6 1
  have xe_6 : PySem.W.typeIn K (.ref (He.fAd K ("BadLand", some "__init__"))) = some (.type "function") := c.dec 6 2
  obtain ⟨_, _, _, _, _, _, _, _, _, _, _, _, _, _, _, _, _, _, _, xf_6, xg_6, xh_6, xi_6, xj_6, xk_6⟩ := DL.get_exc (c.fn_ 4) (c.fact 18 0)
  have x9_6_land : PySem.W.findIn K (.ref (He.ga K "BadLand")) "land" = some none := c.dec 5 12
  exact by
      refine ⟨⟨⟨_, _, _, _, _, _, _, _, _, _, _, _, _, _, _, x1_6, (show PySem.HandSPX.refsVE [.type "ValueError", .type "Exception", .type "BaseException", .type "object"] = true from by decide +kernel)⟩, x2_6, x3_6, x4_6, x5_6⟩, ⟨x6_6, x7_6, x3_6, x8_6⟩, ?_, xa_6, xb_6, xc_6, ho, hsu, by decide +kernel, _, _, _, _, _, _, _, _, _, _, _, _, _, _, _, _, xd_6, xe_6, xf_6, xg_6, ?_, ?_, ⟨_, _, _, xh_6⟩, _, _, _, _, _, _, xi_6, xj_6, xk_6⟩
      · intro f hf
        simp only [flds, List.mem_cons, List.not_mem_nil, or_false] at hf
        subst hf
        exact x9_6_land
      · exact ⟨⟨_, rfl, rfl⟩, ⟨_, _, _, _, _, _, _, _, rfl, .cons (.nil), .cons (.nil), rfl⟩, rfl, rfl, rfl, by decide +kernel, rfl, by decide +kernel, rfl, rfl, by decide, by decide, by decide⟩
      · exact fun s x us hl => match us, hl with | [_], _ => .of_eq rfl
theorem y_sf_Ratio : PySem.W.selfFirst K ((clsY K) 7) = true := by
  have X := c.kin
  have sf_7 : PySem.W.selfFirst K (He.ga K "Ratio") = true := c.dec 6 3
  exact sf_7
theorem y_k_Ratio : ∀ {so : Option Addr}, ClsD (dcL K (clsY K) (tabs (paY K)) so) 7 := by
  have X := c.kin
  have r1_7 : PySem.W.plainGet K (He.ga K "Ratio") Str.empty = true := c.dec 6 4
  have r2_7 : PySem.W.hasDictIn K (He.ga K "Ratio") = true := c.dec 6 5
  have r3_7 : PySem.W.plainOver K (He.ga K "Ratio") = true := c.dec 6 6
  have r4_7 : PySem.W.findIn K (.ref (He.ga K "Ratio")) "__setattr__" = some (some (.builtin "object.__setattr__")) := c.dec 6 7
  have r5_7_top : PySem.W.findIn K (.ref (He.ga K "Ratio")) "top" = some none := c.dec 6 8
  have r5_7_bottom : PySem.W.findIn K (.ref (He.ga K "Ratio")) "bottom" = some none := c.dec 6 9
  have r5_7_sign : PySem.W.findIn K (.ref (He.ga K "Ratio")) "sign" = some none := c.dec 6 10
  have r5_7_whole : PySem.W.findIn K (.ref (He.ga K "Ratio")) "whole" = some none := c.dec 6 11
  exact fun {so} => by
      refine ⟨⟨r1_7, r2_7, r3_7, r4_7⟩, ?_, by show (flds 7).Nodup; decide, by show (flds 7).length < 1000; decide⟩
      intro f hf
      have hf : f ∈ flds 7 := hf
      simp only [flds, List.mem_cons, List.not_mem_nil, or_false] at hf
      rcases hf with rfl | rfl | rfl | rfl
      · exact r5_7_top
      · exact r5_7_bottom
      · exact r5_7_sign
      · exact r5_7_whole
theorem y_k_Poly : ∀ {so : Option Addr}, ClsD (dcL K (clsY K) (tabs (paY K)) so) 8 := by
  have X := c.kin
  have r1_8 : PySem.W.plainGet K (He.ga K "Poly") Str.empty = true := c.dec 7 3
  have r2_8 : PySem.W.hasDictIn K (He.ga K "Poly") = true := c.dec 7 4
  have r3_8 : PySem.W.plainOver K (He.ga K "Poly") = true := c.dec 7 5
  have r4_8 : PySem.W.findIn K (.ref (He.ga K "Poly")) "__setattr__" = some (some (.builtin "object.__setattr__")) := c.dec 7 6
  have r5_8_numbers : PySem.W.findIn K (.ref (He.ga K "Poly")) "numbers" = some none := c.dec 7 7
  have r5_8_degree : PySem.W.findIn K (.ref (He.ga K "Poly")) "degree" = some none := c.dec 7 8
  have r5_8_lead : PySem.W.findIn K (.ref (He.ga K "Poly")) "lead" = some none := c.dec 7 9
  exact fun {so} => by
      refine ⟨⟨r1_8, r2_8, r3_8, r4_8⟩, ?_, by show (flds 8).Nodup; decide, by show (flds 8).length < 1000; decide⟩
      intro f hf
      have hf : f ∈ flds 8 := hf
      simp only [flds, List.mem_cons, List.not_mem_nil, or_false] at hf
      rcases hf with rfl | rfl | rfl
      · exact r5_8_numbers
      · exact r5_8_degree
      · exact r5_8_lead
theorem y_kb_bool : KTb K (clsY K) (.type "bool") [(7, false), (8, false)] := by
  have X := c.kin
  have r1_7 : PySem.W.plainGet K (He.ga K "Ratio") Str.empty = true := c.dec 6 4
  have r2_7 : PySem.W.hasDictIn K (He.ga K "Ratio") = true := c.dec 6 5
  have r3_7 : PySem.W.plainOver K (He.ga K "Ratio") = true := c.dec 6 6
  have r4_7 : PySem.W.findIn K (.ref (He.ga K "Ratio")) "__setattr__" = some (some (.builtin "object.__setattr__")) := c.dec 6 7
  have r6_7 : PySem.W.findIn K (.ref (He.ga K "Ratio")) "__class__" = some (some (.builtin "object.__class__")) := c.dec 6 12
  have r7_7 : PySem.W.specialIn K (.builtin "object.__class__") "__get__" = some (some (.builtin "getset_descriptor.__get__")) := c.dec 6 13
  have r8_7 : PySem.W.takesIn K (.builtin "object.__class__") = some true := c.dec 6 14
  have r9_7 : PySem.W.mroIn K (He.ga K "Ratio") (.type "object") = some true := c.dec 7 0
  have o_bool_7 : PySem.W.kitOne K (.ref (He.ga K "Ratio")) (.type "bool") = some false := c.dec 8 1
  have r1_8 : PySem.W.plainGet K (He.ga K "Poly") Str.empty = true := c.dec 7 3
  have r2_8 : PySem.W.hasDictIn K (He.ga K "Poly") = true := c.dec 7 4
  have r3_8 : PySem.W.plainOver K (He.ga K "Poly") = true := c.dec 7 5
  have r4_8 : PySem.W.findIn K (.ref (He.ga K "Poly")) "__setattr__" = some (some (.builtin "object.__setattr__")) := c.dec 7 6
  have r6_8 : PySem.W.findIn K (.ref (He.ga K "Poly")) "__class__" = some (some (.builtin "object.__class__")) := c.dec 7 10
  have r7_8 : PySem.W.specialIn K (.builtin "object.__class__") "__get__" = some (some (.builtin "getset_descriptor.__get__")) := c.dec 7 11
  have r8_8 : PySem.W.takesIn K (.builtin "object.__class__") = some true := c.dec 7 12
  have r9_8 : PySem.W.mroIn K (He.ga K "Poly") (.type "object") = some true := c.dec 7 13
  have o_bool_8 : PySem.W.kitOne K (.ref (He.ga K "Poly")) (.type "bool") = some false := c.dec 8 2
  exact ⟨⟨⟨⟨r1_7, r2_7, r3_7, r4_7⟩, r6_7, r7_7, r8_7, r9_7⟩, o_bool_7⟩, ⟨⟨⟨⟨r1_8, r2_8, r3_8, r4_8⟩, r6_8, r7_8, r8_8, r9_8⟩, o_bool_8⟩, trivial⟩⟩
theorem y_kb_int : KTb K (clsY K) (.type "int") [(7, false), (8, false)] := by
  have X := c.kin
  have r1_7 : PySem.W.plainGet K (He.ga K "Ratio") Str.empty = true := c.dec 6 4
  have r2_7 : PySem.W.hasDictIn K (He.ga K "Ratio") = true := c.dec 6 5
  have r3_7 : PySem.W.plainOver K (He.ga K "Ratio") = true := c.dec 6 6
  have r4_7 : PySem.W.findIn K (.ref (He.ga K "Ratio")) "__setattr__" = some (some (.builtin "object.__setattr__")) := c.dec 6 7
  have r6_7 : PySem.W.findIn K (.ref (He.ga K "Ratio")) "__class__" = some (some (.builtin "object.__class__")) := c.dec 6 12
  have r7_7 : PySem.W.specialIn K (.builtin "object.__class__") "__get__" = some (some (.builtin "getset_descriptor.__get__")) := c.dec 6 13
  have r8_7 : PySem.W.takesIn K (.builtin "object.__class__") = some true := c.dec 6 14
  have r9_7 : PySem.W.mroIn K (He.ga K "Ratio") (.type "object") = some true := c.dec 7 0
  have o_int_7 : PySem.W.kitOne K (.ref (He.ga K "Ratio")) (.type "int") = some false := c.dec 8 3
  have r1_8 : PySem.W.plainGet K (He.ga K "Poly") Str.empty = true := c.dec 7 3
  have r2_8 : PySem.W.hasDictIn K (He.ga K "Poly") = true := c.dec 7 4
  have r3_8 : PySem.W.plainOver K (He.ga K "Poly") = true := c.dec 7 5
  have r4_8 : PySem.W.findIn K (.ref (He.ga K "Poly")) "__setattr__" = some (some (.builtin "object.__setattr__")) := c.dec 7 6
  have r6_8 : PySem.W.findIn K (.ref (He.ga K "Poly")) "__class__" = some (some (.builtin "object.__class__")) := c.dec 7 10
  have r7_8 : PySem.W.specialIn K (.builtin "object.__class__") "__get__" = some (some (.builtin "getset_descriptor.__get__")) := c.dec 7 11
  have r8_8 : PySem.W.takesIn K (.builtin "object.__class__") = some true := c.dec 7 12
  have r9_8 : PySem.W.mroIn K (He.ga K "Poly") (.type "object") = some true := c.dec 7 13
  have o_int_8 : PySem.W.kitOne K (.ref (He.ga K "Poly")) (.type "int") = some false := c.dec 8 4
  exact ⟨⟨⟨⟨r1_7, r2_7, r3_7, r4_7⟩, r6_7, r7_7, r8_7, r9_7⟩, o_int_7⟩, ⟨⟨⟨⟨r1_8, r2_8, r3_8, r4_8⟩, r6_8, r7_8, r8_8, r9_8⟩, o_int_8⟩, trivial⟩⟩
theorem y_kb_list : KTb K (clsY K) (.type "list") [(7, false), (8, false)] := by
  have X := c.kin
  have r1_7 : PySem.W.plainGet K (He.ga K "Ratio") Str.empty = true := c.dec 6 4
  have r2_7 : PySem.W.hasDictIn K (He.ga K "Ratio") = true := c.dec 6 5
  have r3_7 : PySem.W.plainOver K (He.ga K "Ratio") = true := c.dec 6 6
  have r4_7 : PySem.W.findIn K (.ref (He.ga K "Ratio")) "__setattr__" = some (some (.builtin "object.__setattr__")) := c.dec 6 7
  have r6_7 : PySem.W.findIn K (.ref (He.ga K "Ratio")) "__class__" = some (some (.builtin "object.__class__")) := c.dec 6 12
  have r7_7 : PySem.W.specialIn K (.builtin "object.__class__") "__get__" = some (some (.builtin "getset_descriptor.__get__")) := c.dec 6 13
  have r8_7 : PySem.W.takesIn K (.builtin "object.__class__") = some true := c.dec 6 14
  have r9_7 : PySem.W.mroIn K (He.ga K "Ratio") (.type "object") = some true := c.dec 7 0
  have o_list_7 : PySem.W.kitOne K (.ref (He.ga K "Ratio")) (.type "list") = some false := c.dec 8 5
  have r1_8 : PySem.W.plainGet K (He.ga K "Poly") Str.empty = true := c.dec 7 3
  have r2_8 : PySem.W.hasDictIn K (He.ga K "Poly") = true := c.dec 7 4
  have r3_8 : PySem.W.plainOver K (He.ga K "Poly") = true := c.dec 7 5
  have r4_8 : PySem.W.findIn K (.ref (He.ga K "Poly")) "__setattr__" = some (some (.builtin "object.__setattr__")) := c.dec 7 6
  have r6_8 : PySem.W.findIn K (.ref (He.ga K "Poly")) "__class__" = some (some (.builtin "object.__class__")) := c.dec 7 10
  have r7_8 : PySem.W.specialIn K (.builtin "object.__class__") "__get__" = some (some (.builtin "getset_descriptor.__get__")) := c.dec 7 11
  have r8_8 : PySem.W.takesIn K (.builtin "object.__class__") = some true := c.dec 7 12
  have r9_8 : PySem.W.mroIn K (He.ga K "Poly") (.type "object") = some true := c.dec 7 13
  have o_list_8 : PySem.W.kitOne K (.ref (He.ga K "Poly")) (.type "list") = some false := c.dec 8 6
  exact ⟨⟨⟨⟨r1_7, r2_7, r3_7, r4_7⟩, r6_7, r7_7, r8_7, r9_7⟩, o_list_7⟩, ⟨⟨⟨⟨r1_8, r2_8, r3_8, r4_8⟩, r6_8, r7_8, r8_8, r9_8⟩, o_list_8⟩, trivial⟩⟩
theorem y_kb_str : KTb K (clsY K) (.type "str") [(7, false), (8, false)] := by
  have X := c.kin
  have r1_7 : PySem.W.plainGet K (He.ga K "Ratio") Str.empty = true := c.dec 6 4
  have r2_7 : PySem.W.hasDictIn K (He.ga K "Ratio") = true := c.dec 6 5
  have r3_7 : PySem.W.plainOver K (He.ga K "Ratio") = true := c.dec 6 6
  have r4_7 : PySem.W.findIn K (.ref (He.ga K "Ratio")) "__setattr__" = some (some (.builtin "object.__setattr__")) := c.dec 6 7
  have r6_7 : PySem.W.findIn K (.ref (He.ga K "Ratio")) "__class__" = some (some (.builtin "object.__class__")) := c.dec 6 12
  have r7_7 : PySem.W.specialIn K (.builtin "object.__class__") "__get__" = some (some (.builtin "getset_descriptor.__get__")) := c.dec 6 13
  have r8_7 : PySem.W.takesIn K (.builtin "object.__class__") = some true := c.dec 6 14
  have r9_7 : PySem.W.mroIn K (He.ga K "Ratio") (.type "object") = some true := c.dec 7 0
  have o_str_7 : PySem.W.kitOne K (.ref (He.ga K "Ratio")) (.type "str") = some false := c.dec 8 7
  have r1_8 : PySem.W.plainGet K (He.ga K "Poly") Str.empty = true := c.dec 7 3
  have r2_8 : PySem.W.hasDictIn K (He.ga K "Poly") = true := c.dec 7 4
  have r3_8 : PySem.W.plainOver K (He.ga K "Poly") = true := c.dec 7 5
  have r4_8 : PySem.W.findIn K (.ref (He.ga K "Poly")) "__setattr__" = some (some (.builtin "object.__setattr__")) := c.dec 7 6
  have r6_8 : PySem.W.findIn K (.ref (He.ga K "Poly")) "__class__" = some (some (.builtin "object.__class__")) := c.dec 7 10
  have r7_8 : PySem.W.specialIn K (.builtin "object.__class__") "__get__" = some (some (.builtin "getset_descriptor.__get__")) := c.dec 7 11
  have r8_8 : PySem.W.takesIn K (.builtin "object.__class__") = some true := c.dec 7 12
  have r9_8 : PySem.W.mroIn K (He.ga K "Poly") (.type "object") = some true := c.dec 7 13
  have o_str_8 : PySem.W.kitOne K (.ref (He.ga K "Poly")) (.type "str") = some false := c.dec 8 8
  exact ⟨⟨⟨⟨r1_7, r2_7, r3_7, r4_7⟩, r6_7, r7_7, r8_7, r9_7⟩, o_str_7⟩, ⟨⟨⟨⟨r1_8, r2_8, r3_8, r4_8⟩, r6_8, r7_8, r8_8, r9_8⟩, o_str_8⟩, trivial⟩⟩
theorem y_kb_tuple : KTb K (clsY K) (.type "tuple") [(7, false), (8, false)] := by
  have X := c.kin
  have r1_7 : PySem.W.plainGet K (He.ga K "Ratio") Str.empty = true := c.dec 6 4
  have r2_7 : PySem.W.hasDictIn K (He.ga K "Ratio") = true := c.dec 6 5
  have r3_7 : PySem.W.plainOver K (He.ga K "Ratio") = true := c.dec 6 6
  have r4_7 : PySem.W.findIn K (.ref (He.ga K "Ratio")) "__setattr__" = some (some (.builtin "object.__setattr__")) := c.dec 6 7
  have r6_7 : PySem.W.findIn K (.ref (He.ga K "Ratio")) "__class__" = some (some (.builtin "object.__class__")) := c.dec 6 12
  have r7_7 : PySem.W.specialIn K (.builtin "object.__class__") "__get__" = some (some (.builtin "getset_descriptor.__get__")) := c.dec 6 13
  have r8_7 : PySem.W.takesIn K (.builtin "object.__class__") = some true := c.dec 6 14
  have r9_7 : PySem.W.mroIn K (He.ga K "Ratio") (.type "object") = some true := c.dec 7 0
  have o_tuple_7 : PySem.W.kitOne K (.ref (He.ga K "Ratio")) (.type "tuple") = some false := c.dec 8 9
  have r1_8 : PySem.W.plainGet K (He.ga K "Poly") Str.empty = true := c.dec 7 3
  have r2_8 : PySem.W.hasDictIn K (He.ga K "Poly") = true := c.dec 7 4
  have r3_8 : PySem.W.plainOver K (He.ga K "Poly") = true := c.dec 7 5
  have r4_8 : PySem.W.findIn K (.ref (He.ga K "Poly")) "__setattr__" = some (some (.builtin "object.__setattr__")) := c.dec 7 6
  have r6_8 : PySem.W.findIn K (.ref (He.ga K "Poly")) "__class__" = some (some (.builtin "object.__class__")) := c.dec 7 10
  have r7_8 : PySem.W.specialIn K (.builtin "object.__class__") "__get__" = some (some (.builtin "getset_descriptor.__get__")) := c.dec 7 11
  have r8_8 : PySem.W.takesIn K (.builtin "object.__class__") = some true := c.dec 7 12
  have r9_8 : PySem.W.mroIn K (He.ga K "Poly") (.type "object") = some true := c.dec 7 13
  have o_tuple_8 : PySem.W.kitOne K (.ref (He.ga K "Poly")) (.type "tuple") = some false := c.dec 8 10
  exact ⟨⟨⟨⟨r1_7, r2_7, r3_7, r4_7⟩, r6_7, r7_7, r8_7, r9_7⟩, o_tuple_7⟩, ⟨⟨⟨⟨r1_8, r2_8, r3_8, r4_8⟩, r6_8, r7_8, r8_8, r9_8⟩, o_tuple_8⟩, trivial⟩⟩
theorem y_kt_Clash : KTab K (.ref ((clsY K) 12)) false false false false false false := by
  have X := c.kin
  have p_12_NoneType : PySem.W.kitOne K (.type "NoneType") (.ref (He.ga K "Clash")) = some false := c.dec 8 11
  have p_12_bool : PySem.W.kitOne K (.type "bool") (.ref (He.ga K "Clash")) = some false := c.dec 8 12
  have p_12_int : PySem.W.kitOne K (.type "int") (.ref (He.ga K "Clash")) = some false := c.dec 8 13
  have p_12_str : PySem.W.kitOne K (.type "str") (.ref (He.ga K "Clash")) = some false := c.dec 8 14
  have p_12_tuple : PySem.W.kitOne K (.type "tuple") (.ref (He.ga K "Clash")) = some false := c.dec 9 0
  have p_12_list : PySem.W.kitOne K (.type "list") (.ref (He.ga K "Clash")) = some false := c.dec 9 1
  exact ⟨p_12_NoneType, p_12_bool, p_12_int, p_12_str, p_12_tuple, p_12_list⟩
theorem y_kb_Clash : KTb K (clsY K) (.ref ((clsY K) 12)) [(7, false), (8, false)] := by
  have X := c.kin
  have r1_7 : PySem.W.plainGet K (He.ga K "Ratio") Str.empty = true := c.dec 6 4
  have r2_7 : PySem.W.hasDictIn K (He.ga K "Ratio") = true := c.dec 6 5
  have r3_7 : PySem.W.plainOver K (He.ga K "Ratio") = true := c.dec 6 6
  have r4_7 : PySem.W.findIn K (.ref (He.ga K "Ratio")) "__setattr__" = some (some (.builtin "object.__setattr__")) := c.dec 6 7
  have r6_7 : PySem.W.findIn K (.ref (He.ga K "Ratio")) "__class__" = some (some (.builtin "object.__class__")) := c.dec 6 12
  have r7_7 : PySem.W.specialIn K (.builtin "object.__class__") "__get__" = some (some (.builtin "getset_descriptor.__get__")) := c.dec 6 13
  have r8_7 : PySem.W.takesIn K (.builtin "object.__class__") = some true := c.dec 6 14
  have r9_7 : PySem.W.mroIn K (He.ga K "Ratio") (.type "object") = some true := c.dec 7 0
  have oo_12_7 : PySem.W.kitOne K (.ref (He.ga K "Ratio")) (.ref (He.ga K "Clash")) = some false := c.dec 9 2
  have r1_8 : PySem.W.plainGet K (He.ga K "Poly") Str.empty = true := c.dec 7 3
  have r2_8 : PySem.W.hasDictIn K (He.ga K "Poly") = true := c.dec 7 4
  have r3_8 : PySem.W.plainOver K (He.ga K "Poly") = true := c.dec 7 5
  have r4_8 : PySem.W.findIn K (.ref (He.ga K "Poly")) "__setattr__" = some (some (.builtin "object.__setattr__")) := c.dec 7 6
  have r6_8 : PySem.W.findIn K (.ref (He.ga K "Poly")) "__class__" = some (some (.builtin "object.__class__")) := c.dec 7 10
  have r7_8 : PySem.W.specialIn K (.builtin "object.__class__") "__get__" = some (some (.builtin "getset_descriptor.__get__")) := c.dec 7 11
  have r8_8 : PySem.W.takesIn K (.builtin "object.__class__") = some true := c.dec 7 12
  have r9_8 : PySem.W.mroIn K (He.ga K "Poly") (.type "object") = some true := c.dec 7 13
  have oo_12_8 : PySem.W.kitOne K (.ref (He.ga K "Poly")) (.ref (He.ga K "Clash")) = some false := c.dec 9 3
  exact ⟨⟨⟨⟨r1_7, r2_7, r3_7, r4_7⟩, r6_7, r7_7, r8_7, r9_7⟩, oo_12_7⟩, ⟨⟨⟨⟨r1_8, r2_8, r3_8, r4_8⟩, r6_8, r7_8, r8_8, r9_8⟩, oo_12_8⟩, trivial⟩⟩
theorem y_kt_Found : KTab K (.ref ((clsY K) 10)) false false false false false false := by
  have X := c.kin
  have p_10_NoneType : PySem.W.kitOne K (.type "NoneType") (.ref (He.ga K "Found")) = some false := c.dec 9 4
  have p_10_bool : PySem.W.kitOne K (.type "bool") (.ref (He.ga K "Found")) = some false := c.dec 9 5
  have p_10_int : PySem.W.kitOne K (.type "int") (.ref (He.ga K "Found")) = some false := c.dec 9 6
  have p_10_str : PySem.W.kitOne K (.type "str") (.ref (He.ga K "Found")) = some false := c.dec 9 7
  have p_10_tuple : PySem.W.kitOne K (.type "tuple") (.ref (He.ga K "Found")) = some false := c.dec 9 8
  have p_10_list : PySem.W.kitOne K (.type "list") (.ref (He.ga K "Found")) = some false := c.dec 9 9
  exact ⟨p_10_NoneType, p_10_bool, p_10_int, p_10_str, p_10_tuple, p_10_list⟩
theorem y_kb_Found : KTb K (clsY K) (.ref ((clsY K) 10)) [(7, false), (8, false)] := by
  have X := c.kin
  have r1_7 : PySem.W.plainGet K (He.ga K "Ratio") Str.empty = true := c.dec 6 4
  have r2_7 : PySem.W.hasDictIn K (He.ga K "Ratio") = true := c.dec 6 5
  have r3_7 : PySem.W.plainOver K (He.ga K "Ratio") = true := c.dec 6 6
  have r4_7 : PySem.W.findIn K (.ref (He.ga K "Ratio")) "__setattr__" = some (some (.builtin "object.__setattr__")) := c.dec 6 7
  have r6_7 : PySem.W.findIn K (.ref (He.ga K "Ratio")) "__class__" = some (some (.builtin "object.__class__")) := c.dec 6 12
  have r7_7 : PySem.W.specialIn K (.builtin "object.__class__") "__get__" = some (some (.builtin "getset_descriptor.__get__")) := c.dec 6 13
  have r8_7 : PySem.W.takesIn K (.builtin "object.__class__") = some true := c.dec 6 14
  have r9_7 : PySem.W.mroIn K (He.ga K "Ratio") (.type "object") = some true := c.dec 7 0
  have oo_10_7 : PySem.W.kitOne K (.ref (He.ga K "Ratio")) (.ref (He.ga K "Found")) = some false := c.dec 9 10
  have r1_8 : PySem.W.plainGet K (He.ga K "Poly") Str.empty = true := c.dec 7 3
  have r2_8 : PySem.W.hasDictIn K (He.ga K "Poly") = true := c.dec 7 4
  have r3_8 : PySem.W.plainOver K (He.ga K "Poly") = true := c.dec 7 5
  have r4_8 : PySem.W.findIn K (.ref (He.ga K "Poly")) "__setattr__" = some (some (.builtin "object.__setattr__")) := c.dec 7 6
  have r6_8 : PySem.W.findIn K (.ref (He.ga K "Poly")) "__class__" = some (some (.builtin "object.__class__")) := c.dec 7 10
  have r7_8 : PySem.W.specialIn K (.builtin "object.__class__") "__get__" = some (some (.builtin "getset_descriptor.__get__")) := c.dec 7 11
  have r8_8 : PySem.W.takesIn K (.builtin "object.__class__") = some true := c.dec 7 12
  have r9_8 : PySem.W.mroIn K (He.ga K "Poly") (.type "object") = some true := c.dec 7 13
  have oo_10_8 : PySem.W.kitOne K (.ref (He.ga K "Poly")) (.ref (He.ga K "Found")) = some false := c.dec 9 11
  exact ⟨⟨⟨⟨r1_7, r2_7, r3_7, r4_7⟩, r6_7, r7_7, r8_7, r9_7⟩, oo_10_7⟩, ⟨⟨⟨⟨r1_8, r2_8, r3_8, r4_8⟩, r6_8, r7_8, r8_8, r9_8⟩, oo_10_8⟩, trivial⟩⟩
theorem y_kt_Poly : KTab K (.ref ((clsY K) 8)) false false false false false false := by
  have X := c.kin
  have p_8_NoneType : PySem.W.kitOne K (.type "NoneType") (.ref (He.ga K "Poly")) = some false := c.dec 9 12
  have p_8_bool : PySem.W.kitOne K (.type "bool") (.ref (He.ga K "Poly")) = some false := c.dec 9 13
  have p_8_int : PySem.W.kitOne K (.type "int") (.ref (He.ga K "Poly")) = some false := c.dec 9 14
  have p_8_str : PySem.W.kitOne K (.type "str") (.ref (He.ga K "Poly")) = some false := c.dec 10 0
  have p_8_tuple : PySem.W.kitOne K (.type "tuple") (.ref (He.ga K "Poly")) = some false := c.dec 10 1
  have p_8_list : PySem.W.kitOne K (.type "list") (.ref (He.ga K "Poly")) = some false := c.dec 10 2
  exact ⟨p_8_NoneType, p_8_bool, p_8_int, p_8_str, p_8_tuple, p_8_list⟩
theorem y_kb_Poly : KTb K (clsY K) (.ref ((clsY K) 8)) [(7, false), (8, true)] := by
  have X := c.kin
  have r1_7 : PySem.W.plainGet K (He.ga K "Ratio") Str.empty = true := c.dec 6 4
  have r2_7 : PySem.W.hasDictIn K (He.ga K "Ratio") = true := c.dec 6 5
  have r3_7 : PySem.W.plainOver K (He.ga K "Ratio") = true := c.dec 6 6
  have r4_7 : PySem.W.findIn K (.ref (He.ga K "Ratio")) "__setattr__" = some (some (.builtin "object.__setattr__")) := c.dec 6 7
  have r6_7 : PySem.W.findIn K (.ref (He.ga K "Ratio")) "__class__" = some (some (.builtin "object.__class__")) := c.dec 6 12
  have r7_7 : PySem.W.specialIn K (.builtin "object.__class__") "__get__" = some (some (.builtin "getset_descriptor.__get__")) := c.dec 6 13
  have r8_7 : PySem.W.takesIn K (.builtin "object.__class__") = some true := c.dec 6 14
  have r9_7 : PySem.W.mroIn K (He.ga K "Ratio") (.type "object") = some true := c.dec 7 0
  have oo_8_7 : PySem.W.kitOne K (.ref (He.ga K "Ratio")) (.ref (He.ga K "Poly")) = some false := c.dec 10 3
  have r1_8 : PySem.W.plainGet K (He.ga K "Poly") Str.empty = true := c.dec 7 3
  have r2_8 : PySem.W.hasDictIn K (He.ga K "Poly") = true := c.dec 7 4
  have r3_8 : PySem.W.plainOver K (He.ga K "Poly") = true := c.dec 7 5
  have r4_8 : PySem.W.findIn K (.ref (He.ga K "Poly")) "__setattr__" = some (some (.builtin "object.__setattr__")) := c.dec 7 6
  have r6_8 : PySem.W.findIn K (.ref (He.ga K "Poly")) "__class__" = some (some (.builtin "object.__class__")) := c.dec 7 10
  have r7_8 : PySem.W.specialIn K (.builtin "object.__class__") "__get__" = some (some (.builtin "getset_descriptor.__get__")) := c.dec 7 11
  have r8_8 : PySem.W.takesIn K (.builtin "object.__class__") = some true := c.dec 7 12
  have r9_8 : PySem.W.mroIn K (He.ga K "Poly") (.type "object") = some true := c.dec 7 13
  have oo_8_8 : PySem.W.kitOne K (.ref (He.ga K "Poly")) (.ref (He.ga K "Poly")) = some true := c.dec 10 4
  exact ⟨⟨⟨⟨r1_7, r2_7, r3_7, r4_7⟩, r6_7, r7_7, r8_7, r9_7⟩, oo_8_7⟩, ⟨⟨⟨⟨r1_8, r2_8, r3_8, r4_8⟩, r6_8, r7_8, r8_8, r9_8⟩, oo_8_8⟩, trivial⟩⟩
theorem y_kt_Ratio : KTab K (.ref ((clsY K) 7)) false false false false false false := by
  have X := c.kin
  have p_7_NoneType : PySem.W.kitOne K (.type "NoneType") (.ref (He.ga K "Ratio")) = some false := c.dec 10 5
  have p_7_bool : PySem.W.kitOne K (.type "bool") (.ref (He.ga K "Ratio")) = some false := c.dec 10 6
  have p_7_int : PySem.W.kitOne K (.type "int") (.ref (He.ga K "Ratio")) = some false := c.dec 10 7
  have p_7_str : PySem.W.kitOne K (.type "str") (.ref (He.ga K "Ratio")) = some false := c.dec 10 8
  have p_7_tuple : PySem.W.kitOne K (.type "tuple") (.ref (He.ga K "Ratio")) = some false := c.dec 10 9
  have p_7_list : PySem.W.kitOne K (.type "list") (.ref (He.ga K "Ratio")) = some false := c.dec 10 10
  exact ⟨p_7_NoneType, p_7_bool, p_7_int, p_7_str, p_7_tuple, p_7_list⟩
theorem y_kb_Ratio : KTb K (clsY K) (.ref ((clsY K) 7)) [(7, true), (8, false)] := by
  have X := c.kin
  have r1_7 : PySem.W.plainGet K (He.ga K "Ratio") Str.empty = true := c.dec 6 4
  have r2_7 : PySem.W.hasDictIn K (He.ga K "Ratio") = true := c.dec 6 5
  have r3_7 : PySem.W.plainOver K (He.ga K "Ratio") = true := c.dec 6 6
  have r4_7 : PySem.W.findIn K (.ref (He.ga K "Ratio")) "__setattr__" = some (some (.builtin "object.__setattr__")) := c.dec 6 7
  have r6_7 : PySem.W.findIn K (.ref (He.ga K "Ratio")) "__class__" = some (some (.builtin "object.__class__")) := c.dec 6 12
  have r7_7 : PySem.W.specialIn K (.builtin "object.__class__") "__get__" = some (some (.builtin "getset_descriptor.__get__")) := c.dec 6 13
  have r8_7 : PySem.W.takesIn K (.builtin "object.__class__") = some true := c.dec 6 14
  have r9_7 : PySem.W.mroIn K (He.ga K "Ratio") (.type "object") = some true := c.dec 7 0
  have oo_7_7 : PySem.W.kitOne K (.ref (He.ga K "Ratio")) (.ref (He.ga K "Ratio")) = some true := c.dec 10 11
  have r1_8 : PySem.W.plainGet K (He.ga K "Poly") Str.empty = true := c.dec 7 3
  have r2_8 : PySem.W.hasDictIn K (He.ga K "Poly") = true := c.dec 7 4
  have r3_8 : PySem.W.plainOver K (He.ga K "Poly") = true := c.dec 7 5
  have r4_8 : PySem.W.findIn K (.ref (He.ga K "Poly")) "__setattr__" = some (some (.builtin "object.__setattr__")) := c.dec 7 6
  have r6_8 : PySem.W.findIn K (.ref (He.ga K "Poly")) "__class__" = some (some (.builtin "object.__class__")) := c.dec 7 10
  have r7_8 : PySem.W.specialIn K (.builtin "object.__class__") "__get__" = some (some (.builtin "getset_descriptor.__get__")) := c.dec 7 11
  have r8_8 : PySem.W.takesIn K (.builtin "object.__class__") = some true := c.dec 7 12
  have r9_8 : PySem.W.mroIn K (He.ga K "Poly") (.type "object") = some true := c.dec 7 13
  have oo_7_8 : PySem.W.kitOne K (.ref (He.ga K "Poly")) (.ref (He.ga K "Ratio")) = some false := c.dec 10 12
  exact ⟨⟨⟨⟨r1_7, r2_7, r3_7, r4_7⟩, r6_7, r7_7, r8_7, r9_7⟩, oo_7_7⟩, ⟨⟨⟨⟨r1_8, r2_8, r3_8, r4_8⟩, r6_8, r7_8, r8_8, r9_8⟩, oo_7_8⟩, trivial⟩⟩
theorem y_kt_Square : KTab K (.ref ((clsY K) 11)) false false false false false false := by
  have X := c.kin
  have p_11_NoneType : PySem.W.kitOne K (.type "NoneType") (.ref (He.ga K "Square")) = some false := c.dec 10 13
  have p_11_bool : PySem.W.kitOne K (.type "bool") (.ref (He.ga K "Square")) = some false := c.dec 10 14
  have p_11_int : PySem.W.kitOne K (.type "int") (.ref (He.ga K "Square")) = some false := c.dec 11 0
  have p_11_str : PySem.W.kitOne K (.type "str") (.ref (He.ga K "Square")) = some false := c.dec 11 1
  have p_11_tuple : PySem.W.kitOne K (.type "tuple") (.ref (He.ga K "Square")) = some false := c.dec 11 2
  have p_11_list : PySem.W.kitOne K (.type "list") (.ref (He.ga K "Square")) = some false := c.dec 11 3
  exact ⟨p_11_NoneType, p_11_bool, p_11_int, p_11_str, p_11_tuple, p_11_list⟩
theorem y_kb_Square : KTb K (clsY K) (.ref ((clsY K) 11)) [(7, false), (8, false)] := by
  have X := c.kin
  have r1_7 : PySem.W.plainGet K (He.ga K "Ratio") Str.empty = true := c.dec 6 4
  have r2_7 : PySem.W.hasDictIn K (He.ga K "Ratio") = true := c.dec 6 5
  have r3_7 : PySem.W.plainOver K (He.ga K "Ratio") = true := c.dec 6 6
  have r4_7 : PySem.W.findIn K (.ref (He.ga K "Ratio")) "__setattr__" = some (some (.builtin "object.__setattr__")) := c.dec 6 7
  have r6_7 : PySem.W.findIn K (.ref (He.ga K "Ratio")) "__class__" = some (some (.builtin "object.__class__")) := c.dec 6 12
  have r7_7 : PySem.W.specialIn K (.builtin "object.__class__") "__get__" = some (some (.builtin "getset_descriptor.__get__")) := c.dec 6 13
  have r8_7 : PySem.W.takesIn K (.builtin "object.__class__") = some true := c.dec 6 14
  have r9_7 : PySem.W.mroIn K (He.ga K "Ratio") (.type "object") = some true := c.dec 7 0
  have oo_11_7 : PySem.W.kitOne K (.ref (He.ga K "Ratio")) (.ref (He.ga K "Square")) = some false := c.dec 11 4
  have r1_8 : PySem.W.plainGet K (He.ga K "Poly") Str.empty = true := c.dec 7 3
  have r2_8 : PySem.W.hasDictIn K (He.ga K "Poly") = true := c.dec 7 4
  have r3_8 : PySem.W.plainOver K (He.ga K "Poly") = true := c.dec 7 5
  have r4_8 : PySem.W.findIn K (.ref (He.ga K "Poly")) "__setattr__" = some (some (.builtin "object.__setattr__")) := c.dec 7 6
  have r6_8 : PySem.W.findIn K (.ref (He.ga K "Poly")) "__class__" = some (some (.builtin "object.__class__")) := c.dec 7 10
  have r7_8 : PySem.W.specialIn K (.builtin "object.__class__") "__get__" = some (some (.builtin "getset_descriptor.__get__")) := c.dec 7 11
  have r8_8 : PySem.W.takesIn K (.builtin "object.__class__") = some true := c.dec 7 12
  have r9_8 : PySem.W.mroIn K (He.ga K "Poly") (.type "object") = some true := c.dec 7 13
  have oo_11_8 : PySem.W.kitOne K (.ref (He.ga K "Poly")) (.ref (He.ga K "Square")) = some false := c.dec 11 5
  exact ⟨⟨⟨⟨r1_7, r2_7, r3_7, r4_7⟩, r6_7, r7_7, r8_7, r9_7⟩, oo_11_7⟩, ⟨⟨⟨⟨r1_8, r2_8, r3_8, r4_8⟩, r6_8, r7_8, r8_8, r9_8⟩, oo_11_8⟩, trivial⟩⟩
theorem y_e__law_complaint_0 : ExL K (clsY K) (.ref ((clsY K) 3)) [(3, true), (2, false), (6, false), (4, false)] := by
  have X := c.kin
  have e_3_3 : PySem.W.exmOne K (.ref (He.ga K "BadItem")) (.ref (He.ga K "BadItem")) = some true := c.dec 11 9
  have e_2_3 : PySem.W.exmOne K (.ref (He.ga K "BadRow")) (.ref (He.ga K "BadItem")) = some false := c.dec 11 8
  have e_6_3 : PySem.W.exmOne K (.ref (He.ga K "BadLand")) (.ref (He.ga K "BadItem")) = some false := c.dec 11 7
  have e_4_3 : PySem.W.exmOne K (.ref (He.ga K "TooMany")) (.ref (He.ga K "BadItem")) = some false := c.dec 11 6
  exact ⟨e_3_3, ⟨e_2_3, ⟨e_6_3, ⟨e_4_3, trivial⟩⟩⟩⟩
theorem y_e__law_complaint_1 : ExL K (clsY K) (.ref ((clsY K) 2)) [(2, true), (6, false), (4, false)] := by
  have X := c.kin
  have e_2_2 : PySem.W.exmOne K (.ref (He.ga K "BadRow")) (.ref (He.ga K "BadRow")) = some true := c.dec 11 12
  have e_6_2 : PySem.W.exmOne K (.ref (He.ga K "BadLand")) (.ref (He.ga K "BadRow")) = some false := c.dec 11 11
  have e_4_2 : PySem.W.exmOne K (.ref (He.ga K "TooMany")) (.ref (He.ga K "BadRow")) = some false := c.dec 11 10
  exact ⟨e_2_2, ⟨e_6_2, ⟨e_4_2, trivial⟩⟩⟩
theorem y_e__law_complaint_2 : ExL K (clsY K) (.ref ((clsY K) 6)) [(6, true), (4, false)] := by
  have X := c.kin
  have e_6_6 : PySem.W.exmOne K (.ref (He.ga K "BadLand")) (.ref (He.ga K "BadLand")) = some true := c.dec 11 14
  have e_4_6 : PySem.W.exmOne K (.ref (He.ga K "TooMany")) (.ref (He.ga K "BadLand")) = some false := c.dec 11 13
  exact ⟨e_6_6, ⟨e_4_6, trivial⟩⟩
theorem y_e__law_complaint_3 : ExL K (clsY K) (.ref ((clsY K) 4)) [(4, true)] := by
  have X := c.kin
  have e_4_4 : PySem.W.exmOne K (.ref (He.ga K "TooMany")) (.ref (He.ga K "TooMany")) = some true := c.dec 12 0
  exact ⟨e_4_4, trivial⟩
theorem y_d__law_draw : ∃ f fd, mg "_law_draw" = some (.ref f) ∧ PySem.W.keepIn K (.ref f) = true ∧ FunD K "_law_draw" "_law_draw" (defArgs (top 121)) (defBody (top 121)) (defScope (top 121)) [] [] f fd ∧ Binds K fd ["pen", "many"] [] := by
  have X := c.kin
  have a__law_draw : PySem.W.nsIn K mainGlobals "_law_draw" = some (some (.ref (He.fAd K ("_law_draw", none)))) := c.dec 12 1
  have kp__law_draw : PySem.W.keepIn K (.ref (He.fAd K ("_law_draw", none))) = true := c.dec 12 2
  obtain ⟨_, _, _, _, _, _, _, _, _, l__law_draw, d__law_draw⟩ := DL.get_plain (c.fn_ 5) (c.fact 18 1)
  exact ⟨_, _, PySem.W.mg_of X G a__law_draw, kp__law_draw, funD_of (fun_mk l__law_draw d__law_draw kp__law_draw), ((fun_mk l__law_draw d__law_draw kp__law_draw).binds (ps := ["pen", "many"]) fun _ _ _ _ _ _ us hl => match us, hl with | [_, _], _ => rfl)⟩
theorem y_d__law_gcd : ∃ f fd, mg "_law_gcd" = some (.ref f) ∧ PySem.W.keepIn K (.ref f) = true ∧ FunD K "_law_gcd" "_law_gcd" (defArgs (top 123)) (defBody (top 123)) (defScope (top 123)) [] [] f fd ∧ Binds K fd ["a", "b"] [] := by
  have X := c.kin
  have a__law_gcd : PySem.W.nsIn K mainGlobals "_law_gcd" = some (some (.ref (He.fAd K ("_law_gcd", none)))) := c.dec 12 3
  have kp__law_gcd : PySem.W.keepIn K (.ref (He.fAd K ("_law_gcd", none))) = true := c.dec 12 4
  obtain ⟨_, _, _, _, _, _, _, _, _, l__law_gcd, d__law_gcd⟩ := DL.get_plain (c.fn_ 6) (c.fact 18 2)
  exact ⟨_, _, PySem.W.mg_of X G a__law_gcd, kp__law_gcd, funD_of (fun_mk l__law_gcd d__law_gcd kp__law_gcd), ((fun_mk l__law_gcd d__law_gcd kp__law_gcd).binds (ps := ["a", "b"]) fun _ _ _ _ _ _ us hl => match us, hl with | [_, _], _ => rfl)⟩
theorem y_d__law_f : ∃ f fd, mg "_law_f" = some (.ref f) ∧ PySem.W.keepIn K (.ref f) = true ∧ FunD K "_law_f" "_law_f" (defArgs (top 124)) (defBody (top 124)) (defScope (top 124)) [] [] f fd ∧ Binds K fd ["top", "bottom"] [] := by
  have X := c.kin
  have a__law_f : PySem.W.nsIn K mainGlobals "_law_f" = some (some (.ref (He.fAd K ("_law_f", none)))) := c.dec 12 5
  have kp__law_f : PySem.W.keepIn K (.ref (He.fAd K ("_law_f", none))) = true := c.dec 12 6
  obtain ⟨_, _, _, _, _, _, _, _, _, l__law_f, d__law_f⟩ := DL.get_plain (c.fn_ 7) (c.fact 18 3)
  exact ⟨_, _, PySem.W.mg_of X G a__law_f, kp__law_f, funD_of (fun_mk l__law_f d__law_f kp__law_f), ((fun_mk l__law_f d__law_f kp__law_f).binds (ps := ["top", "bottom"]) fun _ _ _ _ _ _ us hl => match us, hl with | [_, _], _ => rfl)⟩
theorem y_d__law_some_f : ∃ f fd, mg "_law_some_f" = some (.ref f) ∧ PySem.W.keepIn K (.ref f) = true ∧ FunD K "_law_some_f" "_law_some_f" (defArgs (top 129)) (defBody (top 129)) (defScope (top 129)) [] [] f fd ∧ Binds K fd ["pen", "most", "bottoms"] [] := by
  have X := c.kin
  have a__law_some_f : PySem.W.nsIn K mainGlobals "_law_some_f" = some (some (.ref (He.fAd K ("_law_some_f", none)))) := c.dec 12 7
  have kp__law_some_f : PySem.W.keepIn K (.ref (He.fAd K ("_law_some_f", none))) = true := c.dec 12 8
  obtain ⟨_, _, _, _, _, _, _, _, _, l__law_some_f, d__law_some_f⟩ := DL.get_plain (c.fn_ 8) (c.fact 18 4)
  exact ⟨_, _, PySem.W.mg_of X G a__law_some_f, kp__law_some_f, funD_of (fun_mk l__law_some_f d__law_some_f kp__law_some_f), ((fun_mk l__law_some_f d__law_some_f kp__law_some_f).binds (ps := ["pen", "most", "bottoms"]) fun _ _ _ _ _ _ us hl => match us, hl with | [_, _, _], _ => rfl)⟩
theorem y_d__law_trim : ∃ f fd, mg "_law_trim" = some (.ref f) ∧ PySem.W.keepIn K (.ref f) = true ∧ FunD K "_law_trim" "_law_trim" (defArgs (top 128)) (defBody (top 128)) (defScope (top 128)) [] [] f fd ∧ Binds K fd ["p"] [] := by
  have X := c.kin
  have a__law_trim : PySem.W.nsIn K mainGlobals "_law_trim" = some (some (.ref (He.fAd K ("_law_trim", none)))) := c.dec 12 9
  have kp__law_trim : PySem.W.keepIn K (.ref (He.fAd K ("_law_trim", none))) = true := c.dec 12 10
  obtain ⟨_, _, _, _, _, _, _, _, _, l__law_trim, d__law_trim⟩ := DL.get_plain (c.fn_ 9) (c.fact 18 5)
  exact ⟨_, _, PySem.W.mg_of X G a__law_trim, kp__law_trim, funD_of (fun_mk l__law_trim d__law_trim kp__law_trim), ((fun_mk l__law_trim d__law_trim kp__law_trim).binds (ps := ["p"]) fun _ _ _ _ _ _ us hl => match us, hl with | [_], _ => rfl)⟩
theorem y_d__law_listed : ∃ f fd, mg "_law_listed" = some (.ref f) ∧ PySem.W.keepIn K (.ref f) = true ∧ FunD K "_law_listed" "_law_listed" (defArgs (top 131)) (defBody (top 131)) (defScope (top 131)) [] [] f fd ∧ Binds K fd ["pen", "row"] [] := by
  have X := c.kin
  have a__law_listed : PySem.W.nsIn K mainGlobals "_law_listed" = some (some (.ref (He.fAd K ("_law_listed", none)))) := c.dec 12 11
  have kp__law_listed : PySem.W.keepIn K (.ref (He.fAd K ("_law_listed", none))) = true := c.dec 12 12
  obtain ⟨_, _, _, _, _, _, _, _, _, l__law_listed, d__law_listed⟩ := DL.get_plain (c.fn_ 10) (c.fact 18 6)
  exact ⟨_, _, PySem.W.mg_of X G a__law_listed, kp__law_listed, funD_of (fun_mk l__law_listed d__law_listed kp__law_listed), ((fun_mk l__law_listed d__law_listed kp__law_listed).binds (ps := ["pen", "row"]) fun _ _ _ _ _ _ us hl => match us, hl with | [_, _], _ => rfl)⟩
theorem y_d_is_integer : ∃ f fd, mg "is_integer" = some (.ref f) ∧ PySem.W.keepIn K (.ref f) = true ∧ FunD K "is_integer" "is_integer" (defArgs (top 11)) (defBody (top 11)) (defScope (top 11)) [] [] f fd ∧ Binds K fd ["value"] [] := by
  have X := c.kin
  have a_is_integer : PySem.W.nsIn K mainGlobals "is_integer" = some (some (.ref (He.fAd K ("is_integer", none)))) := c.dec 12 13
  have kp_is_integer : PySem.W.keepIn K (.ref (He.fAd K ("is_integer", none))) = true := c.dec 12 14
  obtain ⟨_, _, _, _, _, _, _, _, _, l_is_integer, d_is_integer⟩ := DL.get_plain (c.fn_ 11) (c.fact 18 7)
  exact ⟨_, _, PySem.W.mg_of X G a_is_integer, kp_is_integer, funD_of (fun_mk l_is_integer d_is_integer kp_is_integer), ((fun_mk l_is_integer d_is_integer kp_is_integer).binds (ps := ["value"]) fun _ _ _ _ _ _ us hl => match us, hl with | [_], _ => rfl)⟩
theorem y_d_Ratio___init___1 : ∃ f fd, Mk K ((clsY K) 7) f ∧ FunD K "__init__" "Ratio.__init__" (defArgs (cst 16 0)) (defBody (cst 16 0)) (defScope (cst 16 0)) [.int 1] [] f fd ∧ ∃ ds, Vals [.int 1] ds ∧ Binds K fd ["self", "top", "bottom"] ds := by
  have X := c.kin
  have ra_7 : PySem.W.makesIn K (He.ga K "Ratio") = true := c.dec 7 1
  have a_Ratio___init__ : PySem.W.findIn K (.ref (He.ga K "Ratio")) "__init__" = some (some (.ref (He.fAd K ("Ratio", some "__init__")))) := c.dec 13 0
  have i_Ratio___init__ : PySem.W.isFn K (.ref (He.fAd K ("Ratio", some "__init__"))) = true := c.dec 13 1
  have rb_7 : PySem.W.keepIn K (.ref (He.ga K "Ratio")) = true := c.dec 7 2
  obtain ⟨_, _, _, _, _, _, _, _, _, _, _, _, _, _, _, l_Ratio___init__, d_Ratio___init__, dt_Ratio___init__, dv_Ratio___init__⟩ := DL.get_dfl (c.fn_ 12) (c.fact 18 8)
  have kp_Ratio___init__ : PySem.W.keepIn K (.ref (He.fAd K ("Ratio", some "__init__"))) = true := c.dec 13 2
  exact ⟨_, _, ⟨ra_7, a_Ratio___init__, i_Ratio___init__, rb_7⟩, (funD_dfl l_Ratio___init__ d_Ratio___init__ kp_Ratio___init__ dt_Ratio___init__ (dvs := [.int 1]) dv_Ratio___init__ (by simp)), FunD.binds1 (funD_dfl l_Ratio___init__ d_Ratio___init__ kp_Ratio___init__ dt_Ratio___init__ (dvs := [.int 1]) dv_Ratio___init__ (by simp)) 2 0 (by simp) (by simp) fun T kV doc pm an cdv ct us its h1 h2 => match us, its, h1, h2 with | [_, _], [_], _, _ => ⟨_, rfl, rfl⟩⟩
theorem y_d_Ratio___init___2 : ∃ f fd, Mk K ((clsY K) 7) f ∧ FunD K "__init__" "Ratio.__init__" (defArgs (cst 16 0)) (defBody (cst 16 0)) (defScope (cst 16 0)) [.int 1] [] f fd ∧ ∃ ds, Vals [] ds ∧ Binds K fd ["self", "top", "bottom"] ds := by
  have X := c.kin
  have ra_7 : PySem.W.makesIn K (He.ga K "Ratio") = true := c.dec 7 1
  have a_Ratio___init__ : PySem.W.findIn K (.ref (He.ga K "Ratio")) "__init__" = some (some (.ref (He.fAd K ("Ratio", some "__init__")))) := c.dec 13 0
  have i_Ratio___init__ : PySem.W.isFn K (.ref (He.fAd K ("Ratio", some "__init__"))) = true := c.dec 13 1
  have rb_7 : PySem.W.keepIn K (.ref (He.ga K "Ratio")) = true := c.dec 7 2
  obtain ⟨_, _, _, _, _, _, _, _, _, _, _, _, _, _, _, l_Ratio___init__, d_Ratio___init__, dt_Ratio___init__, dv_Ratio___init__⟩ := DL.get_dfl (c.fn_ 12) (c.fact 18 8)
  have kp_Ratio___init__ : PySem.W.keepIn K (.ref (He.fAd K ("Ratio", some "__init__"))) = true := c.dec 13 2
  exact ⟨_, _, ⟨ra_7, a_Ratio___init__, i_Ratio___init__, rb_7⟩, (funD_dfl l_Ratio___init__ d_Ratio___init__ kp_Ratio___init__ dt_Ratio___init__ (dvs := [.int 1]) dv_Ratio___init__ (by simp)), FunD.binds1 (funD_dfl l_Ratio___init__ d_Ratio___init__ kp_Ratio___init__ dt_Ratio___init__ (dvs := [.int 1]) dv_Ratio___init__ (by simp)) 3 1 (by simp) (by simp) fun T kV doc pm an cdv ct us its h1 h2 => match us, its, h1, h2 with | [_, _, _], [_], _, _ => ⟨_, rfl, rfl⟩⟩
theorem y_d__law_ratio : ∃ f fd, mg "_law_ratio" = some (.ref f) ∧ PySem.W.keepIn K (.ref f) = true ∧ FunD K "_law_ratio" "_law_ratio" (defArgs (top 132)) (defBody (top 132)) (defScope (top 132)) [] [] f fd ∧ Binds K fd ["item"] [] := by
  have X := c.kin
  have a__law_ratio : PySem.W.nsIn K mainGlobals "_law_ratio" = some (some (.ref (He.fAd K ("_law_ratio", none)))) := c.dec 13 3
  have kp__law_ratio : PySem.W.keepIn K (.ref (He.fAd K ("_law_ratio", none))) = true := c.dec 13 4
  obtain ⟨_, _, _, _, _, _, _, _, _, l__law_ratio, d__law_ratio⟩ := DL.get_plain (c.fn_ 13) (c.fact 18 9)
  exact ⟨_, _, PySem.W.mg_of X G a__law_ratio, kp__law_ratio, funD_of (fun_mk l__law_ratio d__law_ratio kp__law_ratio), ((fun_mk l__law_ratio d__law_ratio kp__law_ratio).binds (ps := ["item"]) fun _ _ _ _ _ _ us hl => match us, hl with | [_], _ => rfl)⟩
theorem y_d__law_complaint : ∃ f fd, mg "_law_complaint" = some (.ref f) ∧ PySem.W.keepIn K (.ref f) = true ∧ Fun K "_law_complaint" "_law_complaint" (top 133) f fd ∧ Binds K fd ["call"] [] := by
  have X := c.kin
  have a__law_complaint : PySem.W.nsIn K mainGlobals "_law_complaint" = some (some (.ref (He.fAd K ("_law_complaint", none)))) := c.dec 13 5
  have kp__law_complaint : PySem.W.keepIn K (.ref (He.fAd K ("_law_complaint", none))) = true := c.dec 13 6
  obtain ⟨_, _, _, _, _, _, _, _, _, l__law_complaint, d__law_complaint⟩ := DL.get_plain (c.fn_ 14) (c.fact 18 10)
  exact ⟨_, _, PySem.W.mg_of X G a__law_complaint, kp__law_complaint, (fun_mk l__law_complaint d__law_complaint kp__law_complaint), ((fun_mk l__law_complaint d__law_complaint kp__law_complaint).binds (ps := ["call"]) fun _ _ _ _ _ _ us hl => match us, hl with | [_], _ => rfl)⟩
theorem y_d_is_row : ∃ f fd, mg "is_row" = some (.ref f) ∧ PySem.W.keepIn K (.ref f) = true ∧ FunD K "is_row" "is_row" (defArgs (top 13)) (defBody (top 13)) (defScope (top 13)) [] [] f fd ∧ Binds K fd ["value"] [] := by
  have X := c.kin
  have a_is_row : PySem.W.nsIn K mainGlobals "is_row" = some (some (.ref (He.fAd K ("is_row", none)))) := c.dec 13 7
  have kp_is_row : PySem.W.keepIn K (.ref (He.fAd K ("is_row", none))) = true := c.dec 13 8
  obtain ⟨_, _, _, _, _, _, _, _, _, l_is_row, d_is_row⟩ := DL.get_plain (c.fn_ 15) (c.fact 18 11)
  exact ⟨_, _, PySem.W.mg_of X G a_is_row, kp_is_row, funD_of (fun_mk l_is_row d_is_row kp_is_row), ((fun_mk l_is_row d_is_row kp_is_row).binds (ps := ["value"]) fun _ _ _ _ _ _ us hl => match us, hl with | [_], _ => rfl)⟩
theorem y_d_is_number_heaps : ∃ f fd, mg "is_number_heaps" = some (.ref f) ∧ PySem.W.keepIn K (.ref f) = true ∧ FunD K "is_number" "is_number" (defArgs (top 72)) (defBody (top 72)) (defScope (top 72)) [] [] f fd ∧ Binds K fd ["value"] [] := by
  have X := c.kin
  have a_is_number_heaps : PySem.W.nsIn K mainGlobals "is_number_heaps" = some (some (.ref (He.fAd K ("is_number_heaps", none)))) := c.dec 13 9
  have kp_is_number_heaps : PySem.W.keepIn K (.ref (He.fAd K ("is_number_heaps", none))) = true := c.dec 13 10
  obtain ⟨_, _, _, _, _, _, _, _, _, l_is_number_heaps, d_is_number_heaps⟩ := DL.get_plain (c.fn_ 16) (c.fact 18 12)
  exact ⟨_, _, PySem.W.mg_of X G a_is_number_heaps, kp_is_number_heaps, funD_of (fun_mk l_is_number_heaps d_is_number_heaps kp_is_number_heaps), ((fun_mk l_is_number_heaps d_is_number_heaps kp_is_number_heaps).binds (ps := ["value"]) fun _ _ _ _ _ _ us hl => match us, hl with | [_], _ => rfl)⟩
theorem y_d_is_number_ratios : ∃ f fd, mg "is_number_ratios" = some (.ref f) ∧ PySem.W.keepIn K (.ref f) = true ∧ FunD K "is_number" "is_number" (defArgs (top 18)) (defBody (top 18)) (defScope (top 18)) [] [] f fd ∧ Binds K fd ["value"] [] := by
  have X := c.kin
  have a_is_number_ratios : PySem.W.nsIn K mainGlobals "is_number_ratios" = some (some (.ref (He.fAd K ("is_number_ratios", none)))) := c.dec 13 11
  have kp_is_number_ratios : PySem.W.keepIn K (.ref (He.fAd K ("is_number_ratios", none))) = true := c.dec 13 12
  obtain ⟨_, _, _, _, _, _, _, _, _, l_is_number_ratios, d_is_number_ratios⟩ := DL.get_plain (c.fn_ 17) (c.fact 18 13)
  exact ⟨_, _, PySem.W.mg_of X G a_is_number_ratios, kp_is_number_ratios, funD_of (fun_mk l_is_number_ratios d_is_number_ratios kp_is_number_ratios), ((fun_mk l_is_number_ratios d_is_number_ratios kp_is_number_ratios).binds (ps := ["value"]) fun _ _ _ _ _ _ us hl => match us, hl with | [_], _ => rfl)⟩
theorem y_d_plain_ratio : ∃ f fd, mg "plain_ratio" = some (.ref f) ∧ PySem.W.keepIn K (.ref f) = true ∧ FunD K "plain_ratio" "plain_ratio" (defArgs (top 20)) (defBody (top 20)) (defScope (top 20)) [] [] f fd ∧ Binds K fd ["value"] [] := by
  have X := c.kin
  have a_plain_ratio : PySem.W.nsIn K mainGlobals "plain_ratio" = some (some (.ref (He.fAd K ("plain_ratio", none)))) := c.dec 13 13
  have kp_plain_ratio : PySem.W.keepIn K (.ref (He.fAd K ("plain_ratio", none))) = true := c.dec 13 14
  obtain ⟨_, _, _, _, _, _, _, _, _, l_plain_ratio, d_plain_ratio⟩ := DL.get_plain (c.fn_ 18) (c.fact 18 14)
  exact ⟨_, _, PySem.W.mg_of X G a_plain_ratio, kp_plain_ratio, funD_of (fun_mk l_plain_ratio d_plain_ratio kp_plain_ratio), ((fun_mk l_plain_ratio d_plain_ratio kp_plain_ratio).binds (ps := ["value"]) fun _ _ _ _ _ _ us hl => match us, hl with | [_], _ => rfl)⟩
theorem y_d_ratio_of : ∃ f fd, mg "ratio_of" = some (.ref f) ∧ PySem.W.keepIn K (.ref f) = true ∧ FunD K "ratio_of" "ratio_of" (defArgs (top 21)) (defBody (top 21)) (defScope (top 21)) [] [] f fd ∧ Binds K fd ["number"] [] := by
  have X := c.kin
  have a_ratio_of : PySem.W.nsIn K mainGlobals "ratio_of" = some (some (.ref (He.fAd K ("ratio_of", none)))) := c.dec 14 0
  have kp_ratio_of : PySem.W.keepIn K (.ref (He.fAd K ("ratio_of", none))) = true := c.dec 14 1
  obtain ⟨_, _, _, _, _, _, _, _, _, l_ratio_of, d_ratio_of⟩ := DL.get_plain (c.fn_ 19) (c.fact 19 0)
  exact ⟨_, _, PySem.W.mg_of X G a_ratio_of, kp_ratio_of, funD_of (fun_mk l_ratio_of d_ratio_of kp_ratio_of), ((fun_mk l_ratio_of d_ratio_of kp_ratio_of).binds (ps := ["number"]) fun _ _ _ _ _ _ us hl => match us, hl with | [_], _ => rfl)⟩
theorem y_d_need_sums : ∃ f fd, mg "need_sums" = some (.ref f) ∧ PySem.W.keepIn K (.ref f) = true ∧ FunD K "need_sums" "need_sums" (defArgs (top 85)) (defBody (top 85)) (defScope (top 85)) [] [] f fd ∧ Binds K fd ["row"] [] := by
  have X := c.kin
  have a_need_sums : PySem.W.nsIn K mainGlobals "need_sums" = some (some (.ref (He.fAd K ("need_sums", none)))) := c.dec 14 2
  have kp_need_sums : PySem.W.keepIn K (.ref (He.fAd K ("need_sums", none))) = true := c.dec 14 3
  obtain ⟨_, _, _, _, _, _, _, _, _, l_need_sums, d_need_sums⟩ := DL.get_plain (c.fn_ 20) (c.fact 19 1)
  exact ⟨_, _, PySem.W.mg_of X G a_need_sums, kp_need_sums, funD_of (fun_mk l_need_sums d_need_sums kp_need_sums), ((fun_mk l_need_sums d_need_sums kp_need_sums).binds (ps := ["row"]) fun _ _ _ _ _ _ us hl => match us, hl with | [_], _ => rfl)⟩
theorem y_d_Ratio___mul__ : ∃ f fd, Meth K ((clsY K) 7) "__mul__" f ∧ FunD K "__mul__" "Ratio.__mul__" (defArgs (cst 16 8)) (defBody (cst 16 8)) (defScope (cst 16 8)) [] [] f fd ∧ Binds K fd ["self", "other"] [] := by
  have X := c.kin
  have a_Ratio___mul__ : PySem.W.findIn K (.ref (He.ga K "Ratio")) "__mul__" = some (some (.ref (He.fAd K ("Ratio", some "__mul__")))) := c.dec 14 4
  have i_Ratio___mul__ : PySem.W.isFn K (.ref (He.fAd K ("Ratio", some "__mul__"))) = true := c.dec 14 5
  have kp_Ratio___mul__ : PySem.W.keepIn K (.ref (He.fAd K ("Ratio", some "__mul__"))) = true := c.dec 14 6
  obtain ⟨_, _, _, _, _, _, _, _, _, l_Ratio___mul__, d_Ratio___mul__⟩ := DL.get_plain (c.fn_ 21) (c.fact 19 2)
  exact ⟨_, _, ⟨a_Ratio___mul__, i_Ratio___mul__, kp_Ratio___mul__⟩, funD_of (fun_mk l_Ratio___mul__ d_Ratio___mul__ kp_Ratio___mul__), ((fun_mk l_Ratio___mul__ d_Ratio___mul__ kp_Ratio___mul__).binds (ps := ["self", "other"]) fun _ _ _ _ _ _ us hl => match us, hl with | [_, _], _ => rfl)⟩
theorem y_d_Ratio___add__ : ∃ f fd, Meth K ((clsY K) 7) "__add__" f ∧ FunD K "__add__" "Ratio.__add__" (defArgs (cst 16 4)) (defBody (cst 16 4)) (defScope (cst 16 4)) [] [] f fd ∧ Binds K fd ["self", "other"] [] := by
  have X := c.kin
  have a_Ratio___add__ : PySem.W.findIn K (.ref (He.ga K "Ratio")) "__add__" = some (some (.ref (He.fAd K ("Ratio", some "__add__")))) := c.dec 14 7
  have i_Ratio___add__ : PySem.W.isFn K (.ref (He.fAd K ("Ratio", some "__add__"))) = true := c.dec 14 8
  have kp_Ratio___add__ : PySem.W.keepIn K (.ref (He.fAd K ("Ratio", some "__add__"))) = true := c.dec 14 9
  obtain ⟨_, _, _, _, _, _, _, _, _, l_Ratio___add__, d_Ratio___add__⟩ := DL.get_plain (c.fn_ 22) (c.fact 19 3)
  exact ⟨_, _, ⟨a_Ratio___add__, i_Ratio___add__, kp_Ratio___add__⟩, funD_of (fun_mk l_Ratio___add__ d_Ratio___add__ kp_Ratio___add__), ((fun_mk l_Ratio___add__ d_Ratio___add__ kp_Ratio___add__).binds (ps := ["self", "other"]) fun _ _ _ _ _ _ us hl => match us, hl with | [_, _], _ => rfl)⟩
theorem y_d_summed_totals : ∃ f fd, mg "summed_totals" = some (.ref f) ∧ PySem.W.keepIn K (.ref f) = true ∧ FunD K "summed" "summed" (defArgs (top 59)) (defBody (top 59)) (defScope (top 59)) [] [] f fd ∧ Binds K fd ["row", "poly"] [] := by
  have X := c.kin
  have a_summed_totals : PySem.W.nsIn K mainGlobals "summed_totals" = some (some (.ref (He.fAd K ("summed_totals", none)))) := c.dec 14 10
  have kp_summed_totals : PySem.W.keepIn K (.ref (He.fAd K ("summed_totals", none))) = true := c.dec 14 11
  obtain ⟨_, _, _, _, _, _, _, _, _, l_summed_totals, d_summed_totals⟩ := DL.get_plain (c.fn_ 23) (c.fact 19 4)
  exact ⟨_, _, PySem.W.mg_of X G a_summed_totals, kp_summed_totals, funD_of (fun_mk l_summed_totals d_summed_totals kp_summed_totals), ((fun_mk l_summed_totals d_summed_totals kp_summed_totals).binds (ps := ["row", "poly"]) fun _ _ _ _ _ _ us hl => match us, hl with | [_, _], _ => rfl)⟩
theorem y_d_row_total : ∃ f fd, mg "row_total" = some (.ref f) ∧ PySem.W.keepIn K (.ref f) = true ∧ FunD K "row_total" "row_total" (defArgs (top 86)) (defBody (top 86)) (defScope (top 86)) [] [] f fd ∧ Binds K fd ["row", "poly"] [] := by
  have X := c.kin
  have a_row_total : PySem.W.nsIn K mainGlobals "row_total" = some (some (.ref (He.fAd K ("row_total", none)))) := c.dec 14 12
  have kp_row_total : PySem.W.keepIn K (.ref (He.fAd K ("row_total", none))) = true := c.dec 14 13
  obtain ⟨_, _, _, _, _, _, _, _, _, l_row_total, d_row_total⟩ := DL.get_plain (c.fn_ 24) (c.fact 19 5)
  exact ⟨_, _, PySem.W.mg_of X G a_row_total, kp_row_total, funD_of (fun_mk l_row_total d_row_total kp_row_total), ((fun_mk l_row_total d_row_total kp_row_total).binds (ps := ["row", "poly"]) fun _ _ _ _ _ _ us hl => match us, hl with | [_, _], _ => rfl)⟩
theorem y_d_without_zeros : ∃ f fd, mg "without_zeros" = some (.ref f) ∧ PySem.W.keepIn K (.ref f) = true ∧ FunD K "without_zeros" "without_zeros" (defArgs (top 24)) (defBody (top 24)) (defScope (top 24)) [] [] f fd ∧ Binds K fd ["ratios"] [] := by
  have X := c.kin
  have a_without_zeros : PySem.W.nsIn K mainGlobals "without_zeros" = some (some (.ref (He.fAd K ("without_zeros", none)))) := c.dec 14 14
  have kp_without_zeros : PySem.W.keepIn K (.ref (He.fAd K ("without_zeros", none))) = true := c.dec 15 0
  obtain ⟨_, _, _, _, _, _, _, _, _, l_without_zeros, d_without_zeros⟩ := DL.get_plain (c.fn_ 25) (c.fact 19 6)
  exact ⟨_, _, PySem.W.mg_of X G a_without_zeros, kp_without_zeros, funD_of (fun_mk l_without_zeros d_without_zeros kp_without_zeros), ((fun_mk l_without_zeros d_without_zeros kp_without_zeros).binds (ps := ["ratios"]) fun _ _ _ _ _ _ us hl => match us, hl with | [_], _ => rfl)⟩
theorem y_d_need_numbers : ∃ f fd, mg "need_numbers" = some (.ref f) ∧ PySem.W.keepIn K (.ref f) = true ∧ FunD K "need_numbers" "need_numbers" (defArgs (top 22)) (defBody (top 22)) (defScope (top 22)) [] [] f fd ∧ Binds K fd ["numbers"] [] := by
  have X := c.kin
  have a_need_numbers : PySem.W.nsIn K mainGlobals "need_numbers" = some (some (.ref (He.fAd K ("need_numbers", none)))) := c.dec 15 1
  have kp_need_numbers : PySem.W.keepIn K (.ref (He.fAd K ("need_numbers", none))) = true := c.dec 15 2
  obtain ⟨_, _, _, _, _, _, _, _, _, l_need_numbers, d_need_numbers⟩ := DL.get_plain (c.fn_ 26) (c.fact 19 7)
  exact ⟨_, _, PySem.W.mg_of X G a_need_numbers, kp_need_numbers, funD_of (fun_mk l_need_numbers d_need_numbers kp_need_numbers), ((fun_mk l_need_numbers d_need_numbers kp_need_numbers).binds (ps := ["numbers"]) fun _ _ _ _ _ _ us hl => match us, hl with | [_], _ => rfl)⟩
theorem y_d_Poly___init___1 : ∃ f fd a0, Mk K ((clsY K) 8) f ∧ FunD K "__init__" "Poly.__init__" (defArgs (cst 30 0)) (defBody (cst 30 0)) (defScope (cst 30 0)) [.ref a0] [] f fd ∧ ∃ ds, Vals [] ds ∧ Binds K fd ["self", "numbers"] ds := by
  have X := c.kin
  have ra_8 : PySem.W.makesIn K (He.ga K "Poly") = true := c.dec 7 14
  have a_Poly___init__ : PySem.W.findIn K (.ref (He.ga K "Poly")) "__init__" = some (some (.ref (He.fAd K ("Poly", some "__init__")))) := c.dec 15 3
  have i_Poly___init__ : PySem.W.isFn K (.ref (He.fAd K ("Poly", some "__init__"))) = true := c.dec 15 4
  have rb_8 : PySem.W.keepIn K (.ref (He.ga K "Poly")) = true := c.dec 8 0
  obtain ⟨_, _, _, _, _, _, _, _, _, _, _, _, _, _, _, _, l_Poly___init__, d_Poly___init__, dt_Poly___init__, dv_Poly___init__⟩ := DL.get_dflR (c.fn_ 27) (c.fact 19 8)
  have kp_Poly___init__ : PySem.W.keepIn K (.ref (He.fAd K ("Poly", some "__init__"))) = true := c.dec 15 5
  exact ⟨_, _, _, ⟨ra_8, a_Poly___init__, i_Poly___init__, rb_8⟩, (funD_dfl l_Poly___init__ d_Poly___init__ kp_Poly___init__ dt_Poly___init__  dv_Poly___init__ (by simp)), FunD.binds1 (funD_dfl l_Poly___init__ d_Poly___init__ kp_Poly___init__ dt_Poly___init__  dv_Poly___init__ (by simp)) 2 1 (by simp) (by simp) fun T kV doc pm an cdv ct us its h1 h2 => match us, its, h1, h2 with | [_, _], [_], _, _ => ⟨_, rfl, rfl⟩⟩
theorem y_d__law_add : ∃ f fd, mg "_law_add" = some (.ref f) ∧ PySem.W.keepIn K (.ref f) = true ∧ FunD K "_law_add" "_law_add" (defArgs (top 125)) (defBody (top 125)) (defScope (top 125)) [] [] f fd ∧ Binds K fd ["a", "b"] [] := by
  have X := c.kin
  have a__law_add : PySem.W.nsIn K mainGlobals "_law_add" = some (some (.ref (He.fAd K ("_law_add", none)))) := c.dec 15 6
  have kp__law_add : PySem.W.keepIn K (.ref (He.fAd K ("_law_add", none))) = true := c.dec 15 7
  obtain ⟨_, _, _, _, _, _, _, _, _, l__law_add, d__law_add⟩ := DL.get_plain (c.fn_ 28) (c.fact 19 9)
  exact ⟨_, _, PySem.W.mg_of X G a__law_add, kp__law_add, funD_of (fun_mk l__law_add d__law_add kp__law_add), ((fun_mk l__law_add d__law_add kp__law_add).binds (ps := ["a", "b"]) fun _ _ _ _ _ _ us hl => match us, hl with | [_, _], _ => rfl)⟩
theorem y_d__law_sum : ∃ f fd, mg "_law_sum" = some (.ref f) ∧ PySem.W.keepIn K (.ref f) = true ∧ FunD K "_law_sum" "_law_sum" (defArgs (top 127)) (defBody (top 127)) (defScope (top 127)) [] [] f fd ∧ Binds K fd ["items"] [] := by
  have X := c.kin
  have a__law_sum : PySem.W.nsIn K mainGlobals "_law_sum" = some (some (.ref (He.fAd K ("_law_sum", none)))) := c.dec 15 8
  have kp__law_sum : PySem.W.keepIn K (.ref (He.fAd K ("_law_sum", none))) = true := c.dec 15 9
  obtain ⟨_, _, _, _, _, _, _, _, _, l__law_sum, d__law_sum⟩ := DL.get_plain (c.fn_ 29) (c.fact 19 10)
  exact ⟨_, _, PySem.W.mg_of X G a__law_sum, kp__law_sum, funD_of (fun_mk l__law_sum d__law_sum kp__law_sum), ((fun_mk l__law_sum d__law_sum kp__law_sum).binds (ps := ["items"]) fun _ _ _ _ _ _ us hl => match us, hl with | [_], _ => rfl)⟩
theorem y_d__law_mul : ∃ f fd, mg "_law_mul" = some (.ref f) ∧ PySem.W.keepIn K (.ref f) = true ∧ FunD K "_law_mul" "_law_mul" (defArgs (top 126)) (defBody (top 126)) (defScope (top 126)) [] [] f fd ∧ Binds K fd ["a", "b"] [] := by
  have X := c.kin
  have a__law_mul : PySem.W.nsIn K mainGlobals "_law_mul" = some (some (.ref (He.fAd K ("_law_mul", none)))) := c.dec 15 10
  have kp__law_mul : PySem.W.keepIn K (.ref (He.fAd K ("_law_mul", none))) = true := c.dec 15 11
  obtain ⟨_, _, _, _, _, _, _, _, _, l__law_mul, d__law_mul⟩ := DL.get_plain (c.fn_ 30) (c.fact 19 11)
  exact ⟨_, _, PySem.W.mg_of X G a__law_mul, kp__law_mul, funD_of (fun_mk l__law_mul d__law_mul kp__law_mul), ((fun_mk l__law_mul d__law_mul kp__law_mul).binds (ps := ["a", "b"]) fun _ _ _ _ _ _ us hl => match us, hl with | [_, _], _ => rfl)⟩
theorem y_d__law_total : ∃ f fd, mg "_law_total" = some (.ref f) ∧ PySem.W.keepIn K (.ref f) = true ∧ FunD K "_law_total" "_law_total" (defArgs (top 130)) (defBody (top 130)) (defScope (top 130)) [] [] f fd ∧ Binds K fd ["row", "p"] [] := by
  have X := c.kin
  have a__law_total : PySem.W.nsIn K mainGlobals "_law_total" = some (some (.ref (He.fAd K ("_law_total", none)))) := c.dec 15 12
  have kp__law_total : PySem.W.keepIn K (.ref (He.fAd K ("_law_total", none))) = true := c.dec 15 13
  obtain ⟨_, _, _, _, _, _, _, _, _, l__law_total, d__law_total⟩ := DL.get_plain (c.fn_ 31) (c.fact 19 12)
  exact ⟨_, _, PySem.W.mg_of X G a__law_total, kp__law_total, funD_of (fun_mk l__law_total d__law_total kp__law_total), ((fun_mk l__law_total d__law_total kp__law_total).binds (ps := ["row", "p"]) fun _ _ _ _ _ _ us hl => match us, hl with | [_, _], _ => rfl)⟩
theorem y_d__law_pick : ∃ f fd, mg "_law_pick" = some (.ref f) ∧ PySem.W.keepIn K (.ref f) = true ∧ FunD K "_law_pick" "_law_pick" (defArgs (top 122)) (defBody (top 122)) (defScope (top 122)) [] [] f fd ∧ Binds K fd ["pen", "some"] [] := by
  have X := c.kin
  have a__law_pick : PySem.W.nsIn K mainGlobals "_law_pick" = some (some (.ref (He.fAd K ("_law_pick", none)))) := c.dec 15 14
  have kp__law_pick : PySem.W.keepIn K (.ref (He.fAd K ("_law_pick", none))) = true := c.dec 16 0
  obtain ⟨_, _, _, _, _, _, _, _, _, l__law_pick, d__law_pick⟩ := DL.get_plain (c.fn_ 32) (c.fact 19 13)
  exact ⟨_, _, PySem.W.mg_of X G a__law_pick, kp__law_pick, funD_of (fun_mk l__law_pick d__law_pick kp__law_pick), ((fun_mk l__law_pick d__law_pick kp__law_pick).binds (ps := ["pen", "some"]) fun _ _ _ _ _ _ us hl => match us, hl with | [_, _], _ => rfl)⟩
theorem y_d_need_land : ∃ f fd, mg "need_land" = some (.ref f) ∧ PySem.W.keepIn K (.ref f) = true ∧ FunD K "need_land" "need_land" (defArgs (top 103)) (defBody (top 103)) (defScope (top 103)) [] [] f fd ∧ Binds K fd ["land"] [] := by
  have X := c.kin
  have a_need_land : PySem.W.nsIn K mainGlobals "need_land" = some (some (.ref (He.fAd K ("need_land", none)))) := c.dec 16 1
  have kp_need_land : PySem.W.keepIn K (.ref (He.fAd K ("need_land", none))) = true := c.dec 16 2
  obtain ⟨_, _, _, _, _, _, _, _, _, l_need_land, d_need_land⟩ := DL.get_plain (c.fn_ 33) (c.fact 19 14)
  exact ⟨_, _, PySem.W.mg_of X G a_need_land, kp_need_land, funD_of (fun_mk l_need_land d_need_land kp_need_land), ((fun_mk l_need_land d_need_land kp_need_land).binds (ps := ["land"]) fun _ _ _ _ _ _ us hl => match us, hl with | [_], _ => rfl)⟩
theorem y_d_settle_row : ∃ f fd, mg "settle_row" = some (.ref f) ∧ PySem.W.keepIn K (.ref f) = true ∧ FunD K "settle_row" "settle_row" (defArgs (top 113)) (defBody (top 113)) (defScope (top 113)) [] [] f fd ∧ Binds K fd ["row", "land"] [] := by
  have X := c.kin
  have a_settle_row : PySem.W.nsIn K mainGlobals "settle_row" = some (some (.ref (He.fAd K ("settle_row", none)))) := c.dec 16 3
  have kp_settle_row : PySem.W.keepIn K (.ref (He.fAd K ("settle_row", none))) = true := c.dec 16 4
  obtain ⟨_, _, _, _, _, _, _, _, _, l_settle_row, d_settle_row⟩ := DL.get_plain (c.fn_ 34) (c.fact 20 0)
  exact ⟨_, _, PySem.W.mg_of X G a_settle_row, kp_settle_row, funD_of (fun_mk l_settle_row d_settle_row kp_settle_row), ((fun_mk l_settle_row d_settle_row kp_settle_row).binds (ps := ["row", "land"]) fun _ _ _ _ _ _ us hl => match us, hl with | [_, _], _ => rfl)⟩
theorem y_d_row_fault : ∃ f fd, mg "row_fault" = some (.ref f) ∧ PySem.W.keepIn K (.ref f) = true ∧ FunD K "row_fault" "row_fault" (defArgs (top 118)) (defBody (top 118)) (defScope (top 118)) [] [] f fd ∧ Binds K fd ["row", "land", "answer"] [] := by
  have X := c.kin
  have a_row_fault : PySem.W.nsIn K mainGlobals "row_fault" = some (some (.ref (He.fAd K ("row_fault", none)))) := c.dec 16 5
  have kp_row_fault : PySem.W.keepIn K (.ref (He.fAd K ("row_fault", none))) = true := c.dec 16 6
  obtain ⟨_, _, _, _, _, _, _, _, _, l_row_fault, d_row_fault⟩ := DL.get_plain (c.fn_ 35) (c.fact 20 1)
  exact ⟨_, _, PySem.W.mg_of X G a_row_fault, kp_row_fault, funD_of (fun_mk l_row_fault d_row_fault kp_row_fault), ((fun_mk l_row_fault d_row_fault kp_row_fault).binds (ps := ["row", "land", "answer"]) fun _ _ _ _ _ _ us hl => match us, hl with | [_, _, _], _ => rfl)⟩
theorem y_d_need_factor : ∃ f fd, mg "need_factor" = some (.ref f) ∧ PySem.W.keepIn K (.ref f) = true ∧ FunD K "need_factor" "need_factor" (defArgs (top 87)) (defBody (top 87)) (defScope (top 87)) [] [] f fd ∧ Binds K fd ["factor"] [] := by
  have X := c.kin
  have a_need_factor : PySem.W.nsIn K mainGlobals "need_factor" = some (some (.ref (He.fAd K ("need_factor", none)))) := c.dec 16 7
  have kp_need_factor : PySem.W.keepIn K (.ref (He.fAd K ("need_factor", none))) = true := c.dec 16 8
  obtain ⟨_, _, _, _, _, _, _, _, _, l_need_factor, d_need_factor⟩ := DL.get_plain (c.fn_ 36) (c.fact 20 2)
  exact ⟨_, _, PySem.W.mg_of X G a_need_factor, kp_need_factor, funD_of (fun_mk l_need_factor d_need_factor kp_need_factor), ((fun_mk l_need_factor d_need_factor kp_need_factor).binds (ps := ["factor"]) fun _ _ _ _ _ _ us hl => match us, hl with | [_], _ => rfl)⟩
theorem y_d_table_of : ∃ f fd, mg "table_of" = some (.ref f) ∧ PySem.W.keepIn K (.ref f) = true ∧ FunD K "table_of" "table_of" (defArgs (top 89)) (defBody (top 89)) (defScope (top 89)) [] [] f fd ∧ Binds K fd ["row", "factor"] [] := by
  have X := c.kin
  have a_table_of : PySem.W.nsIn K mainGlobals "table_of" = some (some (.ref (He.fAd K ("table_of", none)))) := c.dec 16 9
  have kp_table_of : PySem.W.keepIn K (.ref (He.fAd K ("table_of", none))) = true := c.dec 16 10
  obtain ⟨_, _, _, _, _, _, _, _, _, l_table_of, d_table_of⟩ := DL.get_plain (c.fn_ 37) (c.fact 20 3)
  exact ⟨_, _, PySem.W.mg_of X G a_table_of, kp_table_of, funD_of (fun_mk l_table_of d_table_of kp_table_of), ((fun_mk l_table_of d_table_of kp_table_of).binds (ps := ["row", "factor"]) fun _ _ _ _ _ _ us hl => match us, hl with | [_, _], _ => rfl)⟩
theorem y_d_minors : ∃ f fd, mg "minors" = some (.ref f) ∧ PySem.W.keepIn K (.ref f) = true ∧ FunD K "minors" "minors" (defArgs (top 91)) (defBody (top 91)) (defScope (top 91)) [] [] f fd ∧ Binds K fd ["row", "factor"] [] := by
  have X := c.kin
  have a_minors : PySem.W.nsIn K mainGlobals "minors" = some (some (.ref (He.fAd K ("minors", none)))) := c.dec 16 11
  have kp_minors : PySem.W.keepIn K (.ref (He.fAd K ("minors", none))) = true := c.dec 16 12
  obtain ⟨_, _, _, _, _, _, _, _, _, l_minors, d_minors⟩ := DL.get_plain (c.fn_ 38) (c.fact 20 4)
  exact ⟨_, _, PySem.W.mg_of X G a_minors, kp_minors, funD_of (fun_mk l_minors d_minors kp_minors), ((fun_mk l_minors d_minors kp_minors).binds (ps := ["row", "factor"]) fun _ _ _ _ _ _ us hl => match us, hl with | [_, _], _ => rfl)⟩
theorem y_d_split : ∃ f fd, mg "split" = some (.ref f) ∧ PySem.W.keepIn K (.ref f) = true ∧ FunD K "split" "split" (defArgs (top 92)) (defBody (top 92)) (defScope (top 92)) [] [] f fd ∧ Binds K fd ["row", "factor"] [] := by
  have X := c.kin
  have a_split : PySem.W.nsIn K mainGlobals "split" = some (some (.ref (He.fAd K ("split", none)))) := c.dec 16 13
  have kp_split : PySem.W.keepIn K (.ref (He.fAd K ("split", none))) = true := c.dec 16 14
  obtain ⟨_, _, _, _, _, _, _, _, _, l_split, d_split⟩ := DL.get_plain (c.fn_ 39) (c.fact 20 5)
  exact ⟨_, _, PySem.W.mg_of X G a_split, kp_split, funD_of (fun_mk l_split d_split kp_split), ((fun_mk l_split d_split kp_split).binds (ps := ["row", "factor"]) fun _ _ _ _ _ _ us hl => match us, hl with | [_, _], _ => rfl)⟩
theorem y_d__law_pen : ∃ f fd, mg "_law_pen" = some (.ref f) ∧ PySem.W.keepIn K (.ref f) = true ∧ Fun K "_law_pen" "_law_pen" (top 120) f fd ∧ Binds K fd ["script"] [] := by
  have X := c.kin
  have a__law_pen : PySem.W.nsIn K mainGlobals "_law_pen" = some (some (.ref (He.fAd K ("_law_pen", none)))) := c.dec 17 0
  have kp__law_pen : PySem.W.keepIn K (.ref (He.fAd K ("_law_pen", none))) = true := c.dec 17 1
  obtain ⟨_, _, _, _, _, _, _, _, _, l__law_pen, d__law_pen⟩ := DL.get_plain (c.fn_ 40) (c.fact 20 6)
  exact ⟨_, _, PySem.W.mg_of X G a__law_pen, kp__law_pen, (fun_mk l__law_pen d__law_pen kp__law_pen), ((fun_mk l__law_pen d__law_pen kp__law_pen).binds (ps := ["script"]) fun _ _ _ _ _ _ us hl => match us, hl with | [_], _ => rfl)⟩
theorem y_fx : Fx K mg (clsY K) (caY K) (paY K) := {
    ndT := (c.dec 20 9 : ([(DL.tabOf K ("law", none))] : List Addr).Nodup)
    n_abs := PySem.W.mg_none_of c.kin G (c.dec 0 11 : PySem.W.nsIn K mainGlobals "abs" = some none)
    n_all := PySem.W.mg_none_of c.kin G (c.dec 0 12 : PySem.W.nsIn K mainGlobals "all" = some none)
    n_bool := PySem.W.mg_none_of c.kin G (c.dec 0 13 : PySem.W.nsIn K mainGlobals "bool" = some none)
    n_gcd := PySem.W.mg_of c.kin G (c.dec 0 14 : PySem.W.nsIn K mainGlobals "gcd" = some (some (.builtin "math.gcd")))
    n_int := PySem.W.mg_none_of c.kin G (c.dec 1 0 : PySem.W.nsIn K mainGlobals "int" = some none)
    n_isinstance := PySem.W.mg_none_of c.kin G (c.dec 1 1 : PySem.W.nsIn K mainGlobals "isinstance" = some none)
    n_len := PySem.W.mg_none_of c.kin G (c.dec 1 2 : PySem.W.nsIn K mainGlobals "len" = some none)
    n_list := PySem.W.mg_none_of c.kin G (c.dec 1 3 : PySem.W.nsIn K mainGlobals "list" = some none)
    n_range := PySem.W.mg_none_of c.kin G (c.dec 1 4 : PySem.W.nsIn K mainGlobals "range" = some none)
    n_repr := PySem.W.mg_none_of c.kin G (c.dec 1 5 : PySem.W.nsIn K mainGlobals "repr" = some none)
    n_str := PySem.W.mg_none_of c.kin G (c.dec 1 6 : PySem.W.nsIn K mainGlobals "str" = some none)
    n_tuple := PySem.W.mg_none_of c.kin G (c.dec 1 7 : PySem.W.nsIn K mainGlobals "tuple" = some none)
    n_zip := PySem.W.mg_none_of c.kin G (c.dec 1 8 : PySem.W.nsIn K mainGlobals "zip" = some none)
    c_LANDS := (by
      have v_LANDS := DL.get_tup c.kin G (c.fact 17 4)
      exact v_LANDS)
    c_MOST_SUMS := (by
      obtain ⟨tk_MOST_SUMS, v_MOST_SUMS⟩ := DL.get_int (c.fact 17 5)
      exact ⟨_, PySem.W.mg_of c.kin G v_MOST_SUMS⟩)
    g_BadNumber := PySem.W.mg_of c.kin G (c.dec 0 1 : PySem.W.nsIn K mainGlobals "BadNumber" = some (some (.ref (He.ga K "BadNumber"))))
    g_BadRow := PySem.W.mg_of c.kin G (c.dec 0 2 : PySem.W.nsIn K mainGlobals "BadRow" = some (some (.ref (He.ga K "BadRow"))))
    g_BadItem := PySem.W.mg_of c.kin G (c.dec 0 3 : PySem.W.nsIn K mainGlobals "BadItem" = some (some (.ref (He.ga K "BadItem"))))
    g_TooMany := PySem.W.mg_of c.kin G (c.dec 0 4 : PySem.W.nsIn K mainGlobals "TooMany" = some (some (.ref (He.ga K "TooMany"))))
    g_BadLand := PySem.W.mg_of c.kin G (c.dec 0 5 : PySem.W.nsIn K mainGlobals "BadLand" = some (some (.ref (He.ga K "BadLand"))))
    g_Ratio := PySem.W.mg_of c.kin G (c.dec 0 6 : PySem.W.nsIn K mainGlobals "Ratio" = some (some (.ref (He.ga K "Ratio"))))
    g_Poly := PySem.W.mg_of c.kin G (c.dec 0 7 : PySem.W.nsIn K mainGlobals "Poly" = some (some (.ref (He.ga K "Poly"))))
    g_Found := PySem.W.mg_of c.kin G (c.dec 0 8 : PySem.W.nsIn K mainGlobals "Found" = some (some (.ref (He.ga K "Found"))))
    g_Square := PySem.W.mg_of c.kin G (c.dec 0 9 : PySem.W.nsIn K mainGlobals "Square" = some (some (.ref (He.ga K "Square"))))
    g_Clash := PySem.W.mg_of c.kin G (c.dec 0 10 : PySem.W.nsIn K mainGlobals "Clash" = some (some (.ref (He.ga K "Clash"))))
    x_BadNumber := y_x_BadNumber c G
    x_BadRow := y_x_BadRow c G
    x_BadItem := y_x_BadItem c G
    x_TooMany := y_x_TooMany c G
    x_BadLand := y_x_BadLand c G
    sf_Ratio := y_sf_Ratio c G
    k_Ratio := y_k_Ratio c G
    k_Poly := y_k_Poly c G
    kb_bool := y_kb_bool c G
    kb_int := y_kb_int c G
    kb_list := y_kb_list c G
    kb_str := y_kb_str c G
    kb_tuple := y_kb_tuple c G
    kt_Clash := y_kt_Clash c G
    kb_Clash := y_kb_Clash c G
    kt_Found := y_kt_Found c G
    kb_Found := y_kb_Found c G
    kt_Poly := y_kt_Poly c G
    kb_Poly := y_kb_Poly c G
    kt_Ratio := y_kt_Ratio c G
    kb_Ratio := y_kb_Ratio c G
    kt_Square := y_kt_Square c G
    kb_Square := y_kb_Square c G
    e__law_complaint_0 := y_e__law_complaint_0 c G
    e__law_complaint_1 := y_e__law_complaint_1 c G
    e__law_complaint_2 := y_e__law_complaint_2 c G
    e__law_complaint_3 := y_e__law_complaint_3 c G
    d__law_draw := y_d__law_draw c G
    d__law_gcd := y_d__law_gcd c G
    d__law_f := y_d__law_f c G
    d__law_some_f := y_d__law_some_f c G
    d__law_trim := y_d__law_trim c G
    d__law_listed := y_d__law_listed c G
    d_is_integer := y_d_is_integer c G
    d_Ratio___init___1 := y_d_Ratio___init___1 c G
    d_Ratio___init___2 := y_d_Ratio___init___2 c G
    d__law_ratio := y_d__law_ratio c G
    d__law_complaint := y_d__law_complaint c G
    d_is_row := y_d_is_row c G
    d_is_number_heaps := y_d_is_number_heaps c G
    d_is_number_ratios := y_d_is_number_ratios c G
    d_plain_ratio := y_d_plain_ratio c G
    d_ratio_of := y_d_ratio_of c G
    d_need_sums := y_d_need_sums c G
    d_Ratio___mul__ := y_d_Ratio___mul__ c G
    d_Ratio___add__ := y_d_Ratio___add__ c G
    d_summed_totals := y_d_summed_totals c G
    d_row_total := y_d_row_total c G
    d_without_zeros := y_d_without_zeros c G
    d_need_numbers := y_d_need_numbers c G
    d_Poly___init___1 := y_d_Poly___init___1 c G
    d__law_add := y_d__law_add c G
    d__law_sum := y_d__law_sum c G
    d__law_mul := y_d__law_mul c G
    d__law_total := y_d__law_total c G
    d__law_pick := y_d__law_pick c G
    d_need_land := y_d_need_land c G
    d_settle_row := y_d_settle_row c G
    d_row_fault := y_d_row_fault c G
    d_need_factor := y_d_need_factor c G
    d_table_of := y_d_table_of c G
    d_minors := y_d_minors c G
    d_split := y_d_split c G
    d__law_pen := y_d__law_pen c G
  }
end
/-- what the head read makes the promise of the law -/
theorem law_mkY {w : World} {K : PySem.W.Frag} {mg : Str → Option Value} {h : Heap} {fa : Addr} {good : List Int → Prop} (hgood : ∀ cells, good cells → lawTrue 13 1 m_law cells) (c : DL.SaysY fs fn tq h K) (G : h.Ns mainGlobals mg) (hfa : mg "law" = some (.ref fa)) : LawD PySem.Challenge.rw_leverheaps_k22_rows_that_are_none w K 11 "script" mg fa h good := by
  have X := c.kin
  have a_law : PySem.W.nsIn K mainGlobals "law" = some (some (.ref (He.fAd K ("law", none)))) := c.dec 17 2
  obtain ⟨_, _, _, _, _, _, _, _, _, _, _, l_law, d_law, kc_law, kf_law, kh_law⟩ := DL.get_lam (c.fn_ 41) (c.fact 20 7)
  have tn_law : K.lookup (DL.tabOf K ("law", none)) = none := Option.isNone_iff_eq_none.mp (c.fact 20 8)
  have tt_law : h.get? (DL.tabOf K ("law", none)) = some { cls := .none, data := .fields #[] } := c.t ("law", none) (by decide)
  have e := hfa.symm.trans (PySem.W.mg_of X G a_law)
  cases e
  have Fx0 := y_fx c G
  have hT : ∀ p ∈ ([((DL.codeOf K ("law", none)), (DL.tabOf K ("law", none)))] : List (Addr × Addr)), h.get? p.2 = some { cls := .none, data := .fields #[] } := by
    intro p hp
    simp only [List.mem_cons, List.not_mem_nil, or_false] at hp
    subst hp
    exact tt_law
  have nT : ∀ p ∈ ([((DL.codeOf K ("law", none)), (DL.tabOf K ("law", none)))] : List (Addr × Addr)), K.lookup p.2 = none := by
    intro p hp
    simp only [List.mem_cons, List.not_mem_nil, or_false] at hp
    subst hp
    exact tn_law
  have hC : ∀ p ∈ ([((DL.codeOf K ("law", none)), (DL.tabOf K ("law", none)))] : List (Addr × Addr)), PySem.W.CodeHd h p.1 p.2 := by
    intro p hp
    simp only [List.mem_cons, List.not_mem_nil, or_false] at hp
    subst hp
    exact PySem.W.codeHd_of_K X (DL.hdY_ok kc_law kh_law)
  have hTc : ∀ q ∈ tabs (paY K), ∃ p ∈ ([((DL.codeOf K ("law", none)), (DL.tabOf K ("law", none)))] : List (Addr × Addr)), p.2 = q.1 := by
    intro q hq
    simp only [tabs, List.mem_cons, List.not_mem_nil, or_false] at hq
    rcases hq with rfl
    · exact ⟨((DL.codeOf K ("law", none)), (DL.tabOf K ("law", none))), by simp, rfl⟩
  exact ⟨_, [((DL.codeOf K ("law", none)), (DL.tabOf K ("law", none)))], tabs (paY K), hT, nT, hC, hTc, fun s u => .of_eq rfl, fun base KB GB TB => p_law Fx0 ⟨TB ((DL.codeOf K ("law", none)), (DL.tabOf K ("law", none))) (by simp)⟩ (funA_mk l_law d_law) hgood⟩
end K22
set_option Elab.async false
set_option linter.all false
set_option maxRecDepth 100000
set_option maxHeartbeats 1000000
namespace K22
open PySem PySem.Spec PyProof.Rows L2 DL
abbrev tb : List (Nat × Bool) := [(7, false), (8, false)]
abbrev tbR : List (Nat × Bool) := [(7, true), (8, false)]
abbrev tbP : List (Nat × Bool) := [(7, false), (8, true)]
theorem x_int : f_is_integer = pkInt tb := rfl
theorem x_row : f_is_row = pkRow tb := rfl
theorem x_rin : f_Ratio___init__ = pkRInit 7 1 tb := rfl
theorem x_sums : f_need_sums = pkSums 7 1 2 3 tb tbR := rfl
theorem x_sm : f_summed_totals = pkSummed 8 7 1 tb tbR := rfl
theorem x_pin : f_Poly___init__ = pkPInit 8 7 1 2 3 tb tbR wzFuel := rfl
theorem x_draw : f__law_draw = pkDraw := rfl
theorem x_pick : f__law_pick = pkPick := rfl
theorem x_f : f__law_f = lxF := rfl
theorem x_tot : f__law_total = lxTotal := rfl
theorem x_trim : f__law_trim = lxTrim trimFuel := rfl
theorem x_lis : f__law_listed = lwListed := rfl
section
variable {me : M Pen D} {env : DL.Env} {s s' : Pen}
theorem lam_of {d : D} (h : m__law_complaint (fun s => me (env.map dOnly) s) [Slot.fn, .no] s = .ok (.rt d, s')) : lamM n__law_complaint m__law_complaint me env s = .ok (d, s') := by
  unfold lamM runT
  have e : m__law_complaint (fun s => me (env.map dOnly) s) (Slot.fn :: List.replicate (n__law_complaint - 1) .no) s = .ok (.rt d, s') := h
  rw [e]
theorem c_ok {d : D} (h : me (env.map dOnly) s = .ok (d, s')) : lamM n__law_complaint m__law_complaint me env s = .ok (.tup [.str "ok", d], s') := by
  refine lam_of ?_
  unfold m__law_complaint tryS
  simp only [ev_m1, ev_m2, ev_consM, ev_callM, ev_callF, ev_truM, ev_andT, ev_orT, ev_notT, ev_andV, ev_orV, ev_notV, ev_ifM, ev_tupM, ev_lstM, ev_partM, ev_parS, ev_par3S, ev_parOS, ev_asgS, ev_setS, ev_retS, ev_exprS, ev_ifS, ev_ownS, ev_raiseS, ev_makeF, ev_methF, ev_chT, ev_itM, ev_itA, ev_sliceM, ev_selfS, ev_penGet, ev_penPut, ev_mStr1, ev_thenS, ev_bindM, ev_retM, ev_optM, ev_mVar, ev_nextS, frzS, ev_yesM, List.append_nil, List.cons_append, List.nil_append, List.length_cons, List.length_nil, Nat.zero_add, Nat.reduceAdd, reduceIte, addD, subD, ltD, gtD, geD, leD, negD, DL.intD, absD, lenD, truD, DL.isNon, truB, strCD, extS, apS, DL.setAll, DL.assignT, List.getElem?_cons_succ, List.getElem?_cons_zero, List.set_cons_succ, List.set_cons_zero, if_true, Bool.false_eq_true, if_false, Bool.not_true, Bool.not_false, actM, h, tupD, Nat.reduceLeDiff]
theorem c_item {v r : D} (h : me (env.map dOnly) s = .exc 3 [v] s') (hr : reprD [v] = some r) : lamM n__law_complaint m__law_complaint me env s = .ok (.tup [.str "item", r], s') := by
  refine lam_of ?_
  unfold m__law_complaint tryS
  simp only [ev_m1, ev_m2, ev_consM, ev_callM, ev_callF, ev_truM, ev_andT, ev_orT, ev_notT, ev_andV, ev_orV, ev_notV, ev_ifM, ev_tupM, ev_lstM, ev_partM, ev_parS, ev_par3S, ev_parOS, ev_asgS, ev_setS, ev_retS, ev_exprS, ev_ifS, ev_ownS, ev_raiseS, ev_makeF, ev_methF, ev_chT, ev_itM, ev_itA, ev_sliceM, ev_selfS, ev_penGet, ev_penPut, ev_mStr1, ev_thenS, ev_bindM, ev_retM, ev_optM, ev_mVar, ev_nextS, frzS, ev_yesM, List.append_nil, List.cons_append, List.nil_append, List.length_cons, List.length_nil, Nat.zero_add, Nat.reduceAdd, reduceIte, addD, subD, ltD, gtD, geD, leD, negD, DL.intD, absD, lenD, truD, DL.isNon, truB, strCD, extS, apS, DL.setAll, DL.assignT, List.getElem?_cons_succ, List.getElem?_cons_zero, List.set_cons_succ, List.set_cons_zero, if_true, Bool.false_eq_true, if_false, Bool.not_true, Bool.not_false, actM, h, tupD, Nat.reduceLeDiff, handleS, show exT tab__law_complaint_0 3 = some true from rfl, endS, plainF, excSlot, List.map_cons, List.map_nil, plainSlot, xfM, hr]
theorem c_row {v r : D} (h : me (env.map dOnly) s = .exc 2 [v] s') (hr : reprD [v] = some r) : lamM n__law_complaint m__law_complaint me env s = .ok (.tup [.str "row", r], s') := by
  refine lam_of ?_
  unfold m__law_complaint tryS
  simp only [ev_m1, ev_m2, ev_consM, ev_callM, ev_callF, ev_truM, ev_andT, ev_orT, ev_notT, ev_andV, ev_orV, ev_notV, ev_ifM, ev_tupM, ev_lstM, ev_partM, ev_parS, ev_par3S, ev_parOS, ev_asgS, ev_setS, ev_retS, ev_exprS, ev_ifS, ev_ownS, ev_raiseS, ev_makeF, ev_methF, ev_chT, ev_itM, ev_itA, ev_sliceM, ev_selfS, ev_penGet, ev_penPut, ev_mStr1, ev_thenS, ev_bindM, ev_retM, ev_optM, ev_mVar, ev_nextS, frzS, ev_yesM, List.append_nil, List.cons_append, List.nil_append, List.length_cons, List.length_nil, Nat.zero_add, Nat.reduceAdd, reduceIte, addD, subD, ltD, gtD, geD, leD, negD, DL.intD, absD, lenD, truD, DL.isNon, truB, strCD, extS, apS, DL.setAll, DL.assignT, List.getElem?_cons_succ, List.getElem?_cons_zero, List.set_cons_succ, List.set_cons_zero, if_true, Bool.false_eq_true, if_false, Bool.not_true, Bool.not_false, actM, h, tupD, Nat.reduceLeDiff, handleS, show exT tab__law_complaint_0 2 = some false from rfl, show exT tab__law_complaint_1 2 = some true from rfl, endS, plainF, excSlot, List.map_cons, List.map_nil, plainSlot, xfM, hr]
theorem c_land {v r : D} (h : me (env.map dOnly) s = .exc 6 [v] s') (hr : reprD [v] = some r) : lamM n__law_complaint m__law_complaint me env s = .ok (.tup [.str "land", r], s') := by
  refine lam_of ?_
  unfold m__law_complaint tryS
  simp only [ev_m1, ev_m2, ev_consM, ev_callM, ev_callF, ev_truM, ev_andT, ev_orT, ev_notT, ev_andV, ev_orV, ev_notV, ev_ifM, ev_tupM, ev_lstM, ev_partM, ev_parS, ev_par3S, ev_parOS, ev_asgS, ev_setS, ev_retS, ev_exprS, ev_ifS, ev_ownS, ev_raiseS, ev_makeF, ev_methF, ev_chT, ev_itM, ev_itA, ev_sliceM, ev_selfS, ev_penGet, ev_penPut, ev_mStr1, ev_thenS, ev_bindM, ev_retM, ev_optM, ev_mVar, ev_nextS, frzS, ev_yesM, List.append_nil, List.cons_append, List.nil_append, List.length_cons, List.length_nil, Nat.zero_add, Nat.reduceAdd, reduceIte, addD, subD, ltD, gtD, geD, leD, negD, DL.intD, absD, lenD, truD, DL.isNon, truB, strCD, extS, apS, DL.setAll, DL.assignT, List.getElem?_cons_succ, List.getElem?_cons_zero, List.set_cons_succ, List.set_cons_zero, if_true, Bool.false_eq_true, if_false, Bool.not_true, Bool.not_false, actM, h, tupD, Nat.reduceLeDiff, handleS, show exT tab__law_complaint_0 6 = some false from rfl, show exT tab__law_complaint_1 6 = some false from rfl, show exT tab__law_complaint_2 6 = some true from rfl, endS, plainF, excSlot, List.map_cons, List.map_nil, plainSlot, xfM, hr]
theorem c_many {v u : D} (h : me (env.map dOnly) s = .exc 4 [v, u] s') : lamM n__law_complaint m__law_complaint me env s = .ok (.tup [.str "many", v, u], s') := by
  refine lam_of ?_
  unfold m__law_complaint tryS
  simp only [ev_m1, ev_m2, ev_consM, ev_callM, ev_callF, ev_truM, ev_andT, ev_orT, ev_notT, ev_andV, ev_orV, ev_notV, ev_ifM, ev_tupM, ev_lstM, ev_partM, ev_parS, ev_par3S, ev_parOS, ev_asgS, ev_setS, ev_retS, ev_exprS, ev_ifS, ev_ownS, ev_raiseS, ev_makeF, ev_methF, ev_chT, ev_itM, ev_itA, ev_sliceM, ev_selfS, ev_penGet, ev_penPut, ev_mStr1, ev_thenS, ev_bindM, ev_retM, ev_optM, ev_mVar, ev_nextS, frzS, ev_yesM, List.append_nil, List.cons_append, List.nil_append, List.length_cons, List.length_nil, Nat.zero_add, Nat.reduceAdd, reduceIte, addD, subD, ltD, gtD, geD, leD, negD, DL.intD, absD, lenD, truD, DL.isNon, truB, strCD, extS, apS, DL.setAll, DL.assignT, List.getElem?_cons_succ, List.getElem?_cons_zero, List.set_cons_succ, List.set_cons_zero, if_true, Bool.false_eq_true, if_false, Bool.not_true, Bool.not_false, actM, h, tupD, Nat.reduceLeDiff, handleS, show exT tab__law_complaint_0 4 = some false from rfl, show exT tab__law_complaint_1 4 = some false from rfl, show exT tab__law_complaint_2 4 = some false from rfl, show exT tab__law_complaint_3 4 = some true from rfl, endS, plainF, excSlot, List.map_cons, List.map_nil, plainSlot, xfM]
end
structure Odd (d : D) : Prop where
  p : plainI d = true
  i : ∀ xs, seqOf d = some xs → (∀ x ∈ xs, plainI x = true) ∧ xs.length < 1000000
  n : noSums d = true
  s : shwB d = true
theorem Odd.sums {d : D} (h : Odd d) (s : Pen) : f_need_sums [d] s = .exc 2 [d] s := by
  rw [x_sums]
  exact sums_no h.p h.i h.n s
theorem one_sums (s : Pen) : f_need_sums [.lst [.int 1]] s = .ok (.tup [rat 7 (1, 1)], s) := by
  rw [x_sums]
  exact sums_ok (k := 1) (c := 7) (e := 1) (er := 2) (ei := 3) (tb := tb) (tbR := tbR) rfl rfl (gs := [((1, 1), true)]) ⟨fun g hg => by rw [List.mem_singleton.mp hg]; exact ⟨by decide, rfl, by decide, by decide⟩, fun g hg _ => by rw [List.mem_singleton.mp hg]⟩ (by decide) (by decide) true s
section
variable {d x y : D} (h : Odd d) (s : Pen)
include h
theorem o_settle : f_settle_row [d, x] s = .exc 2 [d] s := by
  unfold f_settle_row
  refine runF_E (env := [.d d, .d x, .no]) rfl ?_
  unfold m_settle_row
  refine DL.W.seq ?_
  simp only [ev_m1, ev_m2, ev_consM, ev_callM, ev_callF, ev_truM, ev_andT, ev_orT, ev_notT, ev_andV, ev_orV, ev_notV, ev_ifM, ev_tupM, ev_lstM, ev_partM, ev_parS, ev_par3S, ev_parOS, ev_asgS, ev_setS, ev_retS, ev_exprS, ev_ifS, ev_ownS, ev_raiseS, ev_makeF, ev_methF, ev_chT, ev_itM, ev_itA, ev_sliceM, ev_selfS, ev_penGet, ev_penPut, ev_mStr1, ev_thenS, ev_bindM, ev_retM, ev_optM, ev_mVar, ev_nextS, frzS, ev_yesM, List.append_nil, List.cons_append, List.nil_append, List.length_cons, List.length_nil, Nat.zero_add, Nat.reduceAdd, reduceIte, addD, subD, ltD, gtD, geD, leD, negD, DL.intD, absD, lenD, truD, DL.isNon, truB, strCD, extS, apS, DL.setAll, DL.assignT, List.getElem?_cons_succ, List.getElem?_cons_zero, List.set_cons_succ, List.set_cons_zero, if_true, Bool.false_eq_true, if_false, Bool.not_true, Bool.not_false, W_ok, W_exc, KS_nx, KS_rt, Bool.true_and, Bool.and_true, Bool.false_or, Bool.or_false, Bool.and_false, Bool.or_true, Bool.false_and, Bool.true_or, h.sums, and_self]
theorem o_fault : f_row_fault [d, x, y] s = .exc 2 [d] s := by
  unfold f_row_fault
  refine runF_E (env := [.d d, .d x, .d y, .no]) rfl ?_
  unfold m_row_fault
  refine DL.W.seq ?_
  simp only [ev_m1, ev_m2, ev_consM, ev_callM, ev_callF, ev_truM, ev_andT, ev_orT, ev_notT, ev_andV, ev_orV, ev_notV, ev_ifM, ev_tupM, ev_lstM, ev_partM, ev_parS, ev_par3S, ev_parOS, ev_asgS, ev_setS, ev_retS, ev_exprS, ev_ifS, ev_ownS, ev_raiseS, ev_makeF, ev_methF, ev_chT, ev_itM, ev_itA, ev_sliceM, ev_selfS, ev_penGet, ev_penPut, ev_mStr1, ev_thenS, ev_bindM, ev_retM, ev_optM, ev_mVar, ev_nextS, frzS, ev_yesM, List.append_nil, List.cons_append, List.nil_append, List.length_cons, List.length_nil, Nat.zero_add, Nat.reduceAdd, reduceIte, addD, subD, ltD, gtD, geD, leD, negD, DL.intD, absD, lenD, truD, DL.isNon, truB, strCD, extS, apS, DL.setAll, DL.assignT, List.getElem?_cons_succ, List.getElem?_cons_zero, List.set_cons_succ, List.set_cons_zero, if_true, Bool.false_eq_true, if_false, Bool.not_true, Bool.not_false, W_ok, W_exc, KS_nx, KS_rt, Bool.true_and, Bool.and_true, Bool.false_or, Bool.or_false, Bool.and_false, Bool.or_true, Bool.false_and, Bool.true_or, h.sums, and_self]
theorem o_total : f_row_total [d, x] s = .exc 2 [d] s := by
  unfold f_row_total
  refine runF_E (env := [.d d, .d x, .no]) rfl ?_
  unfold m_row_total
  refine DL.W.seq ?_
  simp only [ev_m1, ev_m2, ev_consM, ev_callM, ev_callF, ev_truM, ev_andT, ev_orT, ev_notT, ev_andV, ev_orV, ev_notV, ev_ifM, ev_tupM, ev_lstM, ev_partM, ev_parS, ev_par3S, ev_parOS, ev_asgS, ev_setS, ev_retS, ev_exprS, ev_ifS, ev_ownS, ev_raiseS, ev_makeF, ev_methF, ev_chT, ev_itM, ev_itA, ev_sliceM, ev_selfS, ev_penGet, ev_penPut, ev_mStr1, ev_thenS, ev_bindM, ev_retM, ev_optM, ev_mVar, ev_nextS, frzS, ev_yesM, List.append_nil, List.cons_append, List.nil_append, List.length_cons, List.length_nil, Nat.zero_add, Nat.reduceAdd, reduceIte, addD, subD, ltD, gtD, geD, leD, negD, DL.intD, absD, lenD, truD, DL.isNon, truB, strCD, extS, apS, DL.setAll, DL.assignT, List.getElem?_cons_succ, List.getElem?_cons_zero, List.set_cons_succ, List.set_cons_zero, if_true, Bool.false_eq_true, if_false, Bool.not_true, Bool.not_false, W_ok, W_exc, KS_nx, KS_rt, Bool.true_and, Bool.and_true, Bool.false_or, Bool.or_false, Bool.and_false, Bool.or_true, Bool.false_and, Bool.true_or, h.sums, and_self]
theorem o_table : f_table_of [d, x] s = .exc 2 [d] s := by
  unfold f_table_of
  refine runF_E (env := [.d d, .d x, .no, .no]) rfl ?_
  unfold m_table_of
  refine DL.W.seq ?_
  simp only [ev_m1, ev_m2, ev_consM, ev_callM, ev_callF, ev_truM, ev_andT, ev_orT, ev_notT, ev_andV, ev_orV, ev_notV, ev_ifM, ev_tupM, ev_lstM, ev_partM, ev_parS, ev_par3S, ev_parOS, ev_asgS, ev_setS, ev_retS, ev_exprS, ev_ifS, ev_ownS, ev_raiseS, ev_makeF, ev_methF, ev_chT, ev_itM, ev_itA, ev_sliceM, ev_selfS, ev_penGet, ev_penPut, ev_mStr1, ev_thenS, ev_bindM, ev_retM, ev_optM, ev_mVar, ev_nextS, frzS, ev_yesM, List.append_nil, List.cons_append, List.nil_append, List.length_cons, List.length_nil, Nat.zero_add, Nat.reduceAdd, reduceIte, addD, subD, ltD, gtD, geD, leD, negD, DL.intD, absD, lenD, truD, DL.isNon, truB, strCD, extS, apS, DL.setAll, DL.assignT, List.getElem?_cons_succ, List.getElem?_cons_zero, List.set_cons_succ, List.set_cons_zero, if_true, Bool.false_eq_true, if_false, Bool.not_true, Bool.not_false, W_ok, W_exc, KS_nx, KS_rt, Bool.true_and, Bool.and_true, Bool.false_or, Bool.or_false, Bool.and_false, Bool.or_true, Bool.false_and, Bool.true_or, h.sums, and_self]
theorem o_minors : f_minors [d, x] s = .exc 2 [d] s := by
  unfold f_minors
  refine runF_E (env := [.d d, .d x, .no, .no, .no]) rfl ?_
  unfold m_minors
  refine DL.W.seq ?_
  simp only [ev_m1, ev_m2, ev_consM, ev_callM, ev_callF, ev_truM, ev_andT, ev_orT, ev_notT, ev_andV, ev_orV, ev_notV, ev_ifM, ev_tupM, ev_lstM, ev_partM, ev_parS, ev_par3S, ev_parOS, ev_asgS, ev_setS, ev_retS, ev_exprS, ev_ifS, ev_ownS, ev_raiseS, ev_makeF, ev_methF, ev_chT, ev_itM, ev_itA, ev_sliceM, ev_selfS, ev_penGet, ev_penPut, ev_mStr1, ev_thenS, ev_bindM, ev_retM, ev_optM, ev_mVar, ev_nextS, frzS, ev_yesM, List.append_nil, List.cons_append, List.nil_append, List.length_cons, List.length_nil, Nat.zero_add, Nat.reduceAdd, reduceIte, addD, subD, ltD, gtD, geD, leD, negD, DL.intD, absD, lenD, truD, DL.isNon, truB, strCD, extS, apS, DL.setAll, DL.assignT, List.getElem?_cons_succ, List.getElem?_cons_zero, List.set_cons_succ, List.set_cons_zero, if_true, Bool.false_eq_true, if_false, Bool.not_true, Bool.not_false, W_ok, W_exc, KS_nx, KS_rt, Bool.true_and, Bool.and_true, Bool.false_or, Bool.or_false, Bool.and_false, Bool.or_true, Bool.false_and, Bool.true_or, o_table h, and_self]
theorem o_split : f_split [d, x] s = .exc 2 [d] s := by
  unfold f_split
  refine runF_E (env := [.d d, .d x, .no]) rfl ?_
  unfold m_split
  refine DL.W.seq ?_
  simp only [ev_m1, ev_m2, ev_consM, ev_callM, ev_callF, ev_truM, ev_andT, ev_orT, ev_notT, ev_andV, ev_orV, ev_notV, ev_ifM, ev_tupM, ev_lstM, ev_partM, ev_parS, ev_par3S, ev_parOS, ev_asgS, ev_setS, ev_retS, ev_exprS, ev_ifS, ev_ownS, ev_raiseS, ev_makeF, ev_methF, ev_chT, ev_itM, ev_itA, ev_sliceM, ev_selfS, ev_penGet, ev_penPut, ev_mStr1, ev_thenS, ev_bindM, ev_retM, ev_optM, ev_mVar, ev_nextS, frzS, ev_yesM, List.append_nil, List.cons_append, List.nil_append, List.length_cons, List.length_nil, Nat.zero_add, Nat.reduceAdd, reduceIte, addD, subD, ltD, gtD, geD, leD, negD, DL.intD, absD, lenD, truD, DL.isNon, truB, strCD, extS, apS, DL.setAll, DL.assignT, List.getElem?_cons_succ, List.getElem?_cons_zero, List.set_cons_succ, List.set_cons_zero, if_true, Bool.false_eq_true, if_false, Bool.not_true, Bool.not_false, W_ok, W_exc, KS_nx, KS_rt, Bool.true_and, Bool.and_true, Bool.false_or, Bool.or_false, Bool.and_false, Bool.or_true, Bool.false_and, Bool.true_or, h.sums, and_self]
end
structure NoLand (d : D) : Prop where
  l : isiD false false false true false false tb d = some (.bl false) ∨ (isiD false false false true false false tb d = some (.bl true) ∧ inTD true d (.tup [.str "line", .str "ray", .str "stretch"]) = some (.bl true))
  s : shwB d = true
section
variable {d x : D} (h : NoLand d) (s : Pen)
include h
theorem need_land : f_need_land [d] s = .exc 6 [d] s := by
  unfold f_need_land
  refine runF_E (env := [.d d]) rfl ?_
  unfold m_need_land
  rcases h.l with e | ⟨e, e2⟩
  · simp only [ev_m1, ev_m2, ev_consM, ev_callM, ev_callF, ev_truM, ev_andT, ev_orT, ev_notT, ev_andV, ev_orV, ev_notV, ev_ifM, ev_tupM, ev_lstM, ev_partM, ev_parS, ev_par3S, ev_parOS, ev_asgS, ev_setS, ev_retS, ev_exprS, ev_ifS, ev_ownS, ev_raiseS, ev_makeF, ev_methF, ev_chT, ev_itM, ev_itA, ev_sliceM, ev_selfS, ev_penGet, ev_penPut, ev_mStr1, ev_thenS, ev_bindM, ev_retM, ev_optM, ev_mVar, ev_nextS, frzS, ev_yesM, List.append_nil, List.cons_append, List.nil_append, List.length_cons, List.length_nil, Nat.zero_add, Nat.reduceAdd, reduceIte, addD, subD, ltD, gtD, geD, leD, negD, DL.intD, absD, lenD, truD, DL.isNon, truB, strCD, extS, apS, DL.setAll, DL.assignT, List.getElem?_cons_succ, List.getElem?_cons_zero, List.set_cons_succ, List.set_cons_zero, if_true, Bool.false_eq_true, if_false, Bool.not_true, Bool.not_false, W_ok, W_exc, KS_nx, KS_rt, Bool.true_and, Bool.and_true, Bool.false_or, Bool.or_false, Bool.and_false, Bool.or_true, Bool.false_and, Bool.true_or, e, and_self]
  · simp only [ev_m1, ev_m2, ev_consM, ev_callM, ev_callF, ev_truM, ev_andT, ev_orT, ev_notT, ev_andV, ev_orV, ev_notV, ev_ifM, ev_tupM, ev_lstM, ev_partM, ev_parS, ev_par3S, ev_parOS, ev_asgS, ev_setS, ev_retS, ev_exprS, ev_ifS, ev_ownS, ev_raiseS, ev_makeF, ev_methF, ev_chT, ev_itM, ev_itA, ev_sliceM, ev_selfS, ev_penGet, ev_penPut, ev_mStr1, ev_thenS, ev_bindM, ev_retM, ev_optM, ev_mVar, ev_nextS, frzS, ev_yesM, List.append_nil, List.cons_append, List.nil_append, List.length_cons, List.length_nil, Nat.zero_add, Nat.reduceAdd, reduceIte, addD, subD, ltD, gtD, geD, leD, negD, DL.intD, absD, lenD, truD, DL.isNon, truB, strCD, extS, apS, DL.setAll, DL.assignT, List.getElem?_cons_succ, List.getElem?_cons_zero, List.set_cons_succ, List.set_cons_zero, if_true, Bool.false_eq_true, if_false, Bool.not_true, Bool.not_false, W_ok, W_exc, KS_nx, KS_rt, Bool.true_and, Bool.and_true, Bool.false_or, Bool.or_false, Bool.and_false, Bool.or_true, Bool.false_and, Bool.true_or, e, List.map_cons, List.map_nil, e2, and_self]
theorem l_settle : f_settle_row [.lst [.int 1], d] s = .exc 6 [d] s := by
  unfold f_settle_row
  refine runF_E (env := [.d (.lst [.int 1]), .d d, .no]) rfl ?_
  unfold m_settle_row
  refine DL.W.step (by simp only [ev_m1, ev_m2, ev_consM, ev_callM, ev_callF, ev_truM, ev_andT, ev_orT, ev_notT, ev_andV, ev_orV, ev_notV, ev_ifM, ev_tupM, ev_lstM, ev_partM, ev_parS, ev_par3S, ev_parOS, ev_asgS, ev_setS, ev_retS, ev_exprS, ev_ifS, ev_ownS, ev_raiseS, ev_makeF, ev_methF, ev_chT, ev_itM, ev_itA, ev_sliceM, ev_selfS, ev_penGet, ev_penPut, ev_mStr1, ev_thenS, ev_bindM, ev_retM, ev_optM, ev_mVar, ev_nextS, frzS, ev_yesM, List.append_nil, List.cons_append, List.nil_append, List.length_cons, List.length_nil, Nat.zero_add, Nat.reduceAdd, reduceIte, addD, subD, ltD, gtD, geD, leD, negD, DL.intD, absD, lenD, truD, DL.isNon, truB, strCD, extS, apS, DL.setAll, DL.assignT, List.getElem?_cons_succ, List.getElem?_cons_zero, List.set_cons_succ, List.set_cons_zero, if_true, Bool.false_eq_true, if_false, Bool.not_true, Bool.not_false, W_ok, W_exc, KS_nx, KS_rt, Bool.true_and, Bool.and_true, Bool.false_or, Bool.or_false, Bool.and_false, Bool.or_true, Bool.false_and, Bool.true_or, one_sums] <;> rfl) ?_
  refine DL.W.seq ?_
  simp only [ev_m1, ev_m2, ev_consM, ev_callM, ev_callF, ev_truM, ev_andT, ev_orT, ev_notT, ev_andV, ev_orV, ev_notV, ev_ifM, ev_tupM, ev_lstM, ev_partM, ev_parS, ev_par3S, ev_parOS, ev_asgS, ev_setS, ev_retS, ev_exprS, ev_ifS, ev_ownS, ev_raiseS, ev_makeF, ev_methF, ev_chT, ev_itM, ev_itA, ev_sliceM, ev_selfS, ev_penGet, ev_penPut, ev_mStr1, ev_thenS, ev_bindM, ev_retM, ev_optM, ev_mVar, ev_nextS, frzS, ev_yesM, List.append_nil, List.cons_append, List.nil_append, List.length_cons, List.length_nil, Nat.zero_add, Nat.reduceAdd, reduceIte, addD, subD, ltD, gtD, geD, leD, negD, DL.intD, absD, lenD, truD, DL.isNon, truB, strCD, extS, apS, DL.setAll, DL.assignT, List.getElem?_cons_succ, List.getElem?_cons_zero, List.set_cons_succ, List.set_cons_zero, if_true, Bool.false_eq_true, if_false, Bool.not_true, Bool.not_false, W_ok, W_exc, KS_nx, KS_rt, Bool.true_and, Bool.and_true, Bool.false_or, Bool.or_false, Bool.and_false, Bool.or_true, Bool.false_and, Bool.true_or, need_land h, and_self]
theorem l_fault : f_row_fault [.lst [.int 1], d, x] s = .exc 6 [d] s := by
  unfold f_row_fault
  refine runF_E (env := [.d (.lst [.int 1]), .d d, .d x, .no]) rfl ?_
  unfold m_row_fault
  refine DL.W.step (by simp only [ev_m1, ev_m2, ev_consM, ev_callM, ev_callF, ev_truM, ev_andT, ev_orT, ev_notT, ev_andV, ev_orV, ev_notV, ev_ifM, ev_tupM, ev_lstM, ev_partM, ev_parS, ev_par3S, ev_parOS, ev_asgS, ev_setS, ev_retS, ev_exprS, ev_ifS, ev_ownS, ev_raiseS, ev_makeF, ev_methF, ev_chT, ev_itM, ev_itA, ev_sliceM, ev_selfS, ev_penGet, ev_penPut, ev_mStr1, ev_thenS, ev_bindM, ev_retM, ev_optM, ev_mVar, ev_nextS, frzS, ev_yesM, List.append_nil, List.cons_append, List.nil_append, List.length_cons, List.length_nil, Nat.zero_add, Nat.reduceAdd, reduceIte, addD, subD, ltD, gtD, geD, leD, negD, DL.intD, absD, lenD, truD, DL.isNon, truB, strCD, extS, apS, DL.setAll, DL.assignT, List.getElem?_cons_succ, List.getElem?_cons_zero, List.set_cons_succ, List.set_cons_zero, if_true, Bool.false_eq_true, if_false, Bool.not_true, Bool.not_false, W_ok, W_exc, KS_nx, KS_rt, Bool.true_and, Bool.and_true, Bool.false_or, Bool.or_false, Bool.and_false, Bool.or_true, Bool.false_and, Bool.true_or, one_sums] <;> rfl) ?_
  refine DL.W.seq ?_
  simp only [ev_m1, ev_m2, ev_consM, ev_callM, ev_callF, ev_truM, ev_andT, ev_orT, ev_notT, ev_andV, ev_orV, ev_notV, ev_ifM, ev_tupM, ev_lstM, ev_partM, ev_parS, ev_par3S, ev_parOS, ev_asgS, ev_setS, ev_retS, ev_exprS, ev_ifS, ev_ownS, ev_raiseS, ev_makeF, ev_methF, ev_chT, ev_itM, ev_itA, ev_sliceM, ev_selfS, ev_penGet, ev_penPut, ev_mStr1, ev_thenS, ev_bindM, ev_retM, ev_optM, ev_mVar, ev_nextS, frzS, ev_yesM, List.append_nil, List.cons_append, List.nil_append, List.length_cons, List.length_nil, Nat.zero_add, Nat.reduceAdd, reduceIte, addD, subD, ltD, gtD, geD, leD, negD, DL.intD, absD, lenD, truD, DL.isNon, truB, strCD, extS, apS, DL.setAll, DL.assignT, List.getElem?_cons_succ, List.getElem?_cons_zero, List.set_cons_succ, List.set_cons_zero, if_true, Bool.false_eq_true, if_false, Bool.not_true, Bool.not_false, W_ok, W_exc, KS_nx, KS_rt, Bool.true_and, Bool.and_true, Bool.false_or, Bool.or_false, Bool.and_false, Bool.or_true, Bool.false_and, Bool.true_or, need_land h, and_self]
end
structure NoPoly (d : D) : Prop where
  i : isiD false false false false false false tbP d = some (.bl false)
  s : shwB d = true
section
variable {d : D} (h : NoPoly d) (s : Pen)
include h
theorem need_factor : f_need_factor [d] s = .exc 3 [d] s := by
  unfold f_need_factor
  refine runF_E (env := [.d d]) rfl ?_
  unfold m_need_factor
  simp only [ev_m1, ev_m2, ev_consM, ev_callM, ev_callF, ev_truM, ev_andT, ev_orT, ev_notT, ev_andV, ev_orV, ev_notV, ev_ifM, ev_tupM, ev_lstM, ev_partM, ev_parS, ev_par3S, ev_parOS, ev_asgS, ev_setS, ev_retS, ev_exprS, ev_ifS, ev_ownS, ev_raiseS, ev_makeF, ev_methF, ev_chT, ev_itM, ev_itA, ev_sliceM, ev_selfS, ev_penGet, ev_penPut, ev_mStr1, ev_thenS, ev_bindM, ev_retM, ev_optM, ev_mVar, ev_nextS, frzS, ev_yesM, List.append_nil, List.cons_append, List.nil_append, List.length_cons, List.length_nil, Nat.zero_add, Nat.reduceAdd, reduceIte, addD, subD, ltD, gtD, geD, leD, negD, DL.intD, absD, lenD, truD, DL.isNon, truB, strCD, extS, apS, DL.setAll, DL.assignT, List.getElem?_cons_succ, List.getElem?_cons_zero, List.set_cons_succ, List.set_cons_zero, if_true, Bool.false_eq_true, if_false, Bool.not_true, Bool.not_false, W_ok, W_exc, KS_nx, KS_rt, Bool.true_and, Bool.and_true, Bool.false_or, Bool.or_false, Bool.and_false, Bool.or_true, Bool.false_and, Bool.true_or, h.i, and_self]
theorem w_total : f_row_total [.lst [.int 1], d] s = .exc 3 [d] s := by
  unfold f_row_total
  refine runF_E (env := [.d (.lst [.int 1]), .d d, .no]) rfl ?_
  unfold m_row_total
  refine DL.W.step (by simp only [ev_m1, ev_m2, ev_consM, ev_callM, ev_callF, ev_truM, ev_andT, ev_orT, ev_notT, ev_andV, ev_orV, ev_notV, ev_ifM, ev_tupM, ev_lstM, ev_partM, ev_parS, ev_par3S, ev_parOS, ev_asgS, ev_setS, ev_retS, ev_exprS, ev_ifS, ev_ownS, ev_raiseS, ev_makeF, ev_methF, ev_chT, ev_itM, ev_itA, ev_sliceM, ev_selfS, ev_penGet, ev_penPut, ev_mStr1, ev_thenS, ev_bindM, ev_retM, ev_optM, ev_mVar, ev_nextS, frzS, ev_yesM, List.append_nil, List.cons_append, List.nil_append, List.length_cons, List.length_nil, Nat.zero_add, Nat.reduceAdd, reduceIte, addD, subD, ltD, gtD, geD, leD, negD, DL.intD, absD, lenD, truD, DL.isNon, truB, strCD, extS, apS, DL.setAll, DL.assignT, List.getElem?_cons_succ, List.getElem?_cons_zero, List.set_cons_succ, List.set_cons_zero, if_true, Bool.false_eq_true, if_false, Bool.not_true, Bool.not_false, W_ok, W_exc, KS_nx, KS_rt, Bool.true_and, Bool.and_true, Bool.false_or, Bool.or_false, Bool.and_false, Bool.or_true, Bool.false_and, Bool.true_or, one_sums] <;> rfl) ?_
  refine DL.W.seq ?_
  simp only [ev_m1, ev_m2, ev_consM, ev_callM, ev_callF, ev_truM, ev_andT, ev_orT, ev_notT, ev_andV, ev_orV, ev_notV, ev_ifM, ev_tupM, ev_lstM, ev_partM, ev_parS, ev_par3S, ev_parOS, ev_asgS, ev_setS, ev_retS, ev_exprS, ev_ifS, ev_ownS, ev_raiseS, ev_makeF, ev_methF, ev_chT, ev_itM, ev_itA, ev_sliceM, ev_selfS, ev_penGet, ev_penPut, ev_mStr1, ev_thenS, ev_bindM, ev_retM, ev_optM, ev_mVar, ev_nextS, frzS, ev_yesM, List.append_nil, List.cons_append, List.nil_append, List.length_cons, List.length_nil, Nat.zero_add, Nat.reduceAdd, reduceIte, addD, subD, ltD, gtD, geD, leD, negD, DL.intD, absD, lenD, truD, DL.isNon, truB, strCD, extS, apS, DL.setAll, DL.assignT, List.getElem?_cons_succ, List.getElem?_cons_zero, List.set_cons_succ, List.set_cons_zero, if_true, Bool.false_eq_true, if_false, Bool.not_true, Bool.not_false, W_ok, W_exc, KS_nx, KS_rt, Bool.true_and, Bool.and_true, Bool.false_or, Bool.or_false, Bool.and_false, Bool.or_true, Bool.false_and, Bool.true_or, h.i, and_self]
theorem w_table : f_table_of [.lst [.int 1], d] s = .exc 3 [d] s := by
  unfold f_table_of
  refine runF_E (env := [.d (.lst [.int 1]), .d d, .no, .no]) rfl ?_
  unfold m_table_of
  refine DL.W.step (by simp only [ev_m1, ev_m2, ev_consM, ev_callM, ev_callF, ev_truM, ev_andT, ev_orT, ev_notT, ev_andV, ev_orV, ev_notV, ev_ifM, ev_tupM, ev_lstM, ev_partM, ev_parS, ev_par3S, ev_parOS, ev_asgS, ev_setS, ev_retS, ev_exprS, ev_ifS, ev_ownS, ev_raiseS, ev_makeF, ev_methF, ev_chT, ev_itM, ev_itA, ev_sliceM, ev_selfS, ev_penGet, ev_penPut, ev_mStr1, ev_thenS, ev_bindM, ev_retM, ev_optM, ev_mVar, ev_nextS, frzS, ev_yesM, List.append_nil, List.cons_append, List.nil_append, List.length_cons, List.length_nil, Nat.zero_add, Nat.reduceAdd, reduceIte, addD, subD, ltD, gtD, geD, leD, negD, DL.intD, absD, lenD, truD, DL.isNon, truB, strCD, extS, apS, DL.setAll, DL.assignT, List.getElem?_cons_succ, List.getElem?_cons_zero, List.set_cons_succ, List.set_cons_zero, if_true, Bool.false_eq_true, if_false, Bool.not_true, Bool.not_false, W_ok, W_exc, KS_nx, KS_rt, Bool.true_and, Bool.and_true, Bool.false_or, Bool.or_false, Bool.and_false, Bool.or_true, Bool.false_and, Bool.true_or, one_sums] <;> rfl) ?_
  refine DL.W.seq ?_
  simp only [ev_m1, ev_m2, ev_consM, ev_callM, ev_callF, ev_truM, ev_andT, ev_orT, ev_notT, ev_andV, ev_orV, ev_notV, ev_ifM, ev_tupM, ev_lstM, ev_partM, ev_parS, ev_par3S, ev_parOS, ev_asgS, ev_setS, ev_retS, ev_exprS, ev_ifS, ev_ownS, ev_raiseS, ev_makeF, ev_methF, ev_chT, ev_itM, ev_itA, ev_sliceM, ev_selfS, ev_penGet, ev_penPut, ev_mStr1, ev_thenS, ev_bindM, ev_retM, ev_optM, ev_mVar, ev_nextS, frzS, ev_yesM, List.append_nil, List.cons_append, List.nil_append, List.length_cons, List.length_nil, Nat.zero_add, Nat.reduceAdd, reduceIte, addD, subD, ltD, gtD, geD, leD, negD, DL.intD, absD, lenD, truD, DL.isNon, truB, strCD, extS, apS, DL.setAll, DL.assignT, List.getElem?_cons_succ, List.getElem?_cons_zero, List.set_cons_succ, List.set_cons_zero, if_true, Bool.false_eq_true, if_false, Bool.not_true, Bool.not_false, W_ok, W_exc, KS_nx, KS_rt, Bool.true_and, Bool.and_true, Bool.false_or, Bool.or_false, Bool.and_false, Bool.or_true, Bool.false_and, Bool.true_or, need_factor h, and_self]
theorem w_minors : f_minors [.lst [.int 1], d] s = .exc 3 [d] s := by
  unfold f_minors
  refine runF_E (env := [.d (.lst [.int 1]), .d d, .no, .no, .no]) rfl ?_
  unfold m_minors
  refine DL.W.seq ?_
  simp only [ev_m1, ev_m2, ev_consM, ev_callM, ev_callF, ev_truM, ev_andT, ev_orT, ev_notT, ev_andV, ev_orV, ev_notV, ev_ifM, ev_tupM, ev_lstM, ev_partM, ev_parS, ev_par3S, ev_parOS, ev_asgS, ev_setS, ev_retS, ev_exprS, ev_ifS, ev_ownS, ev_raiseS, ev_makeF, ev_methF, ev_chT, ev_itM, ev_itA, ev_sliceM, ev_selfS, ev_penGet, ev_penPut, ev_mStr1, ev_thenS, ev_bindM, ev_retM, ev_optM, ev_mVar, ev_nextS, frzS, ev_yesM, List.append_nil, List.cons_append, List.nil_append, List.length_cons, List.length_nil, Nat.zero_add, Nat.reduceAdd, reduceIte, addD, subD, ltD, gtD, geD, leD, negD, DL.intD, absD, lenD, truD, DL.isNon, truB, strCD, extS, apS, DL.setAll, DL.assignT, List.getElem?_cons_succ, List.getElem?_cons_zero, List.set_cons_succ, List.set_cons_zero, if_true, Bool.false_eq_true, if_false, Bool.not_true, Bool.not_false, W_ok, W_exc, KS_nx, KS_rt, Bool.true_and, Bool.and_true, Bool.false_or, Bool.or_false, Bool.and_false, Bool.or_true, Bool.false_and, Bool.true_or, w_table h, and_self]
theorem w_split : f_split [.lst [.int 1], d] s = .exc 3 [d] s := by
  unfold f_split
  refine runF_E (env := [.d (.lst [.int 1]), .d d, .no]) rfl ?_
  unfold m_split
  refine DL.W.step (by simp only [ev_m1, ev_m2, ev_consM, ev_callM, ev_callF, ev_truM, ev_andT, ev_orT, ev_notT, ev_andV, ev_orV, ev_notV, ev_ifM, ev_tupM, ev_lstM, ev_partM, ev_parS, ev_par3S, ev_parOS, ev_asgS, ev_setS, ev_retS, ev_exprS, ev_ifS, ev_ownS, ev_raiseS, ev_makeF, ev_methF, ev_chT, ev_itM, ev_itA, ev_sliceM, ev_selfS, ev_penGet, ev_penPut, ev_mStr1, ev_thenS, ev_bindM, ev_retM, ev_optM, ev_mVar, ev_nextS, frzS, ev_yesM, List.append_nil, List.cons_append, List.nil_append, List.length_cons, List.length_nil, Nat.zero_add, Nat.reduceAdd, reduceIte, addD, subD, ltD, gtD, geD, leD, negD, DL.intD, absD, lenD, truD, DL.isNon, truB, strCD, extS, apS, DL.setAll, DL.assignT, List.getElem?_cons_succ, List.getElem?_cons_zero, List.set_cons_succ, List.set_cons_zero, if_true, Bool.false_eq_true, if_false, Bool.not_true, Bool.not_false, W_ok, W_exc, KS_nx, KS_rt, Bool.true_and, Bool.and_true, Bool.false_or, Bool.or_false, Bool.and_false, Bool.or_true, Bool.false_and, Bool.true_or, one_sums] <;> rfl) ?_
  refine DL.W.seq ?_
  simp only [ev_m1, ev_m2, ev_consM, ev_callM, ev_callF, ev_truM, ev_andT, ev_orT, ev_notT, ev_andV, ev_orV, ev_notV, ev_ifM, ev_tupM, ev_lstM, ev_partM, ev_parS, ev_par3S, ev_parOS, ev_asgS, ev_setS, ev_retS, ev_exprS, ev_ifS, ev_ownS, ev_raiseS, ev_makeF, ev_methF, ev_chT, ev_itM, ev_itA, ev_sliceM, ev_selfS, ev_penGet, ev_penPut, ev_mStr1, ev_thenS, ev_bindM, ev_retM, ev_optM, ev_mVar, ev_nextS, frzS, ev_yesM, List.append_nil, List.cons_append, List.nil_append, List.length_cons, List.length_nil, Nat.zero_add, Nat.reduceAdd, reduceIte, addD, subD, ltD, gtD, geD, leD, negD, DL.intD, absD, lenD, truD, DL.isNon, truB, strCD, extS, apS, DL.setAll, DL.assignT, List.getElem?_cons_succ, List.getElem?_cons_zero, List.set_cons_succ, List.set_cons_zero, if_true, Bool.false_eq_true, if_false, Bool.not_true, Bool.not_false, W_ok, W_exc, KS_nx, KS_rt, Bool.true_and, Bool.and_true, Bool.false_or, Bool.or_false, Bool.and_false, Bool.or_true, Bool.false_and, Bool.true_or, need_factor h, and_self]
end
theorem given_rats (rs : List (Int × Int)) : (rs.map fun q => (q, false)).map (gv 7) = rs.map (rat 7) := by
  rw [List.map_map]; rfl
theorem rats_given {k : Nat} {rs : List (Int × Int)} (h : ∀ q ∈ rs, Lo k q) : Given k (rs.map fun q => (q, false)) := ⟨fun g hg => by
  obtain ⟨q, hq, rfl⟩ := List.mem_map.mp hg
  exact h q hq, fun g hg hb => by
  obtain ⟨q, hq, rfl⟩ := List.mem_map.mp hg
  cases hb⟩
theorem rats_sums {k : Nat} {rs : List (Int × Int)} (h : ∀ q ∈ rs, Lo k q) (h0 : 1 ≤ rs.length) (h1 : rs.length ≤ 13) (b : Bool) (s : Pen) : f_need_sums [rowD b (rs.map (rat 7))] s = .ok (.tup (rs.map (rat 7)), s) := by
  have e := sums_ok (c := 7) (e := 1) (er := 2) (ei := 3) (tb := tb) (tbR := tbR) rfl rfl (rats_given h) (by rw [List.length_map]; exact h0) (by rw [List.length_map]; exact h1) b s
  rw [given_rats, List.map_map] at e
  rw [x_sums]
  exact e
theorem total_ok {rs ps : List (Int × Int)} (hr : ∀ q ∈ rs, Lo 4 q) (hp : ∀ q ∈ ps, Lo 4 q) (h0 : 1 ≤ rs.length) (h1 : rs.length ≤ 13) (hl : ps.length ≤ rs.length) (b : Bool) (s : Pen) : f_row_total [rowD b (rs.map (rat 7)), polD 8 7 ps] s = .ok (rat 7 (ltot ps rs), s) := by
  have e1 := summed_ok (cP := 8) (c := 7) (e := 1) (tb := tb) (tbR := tbR) rfl rfl hp hr (by omega) (by decide) s
  have d1 : decide (((ps.length : Int) - 1) ≥ (rs.length : Int)) = false := decide_eq_false (by omega)
  unfold f_row_total
  refine runF_W (env := [.d (rowD b (rs.map (rat 7))), .d (polD 8 7 ps), .no]) rfl ?_
  unfold m_row_total
  refine DL.W.step (by simp only [ev_m1, ev_m2, ev_consM, ev_callM, ev_callF, ev_truM, ev_andT, ev_orT, ev_notT, ev_andV, ev_orV, ev_notV, ev_ifM, ev_tupM, ev_lstM, ev_partM, ev_parS, ev_par3S, ev_parOS, ev_asgS, ev_setS, ev_retS, ev_exprS, ev_ifS, ev_ownS, ev_raiseS, ev_makeF, ev_methF, ev_chT, ev_itM, ev_itA, ev_sliceM, ev_selfS, ev_penGet, ev_penPut, ev_mStr1, ev_thenS, ev_bindM, ev_retM, ev_optM, ev_mVar, ev_nextS, frzS, ev_yesM, List.append_nil, List.cons_append, List.nil_append, List.length_cons, List.length_nil, Nat.zero_add, Nat.reduceAdd, reduceIte, addD, subD, ltD, gtD, geD, leD, negD, DL.intD, absD, lenD, truD, DL.isNon, truB, strCD, extS, apS, DL.setAll, DL.assignT, List.getElem?_cons_succ, List.getElem?_cons_zero, List.set_cons_succ, List.set_cons_zero, if_true, Bool.false_eq_true, if_false, Bool.not_true, Bool.not_false, W_ok, W_exc, KS_nx, KS_rt, Bool.true_and, Bool.and_true, Bool.false_or, Bool.or_false, Bool.and_false, Bool.or_true, Bool.false_and, Bool.true_or, rats_sums hr h0 h1] <;> rfl) ?_
  refine DL.W.step (by simp only [ev_m1, ev_m2, ev_consM, ev_callM, ev_callF, ev_truM, ev_andT, ev_orT, ev_notT, ev_andV, ev_orV, ev_notV, ev_ifM, ev_tupM, ev_lstM, ev_partM, ev_parS, ev_par3S, ev_parOS, ev_asgS, ev_setS, ev_retS, ev_exprS, ev_ifS, ev_ownS, ev_raiseS, ev_makeF, ev_methF, ev_chT, ev_itM, ev_itA, ev_sliceM, ev_selfS, ev_penGet, ev_penPut, ev_mStr1, ev_thenS, ev_bindM, ev_retM, ev_optM, ev_mVar, ev_nextS, frzS, ev_yesM, List.append_nil, List.cons_append, List.nil_append, List.length_cons, List.length_nil, Nat.zero_add, Nat.reduceAdd, reduceIte, addD, subD, ltD, gtD, geD, leD, negD, DL.intD, absD, lenD, truD, DL.isNon, truB, strCD, extS, apS, DL.setAll, DL.assignT, List.getElem?_cons_succ, List.getElem?_cons_zero, List.set_cons_succ, List.set_cons_zero, if_true, Bool.false_eq_true, if_false, Bool.not_true, Bool.not_false, W_ok, W_exc, KS_nx, KS_rt, Bool.true_and, Bool.and_true, Bool.false_or, Bool.or_false, Bool.and_false, Bool.or_true, Bool.false_and, Bool.true_or, isi_pol (tbP := tbP) (cP := 8) (b := true) rfl] <;> rfl) ?_
  refine DL.W.step (by simp only [ev_m1, ev_m2, ev_consM, ev_callM, ev_callF, ev_truM, ev_andT, ev_orT, ev_notT, ev_andV, ev_orV, ev_notV, ev_ifM, ev_tupM, ev_lstM, ev_partM, ev_parS, ev_par3S, ev_parOS, ev_asgS, ev_setS, ev_retS, ev_exprS, ev_ifS, ev_ownS, ev_raiseS, ev_makeF, ev_methF, ev_chT, ev_itM, ev_itA, ev_sliceM, ev_selfS, ev_penGet, ev_penPut, ev_mStr1, ev_thenS, ev_bindM, ev_retM, ev_optM, ev_mVar, ev_nextS, frzS, ev_yesM, List.append_nil, List.cons_append, List.nil_append, List.length_cons, List.length_nil, Nat.zero_add, Nat.reduceAdd, reduceIte, addD, subD, ltD, gtD, geD, leD, negD, DL.intD, absD, lenD, truD, DL.isNon, truB, strCD, extS, apS, DL.setAll, DL.assignT, List.getElem?_cons_succ, List.getElem?_cons_zero, List.set_cons_succ, List.set_cons_zero, if_true, Bool.false_eq_true, if_false, Bool.not_true, Bool.not_false, W_ok, W_exc, KS_nx, KS_rt, Bool.true_and, Bool.and_true, Bool.false_or, Bool.or_false, Bool.and_false, Bool.or_true, Bool.false_and, Bool.true_or, pol_deg, List.length_map, d1] <;> rfl) ?_
  simp only [ev_m1, ev_m2, ev_consM, ev_callM, ev_callF, ev_truM, ev_andT, ev_orT, ev_notT, ev_andV, ev_orV, ev_notV, ev_ifM, ev_tupM, ev_lstM, ev_partM, ev_parS, ev_par3S, ev_parOS, ev_asgS, ev_setS, ev_retS, ev_exprS, ev_ifS, ev_ownS, ev_raiseS, ev_makeF, ev_methF, ev_chT, ev_itM, ev_itA, ev_sliceM, ev_selfS, ev_penGet, ev_penPut, ev_mStr1, ev_thenS, ev_bindM, ev_retM, ev_optM, ev_mVar, ev_nextS, frzS, ev_yesM, List.append_nil, List.cons_append, List.nil_append, List.length_cons, List.length_nil, Nat.zero_add, Nat.reduceAdd, reduceIte, addD, subD, ltD, gtD, geD, leD, negD, DL.intD, absD, lenD, truD, DL.isNon, truB, strCD, extS, apS, DL.setAll, DL.assignT, List.getElem?_cons_succ, List.getElem?_cons_zero, List.set_cons_succ, List.set_cons_zero, if_true, Bool.false_eq_true, if_false, Bool.not_true, Bool.not_false, W_ok, W_exc, KS_nx, KS_rt, Bool.true_and, Bool.and_true, Bool.false_or, Bool.or_false, Bool.and_false, Bool.or_true, Bool.false_and, Bool.true_or, x_sm, e1]
theorem total_many {rs ps : List (Int × Int)} (hr : ∀ q ∈ rs, Lo 4 q) (h0 : 1 ≤ rs.length) (h1 : rs.length ≤ 13) (hl : rs.length < ps.length) (b : Bool) (s : Pen) : f_row_total [rowD b (rs.map (rat 7)), polD 8 7 ps] s = .exc 4 [.str "degree", .int ((rs.length : Int) - 1)] s := by
  have d1 : decide (((ps.length : Int) - 1) ≥ (rs.length : Int)) = true := decide_eq_true (by omega)
  unfold f_row_total
  refine runF_E (env := [.d (rowD b (rs.map (rat 7))), .d (polD 8 7 ps), .no]) rfl ?_
  unfold m_row_total
  refine DL.W.step (by simp only [ev_m1, ev_m2, ev_consM, ev_callM, ev_callF, ev_truM, ev_andT, ev_orT, ev_notT, ev_andV, ev_orV, ev_notV, ev_ifM, ev_tupM, ev_lstM, ev_partM, ev_parS, ev_par3S, ev_parOS, ev_asgS, ev_setS, ev_retS, ev_exprS, ev_ifS, ev_ownS, ev_raiseS, ev_makeF, ev_methF, ev_chT, ev_itM, ev_itA, ev_sliceM, ev_selfS, ev_penGet, ev_penPut, ev_mStr1, ev_thenS, ev_bindM, ev_retM, ev_optM, ev_mVar, ev_nextS, frzS, ev_yesM, List.append_nil, List.cons_append, List.nil_append, List.length_cons, List.length_nil, Nat.zero_add, Nat.reduceAdd, reduceIte, addD, subD, ltD, gtD, geD, leD, negD, DL.intD, absD, lenD, truD, DL.isNon, truB, strCD, extS, apS, DL.setAll, DL.assignT, List.getElem?_cons_succ, List.getElem?_cons_zero, List.set_cons_succ, List.set_cons_zero, if_true, Bool.false_eq_true, if_false, Bool.not_true, Bool.not_false, W_ok, W_exc, KS_nx, KS_rt, Bool.true_and, Bool.and_true, Bool.false_or, Bool.or_false, Bool.and_false, Bool.or_true, Bool.false_and, Bool.true_or, rats_sums hr h0 h1] <;> rfl) ?_
  refine DL.W.step (by simp only [ev_m1, ev_m2, ev_consM, ev_callM, ev_callF, ev_truM, ev_andT, ev_orT, ev_notT, ev_andV, ev_orV, ev_notV, ev_ifM, ev_tupM, ev_lstM, ev_partM, ev_parS, ev_par3S, ev_parOS, ev_asgS, ev_setS, ev_retS, ev_exprS, ev_ifS, ev_ownS, ev_raiseS, ev_makeF, ev_methF, ev_chT, ev_itM, ev_itA, ev_sliceM, ev_selfS, ev_penGet, ev_penPut, ev_mStr1, ev_thenS, ev_bindM, ev_retM, ev_optM, ev_mVar, ev_nextS, frzS, ev_yesM, List.append_nil, List.cons_append, List.nil_append, List.length_cons, List.length_nil, Nat.zero_add, Nat.reduceAdd, reduceIte, addD, subD, ltD, gtD, geD, leD, negD, DL.intD, absD, lenD, truD, DL.isNon, truB, strCD, extS, apS, DL.setAll, DL.assignT, List.getElem?_cons_succ, List.getElem?_cons_zero, List.set_cons_succ, List.set_cons_zero, if_true, Bool.false_eq_true, if_false, Bool.not_true, Bool.not_false, W_ok, W_exc, KS_nx, KS_rt, Bool.true_and, Bool.and_true, Bool.false_or, Bool.or_false, Bool.and_false, Bool.or_true, Bool.false_and, Bool.true_or, isi_pol (tbP := tbP) (cP := 8) (b := true) rfl] <;> rfl) ?_
  refine DL.W.seq ?_
  simp only [ev_m1, ev_m2, ev_consM, ev_callM, ev_callF, ev_truM, ev_andT, ev_orT, ev_notT, ev_andV, ev_orV, ev_notV, ev_ifM, ev_tupM, ev_lstM, ev_partM, ev_parS, ev_par3S, ev_parOS, ev_asgS, ev_setS, ev_retS, ev_exprS, ev_ifS, ev_ownS, ev_raiseS, ev_makeF, ev_methF, ev_chT, ev_itM, ev_itA, ev_sliceM, ev_selfS, ev_penGet, ev_penPut, ev_mStr1, ev_thenS, ev_bindM, ev_retM, ev_optM, ev_mVar, ev_nextS, frzS, ev_yesM, List.append_nil, List.cons_append, List.nil_append, List.length_cons, List.length_nil, Nat.zero_add, Nat.reduceAdd, reduceIte, addD, subD, ltD, gtD, geD, leD, negD, DL.intD, absD, lenD, truD, DL.isNon, truB, strCD, extS, apS, DL.setAll, DL.assignT, List.getElem?_cons_succ, List.getElem?_cons_zero, List.set_cons_succ, List.set_cons_zero, if_true, Bool.false_eq_true, if_false, Bool.not_true, Bool.not_false, W_ok, W_exc, KS_nx, KS_rt, Bool.true_and, Bool.and_true, Bool.false_or, Bool.or_false, Bool.and_false, Bool.or_true, Bool.false_and, Bool.true_or, pol_deg, List.length_map, d1, and_self]
theorem pmake {ps : List (Int × Int)} (hp : ∀ q ∈ ps, Lo 4 q) (hl : ps.length < 1000) (s : Pen) : makeR 8 1 f_Poly___init__ [.lst (ps.map (rat 7))] s = .ok (polD 8 7 (trimL ps), s) := by
  have e := pinit_ok (cP := 8) (c := 7) (e := 1) (er := 2) (ei := 3) (tb := tb) (tbR := tbR) rfl rfl (rats_given hp) (by rw [List.length_map]; omega) true s
  rw [given_rats, List.map_map] at e
  rw [x_pin]
  have e2 : List.map (Prod.fst ∘ fun q : Int × Int => (q, false)) ps = ps := List.map_id _
  rw [e2] at e
  exact e
theorem one_v (s : Pen) : makeR 8 1 f_Poly___init__ [.tup [.int 1]] s = .ok (polD 8 7 [(1, 1)], s) := by
  rw [x_pin]
  exact pinit_ok (k := 1) (cP := 8) (c := 7) (e := 1) (er := 2) (ei := 3) (tb := tb) (tbR := tbR) rfl rfl (gs := [((1, 1), true)]) ⟨fun g hg => by rw [List.mem_singleton.mp hg]; exact ⟨by decide, rfl, by decide, by decide⟩, fun g hg _ => by rw [List.mem_singleton.mp hg]⟩ (by decide) false s
theorem ratio_ok {k : Nat} {q : Int × Int} (h : Lo k q) (hk : k ≤ 8000) (s : Pen) : f__law_ratio [frac q] s = .ok (rat 7 q, s) := by
  unfold f__law_ratio
  refine runF_W (env := [.d (frac q)]) rfl ?_
  unfold m__law_ratio
  have mk := rmake_lo (c := 7) (e := 1) (tb := tb) h hk s
  simp only [ev_m1, ev_m2, ev_consM, ev_callM, ev_callF, ev_truM, ev_andT, ev_orT, ev_notT, ev_andV, ev_orV, ev_notV, ev_ifM, ev_tupM, ev_lstM, ev_partM, ev_parS, ev_par3S, ev_parOS, ev_asgS, ev_setS, ev_retS, ev_exprS, ev_ifS, ev_ownS, ev_raiseS, ev_makeF, ev_methF, ev_chT, ev_itM, ev_itA, ev_sliceM, ev_selfS, ev_penGet, ev_penPut, ev_mStr1, ev_thenS, ev_bindM, ev_retM, ev_optM, ev_mVar, ev_nextS, frzS, ev_yesM, List.append_nil, List.cons_append, List.nil_append, List.length_cons, List.length_nil, Nat.zero_add, Nat.reduceAdd, reduceIte, addD, subD, ltD, gtD, geD, leD, negD, DL.intD, absD, lenD, truD, DL.isNon, truB, strCD, extS, apS, DL.setAll, DL.assignT, List.getElem?_cons_succ, List.getElem?_cons_zero, List.set_cons_succ, List.set_cons_zero, if_true, Bool.false_eq_true, if_false, Bool.not_true, Bool.not_false, W_ok, W_exc, KS_nx, KS_rt, Bool.true_and, Bool.and_true, Bool.false_or, Bool.or_false, Bool.and_false, Bool.or_true, Bool.false_and, Bool.true_or, frac0, frac1, x_rin, mk]
end K22
set_option Elab.async false
set_option linter.all false
set_option maxRecDepth 100000
set_option maxHeartbeats 2000000
namespace K22
open PySem PySem.Spec PyProof.Rows L2 DL
def good (cells : List Int) : Prop := cells.length ≤ 63
theorem good_of (ns : List Int) (h : ns.length ≤ 63) (_ : ∀ z ∈ ns, Builtin.Int.intBits z ≤ 1048576) : good ns := h
theorem some_f {n : Nat} {p : Pen} (h : PenOk n p) (hn : n < 100000000000) : ∃ q p', f__law_some_f [.st, .int 4, .int 3] p = .ok (frac q, p') ∧ Lo 4 q ∧ PenOk (n + 2) p' := by
  obtain ⟨r, p1, e1, r0, r1, h1⟩ := draw1 h (by omega) (many := 3) (by decide) (by decide)
  obtain ⟨t, p2, e2, t0, t1, h2⟩ := draw1 h1 (by omega) (many := 2 * 4 * (1 + r) + 1) (by omega) (by omega)
  have hb : (0 : Int) < 1 + r := by omega
  have b1 : (t - 4 * (1 + r)).natAbs < 2 ^ 4 := by have : (2 : Nat) ^ 4 = 16 := rfl; omega
  have b2 : (1 + r).natAbs < 2 ^ 4 := by have : (2 : Nat) ^ 4 = 16 := rfl; omega
  have o1 : (2 : Int).natAbs < 2 ^ 2 := by decide
  have o4 : (4 : Int).natAbs < 2 ^ 3 := by decide
  have o8 : (2 * 4 : Int).natAbs < 2 ^ 4 := by decide
  have m0 := mulD_ok (mulOk_small o1 o4 (by decide))
  have m1' := mulD_ok (mulOk_small o8 b2 (by decide))
  have m2' := mulD_ok (mulOk_small o4 b2 (by decide))
  have ef := lxF_ok hb b1 b2 (by decide) p2
  refine ⟨low (t - 4 * (1 + r)) (1 + r), p2, ?_, Lo.low hb b1 b2, h2⟩
  unfold f__law_some_f
  refine runF_W (env := [.d .st, .d (.int 4), .d (.int 3), .no]) rfl ?_
  unfold m__law_some_f
  refine DL.W.step (by simp only [ev_m1, ev_m2, ev_consM, ev_callM, ev_callF, ev_truM, ev_andT, ev_orT, ev_notT, ev_andV, ev_orV, ev_notV, ev_ifM, ev_tupM, ev_lstM, ev_partM, ev_parS, ev_par3S, ev_parOS, ev_asgS, ev_setS, ev_retS, ev_exprS, ev_ifS, ev_ownS, ev_raiseS, ev_makeF, ev_methF, ev_chT, ev_itM, ev_itA, ev_sliceM, ev_selfS, ev_penGet, ev_penPut, ev_mStr1, ev_thenS, ev_bindM, ev_retM, ev_optM, ev_mVar, ev_nextS, frzS, ev_yesM, List.append_nil, List.cons_append, List.nil_append, List.length_cons, List.length_nil, Nat.zero_add, Nat.reduceAdd, reduceIte, addD, subD, ltD, gtD, geD, leD, negD, DL.intD, absD, lenD, truD, DL.isNon, truB, strCD, extS, apS, DL.setAll, DL.assignT, List.getElem?_cons_succ, List.getElem?_cons_zero, List.set_cons_succ, List.set_cons_zero, if_true, Bool.false_eq_true, if_false, Bool.not_true, Bool.not_false, W_ok, W_exc, KS_nx, KS_rt, Bool.true_and, Bool.and_true, Bool.false_or, Bool.or_false, Bool.and_false, Bool.or_true, Bool.false_and, Bool.true_or, x_draw, e1] <;> rfl) ?_
  simp only [ev_m1, ev_m2, ev_consM, ev_callM, ev_callF, ev_truM, ev_andT, ev_orT, ev_notT, ev_andV, ev_orV, ev_notV, ev_ifM, ev_tupM, ev_lstM, ev_partM, ev_parS, ev_par3S, ev_parOS, ev_asgS, ev_setS, ev_retS, ev_exprS, ev_ifS, ev_ownS, ev_raiseS, ev_makeF, ev_methF, ev_chT, ev_itM, ev_itA, ev_sliceM, ev_selfS, ev_penGet, ev_penPut, ev_mStr1, ev_thenS, ev_bindM, ev_retM, ev_optM, ev_mVar, ev_nextS, frzS, ev_yesM, List.append_nil, List.cons_append, List.nil_append, List.length_cons, List.length_nil, Nat.zero_add, Nat.reduceAdd, reduceIte, addD, subD, ltD, gtD, geD, leD, negD, DL.intD, absD, lenD, truD, DL.isNon, truB, strCD, extS, apS, DL.setAll, DL.assignT, List.getElem?_cons_succ, List.getElem?_cons_zero, List.set_cons_succ, List.set_cons_zero, if_true, Bool.false_eq_true, if_false, Bool.not_true, Bool.not_false, W_ok, W_exc, KS_nx, KS_rt, Bool.true_and, Bool.and_true, Bool.false_or, Bool.or_false, Bool.and_false, Bool.or_true, Bool.false_and, Bool.true_or, x_draw, x_f, m0, m1', m2', e2, ef]
/-- so many drawn -/
theorem drawn_ok {c n : Nat} {p p1 : Pen} {x0 x2 x3 x4 x5 x6 x7 x8 x9 x10 x11 x12 x13 : Slot} {ms : M Pen (List D)} (hi : ms [x0, .d .st, x2, x3, x4, x5, x6, x7, x8, x9, x10, x11, x12, x13] p = .ok ([.int (n : Int)], p1)) (h4 : isOwn x4 = false) (h : PenOk c p1) (hc : c + 2 * n < 100000000000) (hn : n < 1000) :
    ∃ (qs : List (Int × Int)) (p' : Pen), (lcM (.nm 4) (itA rng1 ms) yesM (callF 3 f__law_some_f [] (consM (mVar 1) (consM (retM (.int 4)) (consM (retM (.int 3)) (retM []))))) [4] : M Pen D) [x0, .d .st, x2, x3, x4, x5, x6, x7, x8, x9, x10, x11, x12, x13] p = .ok (.lst (qs.map frac), p') ∧ qs.length = n ∧ (∀ q ∈ qs, Lo 4 q) ∧ PenOk (c + 2 * n) p' := by
  obtain ⟨qs, p', e, l, a, h'⟩ := lc_draw (mt := (yesM : M Pen Bool)) (me := callF 3 f__law_some_f [] (consM (mVar 1) (consM (retM (.int 4)) (consM (retM (.int 3)) (retM []))))) (g := .nm 4) (vs := [4]) (c := 2) (xs := List.range n) (fun i : Nat => D.int (i : Int)) frac (fun _ q => Lo 4 q) (it_rng1 hi (by omega)) (by show (!isOwn x4 && true) = true; rw [h4]; rfl) h (by rw [List.length_range]; omega) (by rw [List.length_range]; omega) fun i m p hx hm hm2 => by
    obtain ⟨q, p', e, hq, h'⟩ := some_f hm hm2
    exact ⟨_, rfl, rfl, q, p', by simp only [ev_m1, ev_m2, ev_consM, ev_callM, ev_callF, ev_truM, ev_andT, ev_orT, ev_notT, ev_andV, ev_orV, ev_notV, ev_ifM, ev_tupM, ev_lstM, ev_partM, ev_parS, ev_par3S, ev_parOS, ev_asgS, ev_setS, ev_retS, ev_exprS, ev_ifS, ev_ownS, ev_raiseS, ev_makeF, ev_methF, ev_chT, ev_itM, ev_itA, ev_sliceM, ev_selfS, ev_penGet, ev_penPut, ev_mStr1, ev_thenS, ev_bindM, ev_retM, ev_optM, ev_mVar, ev_nextS, frzS, ev_yesM, List.append_nil, List.cons_append, List.nil_append, List.length_cons, List.length_nil, Nat.zero_add, Nat.reduceAdd, reduceIte, addD, subD, ltD, gtD, geD, leD, negD, DL.intD, absD, lenD, truD, DL.isNon, truB, strCD, extS, apS, DL.setAll, DL.assignT, List.getElem?_cons_succ, List.getElem?_cons_zero, List.set_cons_succ, List.set_cons_zero, if_true, Bool.false_eq_true, if_false, Bool.not_true, Bool.not_false, wipeE, e], hq, h'⟩
  rw [List.length_range] at l h'
  exact ⟨qs, p', e, l, fun q hq => by obtain ⟨_, _, k⟩ := a q hq; exact k, h'⟩
/-- the Ratios of a row -/
theorem rats_ok {i : Nat} {qs : List (Int × Int)} (hq : ∀ q ∈ qs, Lo 4 q) (hl : qs.length < 1000) {env : DL.Env} (s : Pen) (hi : (mVar i : M Pen D) env s = .ok (.lst (qs.map frac), s)) (ho : noOwn env [7] = true) (ha : ∀ q : Int × Int, ∃ e1, assignT (.nm 7) (frac q) (wipeE env [7]) = some e1 ∧ (mVar 7 : M Pen D) e1 s = .ok (frac q, s)) :
    (lcM (.nm 7) (itM seqOf (mVar i)) yesM (callF 1 f__law_ratio [] (consM (mVar 7) (retM []))) [7] : M Pen D) env s = .ok (.lst (qs.map (rat 7)), s) := by
  have l1 := lc_map (mi := (itM seqOf (mVar i) : M Pen (List D))) (mt := (yesM : M Pen Bool)) (me := callF 1 f__law_ratio [] (consM (mVar 7) (retM []))) (g := .nm 7) (vs := [7]) (env := env) (s := s) (s1 := s) (xs := qs) frac (by simp only [ev_itM, ev_bindM, ev_optM, hi, seqOf]) ho (fun _ => true) (rat 7) (by omega) fun q hq' => by
    obtain ⟨e1, h1, h2⟩ := ha q
    exact ⟨e1, h1, rfl, fun _ => by simp only [ev_callF, ev_consM, ev_bindM, ev_retM, h2, List.append_nil, List.length_cons, List.length_nil, Nat.zero_add, if_true, ratio_ok (hq q hq') (by decide)]⟩
  rw [filter_yes] at l1
  exact l1
theorem ix0 {d : D} {r : List D} : ixD (.tup (d :: r)) (.int 0) = some d := by unfold ixD atI ixN; simp
theorem ix1 {a b : D} : ixD (.tup [a, b]) (.int 1) = some b := rfl
/-- a lap -/
theorem lap_holds {N : Nat} {p : Pen} (h : PenOk N p) (hn : N < 1000000000) {c x2 x3 x5 x6 x8 : Slot} {K : DL.Env → Pen → Prop} {P : Out × Pen → Prop}
    (fin : ∀ y3 y5 y6 y8 p', PenOk (N + 60) p' → K [c, .d .st, x2, y3, .no, y5, y6, .no, y8, .no, .no, .no, .no, .no] p') :
    DL.W (((seqS (setS 3 (lcM (.nm 4) (itA rng1 (consM (m2 addD (retM (.int 1)) (callF 2 f__law_draw [] (consM (mVar 1) (consM (retM (.int 13)) (retM []))))) (retM []))) yesM (callF 3 f__law_some_f [] (consM (mVar 1) (consM (retM (.int 4)) (consM (retM (.int 3)) (retM []))))) [4]))
    (seqS (setS 5 (callF 1 f__law_trim [] (consM (lcM (.nm 4) (itA rng1 (consM (callF 2 f__law_draw [] (consM (mVar 1) (consM (retM (.int 14)) (retM [])))) (retM []))) yesM (callF 3 f__law_some_f [] (consM (mVar 1) (consM (retM (.int 4)) (consM (retM (.int 3)) (retM []))))) [4]) (retM []))))
    (seqS (setS 6 (callF 2 f__law_listed [] (consM (mVar 1) (consM (lcM (.nm 7) (itM seqOf (mVar 3)) yesM (callF 1 f__law_ratio [] (consM (mVar 7) (retM []))) [7]) (retM [])))))
    (seqS (setS 8 (lamM n__law_complaint m__law_complaint (callF 2 f_row_total [] (consM (mVar 6) (consM (makeF 8 1 f_Poly___init__ [] (consM (lcM (.nm 7) (itM seqOf (mVar 5)) yesM (callF 1 f__law_ratio [] (consM (mVar 7) (retM []))) [7]) (retM []))) (retM []))))))
    (ifS (truM (m2 gtD (callM lenD (consM (mVar 5) (retM []))) (callM lenD (consM (mVar 3) (retM []))))) (ifS (truM (m2 neD (mVar 8) (tupM (consM (retM (.str "many")) (consM (retM (.str "degree")) (consM (m2 subD (callM lenD (consM (mVar 3) (retM []))) (retM (.int 1))) (retM []))))))) (retS (retM (.bl false))) nextS) (ifS (orT (truM (m2 neD (m2 ixD (mVar 8) (retM (.int 0))) (retM (.str "ok")))) (truM (m2 neD (tupM (consM (m1 (fldD [(7, 0)]) (m2 ixD (mVar 8) (retM (.int 1)))) (consM (m1 (fldD [(7, 1)]) (m2 ixD (mVar 8) (retM (.int 1)))) (retM [])))) (callF 2 f__law_total [] (consM (mVar 3) (consM (mVar 5) (retM []))))))) (retS (retM (.bl false))) nextS)))))) : MS Pen) [c, .d .st, x2, x3, .no, x5, x6, .no, x8, .no, .no, .no, .no, .no] p) (KL K P) noE := by
  obtain ⟨r, p1, e1, r0, r1, h1⟩ := draw1 h (by omega) (many := 13) (by decide) (by decide)
  obtain ⟨nr, hnr⟩ : ∃ nr : Nat, 1 + r = nr := ⟨(1 + r).toNat, by omega⟩
  obtain ⟨rs, p2, e2, l2, q2, h2⟩ := drawn_ok (c := N + 1) (n := nr) (p := p) (p1 := p1) (x0 := c) (x2 := x2) (x3 := x3) (x4 := .no) (x5 := x5) (x6 := x6) (x7 := .no) (x8 := x8) (x9 := .no) (x10 := .no) (x11 := .no) (x12 := .no) (x13 := .no) (ms := consM (m2 addD (retM (.int 1)) (callF 2 f__law_draw [] (consM (mVar 1) (consM (retM (.int 13)) (retM []))))) (retM [])) (by simp only [ev_m1, ev_m2, ev_consM, ev_callM, ev_callF, ev_truM, ev_andT, ev_orT, ev_notT, ev_andV, ev_orV, ev_notV, ev_ifM, ev_tupM, ev_lstM, ev_partM, ev_parS, ev_par3S, ev_parOS, ev_asgS, ev_setS, ev_retS, ev_exprS, ev_ifS, ev_ownS, ev_raiseS, ev_makeF, ev_methF, ev_chT, ev_itM, ev_itA, ev_sliceM, ev_selfS, ev_penGet, ev_penPut, ev_mStr1, ev_thenS, ev_bindM, ev_retM, ev_optM, ev_mVar, ev_nextS, frzS, ev_yesM, List.append_nil, List.cons_append, List.nil_append, List.length_cons, List.length_nil, Nat.zero_add, Nat.reduceAdd, reduceIte, addD, subD, ltD, gtD, geD, leD, negD, DL.intD, absD, lenD, truD, DL.isNon, truB, strCD, extS, apS, DL.setAll, DL.assignT, List.getElem?_cons_succ, List.getElem?_cons_zero, List.set_cons_succ, List.set_cons_zero, if_true, Bool.false_eq_true, if_false, Bool.not_true, Bool.not_false, x_draw, e1, hnr]) rfl h1 (by omega) (by omega)
  obtain ⟨t, p3, e3, t0, t1, h3⟩ := draw1 h2 (by omega) (many := 14) (by decide) (by decide)
  obtain ⟨nt, hnt⟩ : ∃ nt : Nat, t = nt := ⟨t.toNat, by omega⟩
  obtain ⟨qs, p4, e4, l4, q4, h4⟩ := drawn_ok (c := N + 1 + 2 * nr + 1) (n := nt) (p := p2) (p1 := p3) (x0 := c) (x2 := x2) (x3 := .d (.lst (rs.map frac))) (x4 := .no) (x5 := x5) (x6 := x6) (x7 := .no) (x8 := x8) (x9 := .no) (x10 := .no) (x11 := .no) (x12 := .no) (x13 := .no) (ms := consM (callF 2 f__law_draw [] (consM (mVar 1) (consM (retM (.int 14)) (retM [])))) (retM [])) (by simp only [ev_m1, ev_m2, ev_consM, ev_callM, ev_callF, ev_truM, ev_andT, ev_orT, ev_notT, ev_andV, ev_orV, ev_notV, ev_ifM, ev_tupM, ev_lstM, ev_partM, ev_parS, ev_par3S, ev_parOS, ev_asgS, ev_setS, ev_retS, ev_exprS, ev_ifS, ev_ownS, ev_raiseS, ev_makeF, ev_methF, ev_chT, ev_itM, ev_itA, ev_sliceM, ev_selfS, ev_penGet, ev_penPut, ev_mStr1, ev_thenS, ev_bindM, ev_retM, ev_optM, ev_mVar, ev_nextS, frzS, ev_yesM, List.append_nil, List.cons_append, List.nil_append, List.length_cons, List.length_nil, Nat.zero_add, Nat.reduceAdd, reduceIte, addD, subD, ltD, gtD, geD, leD, negD, DL.intD, absD, lenD, truD, DL.isNon, truB, strCD, extS, apS, DL.setAll, DL.assignT, List.getElem?_cons_succ, List.getElem?_cons_zero, List.set_cons_succ, List.set_cons_zero, if_true, Bool.false_eq_true, if_false, Bool.not_true, Bool.not_false, x_draw, e3, hnt]) rfl h3 (by omega) (by omega)
  have qt : ∀ q ∈ trimL qs, Lo 4 q := fun q hq => q4 q (trimL_mem hq)
  have lt : (trimL qs).length ≤ 13 := by have := trimL_len qs; have := trimN_le qs qs.length; omega
  have et := lxTrim_ok (ps := qs) p4
  have id1 := trimL_idem qs
  generalize trimL qs = ps at qt lt et id1
  obtain ⟨b, p5, e5, h5⟩ := lwListed_ok h4 (by omega) (rs.map (rat 7))
  have er := rats_ok (i := 3) q2 (by omega) (env := [c, .d .st, x2, .d (.lst (rs.map frac)), .no, .d (.lst (ps.map frac)), x6, .no, x8, .no, .no, .no, .no, .no]) p4 rfl rfl fun q => ⟨_, rfl, rfl⟩
  have pk := pmake (ps := ps) qt (by omega) p5
  rw [id1] at pk
  refine DL.W.step (by simp only [ev_m1, ev_m2, ev_consM, ev_callM, ev_callF, ev_truM, ev_andT, ev_orT, ev_notT, ev_andV, ev_orV, ev_notV, ev_ifM, ev_tupM, ev_lstM, ev_partM, ev_parS, ev_par3S, ev_parOS, ev_asgS, ev_setS, ev_retS, ev_exprS, ev_ifS, ev_ownS, ev_raiseS, ev_makeF, ev_methF, ev_chT, ev_itM, ev_itA, ev_sliceM, ev_selfS, ev_penGet, ev_penPut, ev_mStr1, ev_thenS, ev_bindM, ev_retM, ev_optM, ev_mVar, ev_nextS, frzS, ev_yesM, List.append_nil, List.cons_append, List.nil_append, List.length_cons, List.length_nil, Nat.zero_add, Nat.reduceAdd, reduceIte, addD, subD, ltD, gtD, geD, leD, negD, DL.intD, absD, lenD, truD, DL.isNon, truB, strCD, extS, apS, DL.setAll, DL.assignT, List.getElem?_cons_succ, List.getElem?_cons_zero, List.set_cons_succ, List.set_cons_zero, if_true, Bool.false_eq_true, if_false, Bool.not_true, Bool.not_false, W_ok, W_exc, KS_nx, KS_rt, Bool.true_and, Bool.and_true, Bool.false_or, Bool.or_false, Bool.and_false, Bool.or_true, Bool.false_and, Bool.true_or, e2] <;> rfl) ?_
  refine DL.W.step (by simp only [ev_m1, ev_m2, ev_consM, ev_callM, ev_callF, ev_truM, ev_andT, ev_orT, ev_notT, ev_andV, ev_orV, ev_notV, ev_ifM, ev_tupM, ev_lstM, ev_partM, ev_parS, ev_par3S, ev_parOS, ev_asgS, ev_setS, ev_retS, ev_exprS, ev_ifS, ev_ownS, ev_raiseS, ev_makeF, ev_methF, ev_chT, ev_itM, ev_itA, ev_sliceM, ev_selfS, ev_penGet, ev_penPut, ev_mStr1, ev_thenS, ev_bindM, ev_retM, ev_optM, ev_mVar, ev_nextS, frzS, ev_yesM, List.append_nil, List.cons_append, List.nil_append, List.length_cons, List.length_nil, Nat.zero_add, Nat.reduceAdd, reduceIte, addD, subD, ltD, gtD, geD, leD, negD, DL.intD, absD, lenD, truD, DL.isNon, truB, strCD, extS, apS, DL.setAll, DL.assignT, List.getElem?_cons_succ, List.getElem?_cons_zero, List.set_cons_succ, List.set_cons_zero, if_true, Bool.false_eq_true, if_false, Bool.not_true, Bool.not_false, W_ok, W_exc, KS_nx, KS_rt, Bool.true_and, Bool.and_true, Bool.false_or, Bool.or_false, Bool.and_false, Bool.or_true, Bool.false_and, Bool.true_or, e4, x_trim, et] <;> rfl) ?_
  refine DL.W.step (by simp only [ev_m1, ev_m2, ev_consM, ev_callM, ev_callF, ev_truM, ev_andT, ev_orT, ev_notT, ev_andV, ev_orV, ev_notV, ev_ifM, ev_tupM, ev_lstM, ev_partM, ev_parS, ev_par3S, ev_parOS, ev_asgS, ev_setS, ev_retS, ev_exprS, ev_ifS, ev_ownS, ev_raiseS, ev_makeF, ev_methF, ev_chT, ev_itM, ev_itA, ev_sliceM, ev_selfS, ev_penGet, ev_penPut, ev_mStr1, ev_thenS, ev_bindM, ev_retM, ev_optM, ev_mVar, ev_nextS, frzS, ev_yesM, List.append_nil, List.cons_append, List.nil_append, List.length_cons, List.length_nil, Nat.zero_add, Nat.reduceAdd, reduceIte, addD, subD, ltD, gtD, geD, leD, negD, DL.intD, absD, lenD, truD, DL.isNon, truB, strCD, extS, apS, DL.setAll, DL.assignT, List.getElem?_cons_succ, List.getElem?_cons_zero, List.set_cons_succ, List.set_cons_zero, if_true, Bool.false_eq_true, if_false, Bool.not_true, Bool.not_false, W_ok, W_exc, KS_nx, KS_rt, Bool.true_and, Bool.and_true, Bool.false_or, Bool.or_false, Bool.and_false, Bool.or_true, Bool.false_and, Bool.true_or, er, x_lis, e5] <;> rfl) ?_
  have ep : ∀ z0 z2 y6 y8 : Slot, (lcM (.nm 7) (itM seqOf (mVar 5)) yesM (callF 1 f__law_ratio [] (consM (mVar 7) (retM []))) [7] : M Pen D) [z0, .d .st, z2, .d (.lst (rs.map frac)), .no, .d (.lst (ps.map frac)), y6, .no, y8, .no, .no, .no, .no, .no] p5 = .ok (.lst (ps.map (rat 7)), p5) := fun z0 z2 y6 y8 => rats_ok (i := 5) qt (by omega) (env := [z0, .d .st, z2, .d (.lst (rs.map frac)), .no, .d (.lst (ps.map frac)), y6, .no, y8, .no, .no, .no, .no, .no]) p5 rfl rfl fun q => ⟨_, rfl, rfl⟩
  by_cases hl : rs.length < ps.length
  · have ea := total_many (ps := ps) q2 (by omega) (by omega) hl b p5
    have el := c_many (me := callF 2 f_row_total [] (consM (mVar 6) (consM (makeF 8 1 f_Poly___init__ [] (consM (lcM (.nm 7) (itM seqOf (mVar 5)) yesM (callF 1 f__law_ratio [] (consM (mVar 7) (retM []))) [7]) (retM []))) (retM [])))) (env := [c, .d .st, x2, .d (.lst (rs.map frac)), .no, .d (.lst (ps.map frac)), .d (rowD b (rs.map (rat 7))), .no, x8, .no, .no, .no, .no, .no]) (s := p5) (s' := p5) (v := .str "degree") (u := .int ((rs.length : Int) - 1)) (by simp only [ev_m1, ev_m2, ev_consM, ev_callM, ev_callF, ev_truM, ev_andT, ev_orT, ev_notT, ev_andV, ev_orV, ev_notV, ev_ifM, ev_tupM, ev_lstM, ev_partM, ev_parS, ev_par3S, ev_parOS, ev_asgS, ev_setS, ev_retS, ev_exprS, ev_ifS, ev_ownS, ev_raiseS, ev_makeF, ev_methF, ev_chT, ev_itM, ev_itA, ev_sliceM, ev_selfS, ev_penGet, ev_penPut, ev_mStr1, ev_thenS, ev_bindM, ev_retM, ev_optM, ev_mVar, ev_nextS, frzS, ev_yesM, List.append_nil, List.cons_append, List.nil_append, List.length_cons, List.length_nil, Nat.zero_add, Nat.reduceAdd, reduceIte, addD, subD, ltD, gtD, geD, leD, negD, DL.intD, absD, lenD, truD, DL.isNon, truB, strCD, extS, apS, DL.setAll, DL.assignT, List.getElem?_cons_succ, List.getElem?_cons_zero, List.set_cons_succ, List.set_cons_zero, if_true, Bool.false_eq_true, if_false, Bool.not_true, Bool.not_false, List.map_cons, List.map_nil, dOnly, ep, pk, ea])
    refine DL.W.step (by simp only [ev_m1, ev_m2, ev_consM, ev_callM, ev_callF, ev_truM, ev_andT, ev_orT, ev_notT, ev_andV, ev_orV, ev_notV, ev_ifM, ev_tupM, ev_lstM, ev_partM, ev_parS, ev_par3S, ev_parOS, ev_asgS, ev_setS, ev_retS, ev_exprS, ev_ifS, ev_ownS, ev_raiseS, ev_makeF, ev_methF, ev_chT, ev_itM, ev_itA, ev_sliceM, ev_selfS, ev_penGet, ev_penPut, ev_mStr1, ev_thenS, ev_bindM, ev_retM, ev_optM, ev_mVar, ev_nextS, frzS, ev_yesM, List.append_nil, List.cons_append, List.nil_append, List.length_cons, List.length_nil, Nat.zero_add, Nat.reduceAdd, reduceIte, addD, subD, ltD, gtD, geD, leD, negD, DL.intD, absD, lenD, truD, DL.isNon, truB, strCD, extS, apS, DL.setAll, DL.assignT, List.getElem?_cons_succ, List.getElem?_cons_zero, List.set_cons_succ, List.set_cons_zero, if_true, Bool.false_eq_true, if_false, Bool.not_true, Bool.not_false, W_ok, W_exc, KS_nx, KS_rt, Bool.true_and, Bool.and_true, Bool.false_or, Bool.or_false, Bool.and_false, Bool.or_true, Bool.false_and, Bool.true_or, el] <;> rfl) ?_
    have pl : Pl 1 (.tup [.str "many", .str "degree", .int ((rs.length : Int) - 1)]) := Pl.tup fun d hd => by
      simp only [List.mem_cons, List.not_mem_nil, or_false] at hd
      rcases hd with rfl | rfl | rfl
      · exact Pl.str (lit_ok _)
      · exact Pl.str (lit_ok _)
      · exact Pl.int _
    have d1 : decide ((rs.length : Int) < (ps.length : Int)) = true := decide_eq_true (by omega)
    simp only [ev_m1, ev_m2, ev_consM, ev_callM, ev_callF, ev_truM, ev_andT, ev_orT, ev_notT, ev_andV, ev_orV, ev_notV, ev_ifM, ev_tupM, ev_lstM, ev_partM, ev_parS, ev_par3S, ev_parOS, ev_asgS, ev_setS, ev_retS, ev_exprS, ev_ifS, ev_ownS, ev_raiseS, ev_makeF, ev_methF, ev_chT, ev_itM, ev_itA, ev_sliceM, ev_selfS, ev_penGet, ev_penPut, ev_mStr1, ev_thenS, ev_bindM, ev_retM, ev_optM, ev_mVar, ev_nextS, frzS, ev_yesM, List.append_nil, List.cons_append, List.nil_append, List.length_cons, List.length_nil, Nat.zero_add, Nat.reduceAdd, reduceIte, addD, subD, ltD, gtD, geD, leD, negD, DL.intD, absD, lenD, truD, DL.isNon, truB, strCD, extS, apS, DL.setAll, DL.assignT, List.getElem?_cons_succ, List.getElem?_cons_zero, List.set_cons_succ, List.set_cons_zero, if_true, Bool.false_eq_true, if_false, Bool.not_true, Bool.not_false, W_ok, W_exc, KS_nx, KS_rt, Bool.true_and, Bool.and_true, Bool.false_or, Bool.or_false, Bool.and_false, Bool.or_true, Bool.false_and, Bool.true_or, List.length_map, d1, tupD, Nat.reduceLeDiff, neD_self pl (by decide), KL_nx]
    exact fin _ _ _ _ _ (h5.mono (by omega))
  · have ea := total_ok (ps := ps) q2 qt (by omega) (by omega) (by omega) b p5
    have eo := lxTotal_ok (k := 4) (ps := ps) (rs := rs) qt q2 (by omega) (by decide) p5
    have el := c_ok (me := callF 2 f_row_total [] (consM (mVar 6) (consM (makeF 8 1 f_Poly___init__ [] (consM (lcM (.nm 7) (itM seqOf (mVar 5)) yesM (callF 1 f__law_ratio [] (consM (mVar 7) (retM []))) [7]) (retM []))) (retM [])))) (env := [c, .d .st, x2, .d (.lst (rs.map frac)), .no, .d (.lst (ps.map frac)), .d (rowD b (rs.map (rat 7))), .no, x8, .no, .no, .no, .no, .no]) (s := p5) (s' := p5) (d := rat 7 (ltot ps rs)) (by simp only [ev_m1, ev_m2, ev_consM, ev_callM, ev_callF, ev_truM, ev_andT, ev_orT, ev_notT, ev_andV, ev_orV, ev_notV, ev_ifM, ev_tupM, ev_lstM, ev_partM, ev_parS, ev_par3S, ev_parOS, ev_asgS, ev_setS, ev_retS, ev_exprS, ev_ifS, ev_ownS, ev_raiseS, ev_makeF, ev_methF, ev_chT, ev_itM, ev_itA, ev_sliceM, ev_selfS, ev_penGet, ev_penPut, ev_mStr1, ev_thenS, ev_bindM, ev_retM, ev_optM, ev_mVar, ev_nextS, frzS, ev_yesM, List.append_nil, List.cons_append, List.nil_append, List.length_cons, List.length_nil, Nat.zero_add, Nat.reduceAdd, reduceIte, addD, subD, ltD, gtD, geD, leD, negD, DL.intD, absD, lenD, truD, DL.isNon, truB, strCD, extS, apS, DL.setAll, DL.assignT, List.getElem?_cons_succ, List.getElem?_cons_zero, List.set_cons_succ, List.set_cons_zero, if_true, Bool.false_eq_true, if_false, Bool.not_true, Bool.not_false, List.map_cons, List.map_nil, dOnly, ep, pk, ea])
    refine DL.W.step (by simp only [ev_m1, ev_m2, ev_consM, ev_callM, ev_callF, ev_truM, ev_andT, ev_orT, ev_notT, ev_andV, ev_orV, ev_notV, ev_ifM, ev_tupM, ev_lstM, ev_partM, ev_parS, ev_par3S, ev_parOS, ev_asgS, ev_setS, ev_retS, ev_exprS, ev_ifS, ev_ownS, ev_raiseS, ev_makeF, ev_methF, ev_chT, ev_itM, ev_itA, ev_sliceM, ev_selfS, ev_penGet, ev_penPut, ev_mStr1, ev_thenS, ev_bindM, ev_retM, ev_optM, ev_mVar, ev_nextS, frzS, ev_yesM, List.append_nil, List.cons_append, List.nil_append, List.length_cons, List.length_nil, Nat.zero_add, Nat.reduceAdd, reduceIte, addD, subD, ltD, gtD, geD, leD, negD, DL.intD, absD, lenD, truD, DL.isNon, truB, strCD, extS, apS, DL.setAll, DL.assignT, List.getElem?_cons_succ, List.getElem?_cons_zero, List.set_cons_succ, List.set_cons_zero, if_true, Bool.false_eq_true, if_false, Bool.not_true, Bool.not_false, W_ok, W_exc, KS_nx, KS_rt, Bool.true_and, Bool.and_true, Bool.false_or, Bool.or_false, Bool.and_false, Bool.or_true, Bool.false_and, Bool.true_or, el] <;> rfl) ?_
    have d1 : decide ((rs.length : Int) < (ps.length : Int)) = false := decide_eq_false (by omega)
    have e6 : neD (.tup [.int (ltot ps rs).1, .int (ltot ps rs).2]) (frac (ltot ps rs)) = some (.bl false) := neD_self (n := 1) frac_pl (by decide)
    simp only [ev_m1, ev_m2, ev_consM, ev_callM, ev_callF, ev_truM, ev_andT, ev_orT, ev_notT, ev_andV, ev_orV, ev_notV, ev_ifM, ev_tupM, ev_lstM, ev_partM, ev_parS, ev_par3S, ev_parOS, ev_asgS, ev_setS, ev_retS, ev_exprS, ev_ifS, ev_ownS, ev_raiseS, ev_makeF, ev_methF, ev_chT, ev_itM, ev_itA, ev_sliceM, ev_selfS, ev_penGet, ev_penPut, ev_mStr1, ev_thenS, ev_bindM, ev_retM, ev_optM, ev_mVar, ev_nextS, frzS, ev_yesM, List.append_nil, List.cons_append, List.nil_append, List.length_cons, List.length_nil, Nat.zero_add, Nat.reduceAdd, reduceIte, addD, subD, ltD, gtD, geD, leD, negD, DL.intD, absD, lenD, truD, DL.isNon, truB, strCD, extS, apS, DL.setAll, DL.assignT, List.getElem?_cons_succ, List.getElem?_cons_zero, List.set_cons_succ, List.set_cons_zero, if_true, Bool.false_eq_true, if_false, Bool.not_true, Bool.not_false, W_ok, W_exc, KS_nx, KS_rt, Bool.true_and, Bool.and_true, Bool.false_or, Bool.or_false, Bool.and_false, Bool.or_true, Bool.false_and, Bool.true_or, List.length_map, d1, ix0, ix1, neD_str (lit_ok "ok") (lit_ok "ok"), beq_self_eq_true, rat_top, rat_bot, tupD, Nat.reduceLeDiff, x_tot, eo, e6, KL_nx]
    exact fin _ _ _ _ _ (h5.mono (by omega))
end K22
set_option Elab.async false
set_option linter.all false
set_option maxRecDepth 100000
set_option maxHeartbeats 2000000
namespace K22
open PySem PySem.Spec PyProof.Rows L2 DL
def oddB (d : D) : Bool := plainI d && ((match seqOf d with
  | some xs => xs.all plainI && decide (xs.length < 1000000)
  | none => true) && (noSums d && shwB d))
theorem odd_of {d : D} (h : oddB d = true) : Odd d := by
  unfold oddB at h
  simp only [Bool.and_eq_true] at h
  obtain ⟨h1, h2, h3, h4⟩ := h
  refine ⟨h1, fun xs e => ?_, h3, h4⟩
  rw [e] at h2
  simp only [Bool.and_eq_true, decide_eq_true_eq] at h2
  exact ⟨fun x hx => List.all_eq_true.mp h2.1 x hx, h2.2⟩
theorem rep1 (d : D) : repD (.lst [d]) (.int 14) = some (.lst [d, d, d, d, d, d, d, d, d, d, d, d, d, d]) := by
  unfold repD
  simp only
  rw [if_pos ⟨by decide, by show 1 * 14 ≤ 100000; decide⟩]
  rfl
theorem rep6 (d : D) : repD (.lst [d]) (.int 6) = some (.lst [d, d, d, d, d, d]) := by
  unfold repD
  simp only
  rw [if_pos ⟨by decide, by show 1 * 6 ≤ 100000; decide⟩]
  rfl
theorem rep4 (d : D) : repD (.lst [d]) (.int 4) = some (.lst [d, d, d, d]) := by
  unfold repD
  simp only
  rw [if_pos ⟨by decide, by show 1 * 4 ≤ 100000; decide⟩]
  rfl
section
variable {d : D} {y : Str} {x0 x1 x2 x3 x4 x5 x6 x7 x8 x9 x10 x11 x12 x13 : Slot} (s : Pen)
section
variable (h : Odd d) (hy : reprD [d] = some (.str y))
include h hy
theorem q_settle : lamM n__law_complaint m__law_complaint (callF 2 f_settle_row [] (consM (mVar 9) (consM (retM .non) (retM [])))) [x0, x1, x2, x3, x4, x5, x6, x7, x8, .d d, x10, x11, x12, x13] s = .ok (.tup [.str "row", .str y], s) :=
  c_row (v := d) (by simp only [ev_m1, ev_m2, ev_consM, ev_callM, ev_callF, ev_truM, ev_andT, ev_orT, ev_notT, ev_andV, ev_orV, ev_notV, ev_ifM, ev_tupM, ev_lstM, ev_partM, ev_parS, ev_par3S, ev_parOS, ev_asgS, ev_setS, ev_retS, ev_exprS, ev_ifS, ev_ownS, ev_raiseS, ev_makeF, ev_methF, ev_chT, ev_itM, ev_itA, ev_sliceM, ev_selfS, ev_penGet, ev_penPut, ev_mStr1, ev_thenS, ev_bindM, ev_retM, ev_optM, ev_mVar, ev_nextS, frzS, ev_yesM, List.append_nil, List.cons_append, List.nil_append, List.length_cons, List.length_nil, Nat.zero_add, Nat.reduceAdd, reduceIte, addD, subD, ltD, gtD, geD, leD, negD, DL.intD, absD, lenD, truD, DL.isNon, truB, strCD, extS, apS, DL.setAll, DL.assignT, List.getElem?_cons_succ, List.getElem?_cons_zero, List.set_cons_succ, List.set_cons_zero, if_true, Bool.false_eq_true, if_false, Bool.not_true, Bool.not_false, List.map_cons, List.map_nil, dOnly, o_settle h]) hy
theorem q_fault : lamM n__law_complaint m__law_complaint (callF 3 f_row_fault [] (consM (mVar 9) (consM (retM .non) (consM (retM .non) (retM []))))) [x0, x1, x2, x3, x4, x5, x6, x7, x8, .d d, x10, x11, x12, x13] s = .ok (.tup [.str "row", .str y], s) :=
  c_row (v := d) (by simp only [ev_m1, ev_m2, ev_consM, ev_callM, ev_callF, ev_truM, ev_andT, ev_orT, ev_notT, ev_andV, ev_orV, ev_notV, ev_ifM, ev_tupM, ev_lstM, ev_partM, ev_parS, ev_par3S, ev_parOS, ev_asgS, ev_setS, ev_retS, ev_exprS, ev_ifS, ev_ownS, ev_raiseS, ev_makeF, ev_methF, ev_chT, ev_itM, ev_itA, ev_sliceM, ev_selfS, ev_penGet, ev_penPut, ev_mStr1, ev_thenS, ev_bindM, ev_retM, ev_optM, ev_mVar, ev_nextS, frzS, ev_yesM, List.append_nil, List.cons_append, List.nil_append, List.length_cons, List.length_nil, Nat.zero_add, Nat.reduceAdd, reduceIte, addD, subD, ltD, gtD, geD, leD, negD, DL.intD, absD, lenD, truD, DL.isNon, truB, strCD, extS, apS, DL.setAll, DL.assignT, List.getElem?_cons_succ, List.getElem?_cons_zero, List.set_cons_succ, List.set_cons_zero, if_true, Bool.false_eq_true, if_false, Bool.not_true, Bool.not_false, List.map_cons, List.map_nil, dOnly, o_fault h]) hy
theorem q_total : lamM n__law_complaint m__law_complaint (callF 2 f_row_total [] (consM (mVar 9) (consM (retM .non) (retM [])))) [x0, x1, x2, x3, x4, x5, x6, x7, x8, .d d, x10, x11, x12, x13] s = .ok (.tup [.str "row", .str y], s) :=
  c_row (v := d) (by simp only [ev_m1, ev_m2, ev_consM, ev_callM, ev_callF, ev_truM, ev_andT, ev_orT, ev_notT, ev_andV, ev_orV, ev_notV, ev_ifM, ev_tupM, ev_lstM, ev_partM, ev_parS, ev_par3S, ev_parOS, ev_asgS, ev_setS, ev_retS, ev_exprS, ev_ifS, ev_ownS, ev_raiseS, ev_makeF, ev_methF, ev_chT, ev_itM, ev_itA, ev_sliceM, ev_selfS, ev_penGet, ev_penPut, ev_mStr1, ev_thenS, ev_bindM, ev_retM, ev_optM, ev_mVar, ev_nextS, frzS, ev_yesM, List.append_nil, List.cons_append, List.nil_append, List.length_cons, List.length_nil, Nat.zero_add, Nat.reduceAdd, reduceIte, addD, subD, ltD, gtD, geD, leD, negD, DL.intD, absD, lenD, truD, DL.isNon, truB, strCD, extS, apS, DL.setAll, DL.assignT, List.getElem?_cons_succ, List.getElem?_cons_zero, List.set_cons_succ, List.set_cons_zero, if_true, Bool.false_eq_true, if_false, Bool.not_true, Bool.not_false, List.map_cons, List.map_nil, dOnly, o_total h]) hy
theorem q_table : lamM n__law_complaint m__law_complaint (callF 2 f_table_of [] (consM (mVar 9) (consM (retM .non) (retM [])))) [x0, x1, x2, x3, x4, x5, x6, x7, x8, .d d, x10, x11, x12, x13] s = .ok (.tup [.str "row", .str y], s) :=
  c_row (v := d) (by simp only [ev_m1, ev_m2, ev_consM, ev_callM, ev_callF, ev_truM, ev_andT, ev_orT, ev_notT, ev_andV, ev_orV, ev_notV, ev_ifM, ev_tupM, ev_lstM, ev_partM, ev_parS, ev_par3S, ev_parOS, ev_asgS, ev_setS, ev_retS, ev_exprS, ev_ifS, ev_ownS, ev_raiseS, ev_makeF, ev_methF, ev_chT, ev_itM, ev_itA, ev_sliceM, ev_selfS, ev_penGet, ev_penPut, ev_mStr1, ev_thenS, ev_bindM, ev_retM, ev_optM, ev_mVar, ev_nextS, frzS, ev_yesM, List.append_nil, List.cons_append, List.nil_append, List.length_cons, List.length_nil, Nat.zero_add, Nat.reduceAdd, reduceIte, addD, subD, ltD, gtD, geD, leD, negD, DL.intD, absD, lenD, truD, DL.isNon, truB, strCD, extS, apS, DL.setAll, DL.assignT, List.getElem?_cons_succ, List.getElem?_cons_zero, List.set_cons_succ, List.set_cons_zero, if_true, Bool.false_eq_true, if_false, Bool.not_true, Bool.not_false, List.map_cons, List.map_nil, dOnly, o_table h]) hy
theorem q_minors {z : D} : lamM n__law_complaint m__law_complaint (callF 2 f_minors [] (consM (mVar 9) (consM (mVar 10) (retM [])))) [x0, x1, x2, x3, x4, x5, x6, x7, x8, .d d, .d z, x11, x12, x13] s = .ok (.tup [.str "row", .str y], s) :=
  c_row (v := d) (by simp only [ev_m1, ev_m2, ev_consM, ev_callM, ev_callF, ev_truM, ev_andT, ev_orT, ev_notT, ev_andV, ev_orV, ev_notV, ev_ifM, ev_tupM, ev_lstM, ev_partM, ev_parS, ev_par3S, ev_parOS, ev_asgS, ev_setS, ev_retS, ev_exprS, ev_ifS, ev_ownS, ev_raiseS, ev_makeF, ev_methF, ev_chT, ev_itM, ev_itA, ev_sliceM, ev_selfS, ev_penGet, ev_penPut, ev_mStr1, ev_thenS, ev_bindM, ev_retM, ev_optM, ev_mVar, ev_nextS, frzS, ev_yesM, List.append_nil, List.cons_append, List.nil_append, List.length_cons, List.length_nil, Nat.zero_add, Nat.reduceAdd, reduceIte, addD, subD, ltD, gtD, geD, leD, negD, DL.intD, absD, lenD, truD, DL.isNon, truB, strCD, extS, apS, DL.setAll, DL.assignT, List.getElem?_cons_succ, List.getElem?_cons_zero, List.set_cons_succ, List.set_cons_zero, if_true, Bool.false_eq_true, if_false, Bool.not_true, Bool.not_false, List.map_cons, List.map_nil, dOnly, o_minors h]) hy
theorem q_split : lamM n__law_complaint m__law_complaint (callF 2 f_split [] (consM (mVar 9) (consM (retM .non) (retM [])))) [x0, x1, x2, x3, x4, x5, x6, x7, x8, .d d, x10, x11, x12, x13] s = .ok (.tup [.str "row", .str y], s) :=
  c_row (v := d) (by simp only [ev_m1, ev_m2, ev_consM, ev_callM, ev_callF, ev_truM, ev_andT, ev_orT, ev_notT, ev_andV, ev_orV, ev_notV, ev_ifM, ev_tupM, ev_lstM, ev_partM, ev_parS, ev_par3S, ev_parOS, ev_asgS, ev_setS, ev_retS, ev_exprS, ev_ifS, ev_ownS, ev_raiseS, ev_makeF, ev_methF, ev_chT, ev_itM, ev_itA, ev_sliceM, ev_selfS, ev_penGet, ev_penPut, ev_mStr1, ev_thenS, ev_bindM, ev_retM, ev_optM, ev_mVar, ev_nextS, frzS, ev_yesM, List.append_nil, List.cons_append, List.nil_append, List.length_cons, List.length_nil, Nat.zero_add, Nat.reduceAdd, reduceIte, addD, subD, ltD, gtD, geD, leD, negD, DL.intD, absD, lenD, truD, DL.isNon, truB, strCD, extS, apS, DL.setAll, DL.assignT, List.getElem?_cons_succ, List.getElem?_cons_zero, List.set_cons_succ, List.set_cons_zero, if_true, Bool.false_eq_true, if_false, Bool.not_true, Bool.not_false, List.map_cons, List.map_nil, dOnly, o_split h]) hy
end
section
variable (h : NoLand d) (hy : reprD [d] = some (.str y))
include h hy
theorem v_settle : lamM n__law_complaint m__law_complaint (callF 2 f_settle_row [] (consM (lstM (consM (retM (.int 1)) (retM []))) (consM (mVar 12) (retM [])))) [x0, x1, x2, x3, x4, x5, x6, x7, x8, x9, x10, x11, .d d, x13] s = .ok (.tup [.str "land", .str y], s) :=
  c_land (v := d) (by simp only [ev_m1, ev_m2, ev_consM, ev_callM, ev_callF, ev_truM, ev_andT, ev_orT, ev_notT, ev_andV, ev_orV, ev_notV, ev_ifM, ev_tupM, ev_lstM, ev_partM, ev_parS, ev_par3S, ev_parOS, ev_asgS, ev_setS, ev_retS, ev_exprS, ev_ifS, ev_ownS, ev_raiseS, ev_makeF, ev_methF, ev_chT, ev_itM, ev_itA, ev_sliceM, ev_selfS, ev_penGet, ev_penPut, ev_mStr1, ev_thenS, ev_bindM, ev_retM, ev_optM, ev_mVar, ev_nextS, frzS, ev_yesM, List.append_nil, List.cons_append, List.nil_append, List.length_cons, List.length_nil, Nat.zero_add, Nat.reduceAdd, reduceIte, addD, subD, ltD, gtD, geD, leD, negD, DL.intD, absD, lenD, truD, DL.isNon, truB, strCD, extS, apS, DL.setAll, DL.assignT, List.getElem?_cons_succ, List.getElem?_cons_zero, List.set_cons_succ, List.set_cons_zero, if_true, Bool.false_eq_true, if_false, Bool.not_true, Bool.not_false, List.map_cons, List.map_nil, dOnly, lstD, Nat.reduceLeDiff, l_settle h]) hy
theorem v_fault : lamM n__law_complaint m__law_complaint (callF 3 f_row_fault [] (consM (lstM (consM (retM (.int 1)) (retM []))) (consM (mVar 12) (consM (retM .non) (retM []))))) [x0, x1, x2, x3, x4, x5, x6, x7, x8, x9, x10, x11, .d d, x13] s = .ok (.tup [.str "land", .str y], s) :=
  c_land (v := d) (by simp only [ev_m1, ev_m2, ev_consM, ev_callM, ev_callF, ev_truM, ev_andT, ev_orT, ev_notT, ev_andV, ev_orV, ev_notV, ev_ifM, ev_tupM, ev_lstM, ev_partM, ev_parS, ev_par3S, ev_parOS, ev_asgS, ev_setS, ev_retS, ev_exprS, ev_ifS, ev_ownS, ev_raiseS, ev_makeF, ev_methF, ev_chT, ev_itM, ev_itA, ev_sliceM, ev_selfS, ev_penGet, ev_penPut, ev_mStr1, ev_thenS, ev_bindM, ev_retM, ev_optM, ev_mVar, ev_nextS, frzS, ev_yesM, List.append_nil, List.cons_append, List.nil_append, List.length_cons, List.length_nil, Nat.zero_add, Nat.reduceAdd, reduceIte, addD, subD, ltD, gtD, geD, leD, negD, DL.intD, absD, lenD, truD, DL.isNon, truB, strCD, extS, apS, DL.setAll, DL.assignT, List.getElem?_cons_succ, List.getElem?_cons_zero, List.set_cons_succ, List.set_cons_zero, if_true, Bool.false_eq_true, if_false, Bool.not_true, Bool.not_false, List.map_cons, List.map_nil, dOnly, lstD, Nat.reduceLeDiff, l_fault h]) hy
end
section
variable (h : NoPoly d) (hy : reprD [d] = some (.str y))
include h hy
theorem u_total : lamM n__law_complaint m__law_complaint (callF 2 f_row_total [] (consM (lstM (consM (retM (.int 1)) (retM []))) (consM (mVar 13) (retM [])))) [x0, x1, x2, x3, x4, x5, x6, x7, x8, x9, x10, x11, x12, .d d] s = .ok (.tup [.str "item", .str y], s) :=
  c_item (v := d) (by simp only [ev_m1, ev_m2, ev_consM, ev_callM, ev_callF, ev_truM, ev_andT, ev_orT, ev_notT, ev_andV, ev_orV, ev_notV, ev_ifM, ev_tupM, ev_lstM, ev_partM, ev_parS, ev_par3S, ev_parOS, ev_asgS, ev_setS, ev_retS, ev_exprS, ev_ifS, ev_ownS, ev_raiseS, ev_makeF, ev_methF, ev_chT, ev_itM, ev_itA, ev_sliceM, ev_selfS, ev_penGet, ev_penPut, ev_mStr1, ev_thenS, ev_bindM, ev_retM, ev_optM, ev_mVar, ev_nextS, frzS, ev_yesM, List.append_nil, List.cons_append, List.nil_append, List.length_cons, List.length_nil, Nat.zero_add, Nat.reduceAdd, reduceIte, addD, subD, ltD, gtD, geD, leD, negD, DL.intD, absD, lenD, truD, DL.isNon, truB, strCD, extS, apS, DL.setAll, DL.assignT, List.getElem?_cons_succ, List.getElem?_cons_zero, List.set_cons_succ, List.set_cons_zero, if_true, Bool.false_eq_true, if_false, Bool.not_true, Bool.not_false, List.map_cons, List.map_nil, dOnly, lstD, Nat.reduceLeDiff, w_total h]) hy
theorem u_table : lamM n__law_complaint m__law_complaint (callF 2 f_table_of [] (consM (lstM (consM (retM (.int 1)) (retM []))) (consM (mVar 13) (retM [])))) [x0, x1, x2, x3, x4, x5, x6, x7, x8, x9, x10, x11, x12, .d d] s = .ok (.tup [.str "item", .str y], s) :=
  c_item (v := d) (by simp only [ev_m1, ev_m2, ev_consM, ev_callM, ev_callF, ev_truM, ev_andT, ev_orT, ev_notT, ev_andV, ev_orV, ev_notV, ev_ifM, ev_tupM, ev_lstM, ev_partM, ev_parS, ev_par3S, ev_parOS, ev_asgS, ev_setS, ev_retS, ev_exprS, ev_ifS, ev_ownS, ev_raiseS, ev_makeF, ev_methF, ev_chT, ev_itM, ev_itA, ev_sliceM, ev_selfS, ev_penGet, ev_penPut, ev_mStr1, ev_thenS, ev_bindM, ev_retM, ev_optM, ev_mVar, ev_nextS, frzS, ev_yesM, List.append_nil, List.cons_append, List.nil_append, List.length_cons, List.length_nil, Nat.zero_add, Nat.reduceAdd, reduceIte, addD, subD, ltD, gtD, geD, leD, negD, DL.intD, absD, lenD, truD, DL.isNon, truB, strCD, extS, apS, DL.setAll, DL.assignT, List.getElem?_cons_succ, List.getElem?_cons_zero, List.set_cons_succ, List.set_cons_zero, if_true, Bool.false_eq_true, if_false, Bool.not_true, Bool.not_false, List.map_cons, List.map_nil, dOnly, lstD, Nat.reduceLeDiff, w_table h]) hy
theorem u_minors : lamM n__law_complaint m__law_complaint (callF 2 f_minors [] (consM (lstM (consM (retM (.int 1)) (retM []))) (consM (mVar 13) (retM [])))) [x0, x1, x2, x3, x4, x5, x6, x7, x8, x9, x10, x11, x12, .d d] s = .ok (.tup [.str "item", .str y], s) :=
  c_item (v := d) (by simp only [ev_m1, ev_m2, ev_consM, ev_callM, ev_callF, ev_truM, ev_andT, ev_orT, ev_notT, ev_andV, ev_orV, ev_notV, ev_ifM, ev_tupM, ev_lstM, ev_partM, ev_parS, ev_par3S, ev_parOS, ev_asgS, ev_setS, ev_retS, ev_exprS, ev_ifS, ev_ownS, ev_raiseS, ev_makeF, ev_methF, ev_chT, ev_itM, ev_itA, ev_sliceM, ev_selfS, ev_penGet, ev_penPut, ev_mStr1, ev_thenS, ev_bindM, ev_retM, ev_optM, ev_mVar, ev_nextS, frzS, ev_yesM, List.append_nil, List.cons_append, List.nil_append, List.length_cons, List.length_nil, Nat.zero_add, Nat.reduceAdd, reduceIte, addD, subD, ltD, gtD, geD, leD, negD, DL.intD, absD, lenD, truD, DL.isNon, truB, strCD, extS, apS, DL.setAll, DL.assignT, List.getElem?_cons_succ, List.getElem?_cons_zero, List.set_cons_succ, List.set_cons_zero, if_true, Bool.false_eq_true, if_false, Bool.not_true, Bool.not_false, List.map_cons, List.map_nil, dOnly, lstD, Nat.reduceLeDiff, w_minors h]) hy
theorem u_split : lamM n__law_complaint m__law_complaint (callF 2 f_split [] (consM (lstM (consM (retM (.int 1)) (retM []))) (consM (mVar 13) (retM [])))) [x0, x1, x2, x3, x4, x5, x6, x7, x8, x9, x10, x11, x12, .d d] s = .ok (.tup [.str "item", .str y], s) :=
  c_item (v := d) (by simp only [ev_m1, ev_m2, ev_consM, ev_callM, ev_callF, ev_truM, ev_andT, ev_orT, ev_notT, ev_andV, ev_orV, ev_notV, ev_ifM, ev_tupM, ev_lstM, ev_partM, ev_parS, ev_par3S, ev_parOS, ev_asgS, ev_setS, ev_retS, ev_exprS, ev_ifS, ev_ownS, ev_raiseS, ev_makeF, ev_methF, ev_chT, ev_itM, ev_itA, ev_sliceM, ev_selfS, ev_penGet, ev_penPut, ev_mStr1, ev_thenS, ev_bindM, ev_retM, ev_optM, ev_mVar, ev_nextS, frzS, ev_yesM, List.append_nil, List.cons_append, List.nil_append, List.length_cons, List.length_nil, Nat.zero_add, Nat.reduceAdd, reduceIte, addD, subD, ltD, gtD, geD, leD, negD, DL.intD, absD, lenD, truD, DL.isNon, truB, strCD, extS, apS, DL.setAll, DL.assignT, List.getElem?_cons_succ, List.getElem?_cons_zero, List.set_cons_succ, List.set_cons_zero, if_true, Bool.false_eq_true, if_false, Bool.not_true, Bool.not_false, List.map_cons, List.map_nil, dOnly, lstD, Nat.reduceLeDiff, w_split h]) hy
end
end
theorem Pl.same {n : Nat} {d : D} (h : Pl n d) (ds : List D) (hd : ∀ x ∈ ds, x = d) : Pl (n + 1) (.lst ds) := Pl.lst fun x hx => by rw [hd x hx]; exact h
theorem law_good (cells : List Int) (h : good cells) : lawTrue 13 1 m_law cells := by
  show ∃ s', m_law [.d (.lst (cells.map .int)), .d .st, .no, .no, .no, .no, .no, .no, .no, .no, .no, .no, .no, .no] (pen0 cells) = .ok (.rt (.bl true), s')
  suffices key : DL.W (m_law [.d (.lst (cells.map .int)), .d .st, .no, .no, .no, .no, .no, .no, .no, .no, .no, .no, .no, .no] (pen0 cells)) (fun os => ∃ s', os = (.rt (.bl true), s')) noE by
    obtain ⟨os, e, s', rfl⟩ := key.ex fun _ _ _ z => z
    exact ⟨s', e⟩
  generalize D.lst (cells.map .int) = c
  have h0 : PenOk 100 (pen0 cells) := (pen0_ok cells).mono (by decide)
  generalize pen0 cells = p0 at h0
  unfold m_law
  refine DL.W.seq (DL.W.forT (fun i : Nat => D.int (i : Int)) (xs := List.range 4) (s1 := p0) (it_rng1 (by simp only [ev_m1, ev_m2, ev_consM, ev_callM, ev_callF, ev_truM, ev_andT, ev_orT, ev_notT, ev_andV, ev_orV, ev_notV, ev_ifM, ev_tupM, ev_lstM, ev_partM, ev_parS, ev_par3S, ev_parOS, ev_asgS, ev_setS, ev_retS, ev_exprS, ev_ifS, ev_ownS, ev_raiseS, ev_makeF, ev_methF, ev_chT, ev_itM, ev_itA, ev_sliceM, ev_selfS, ev_penGet, ev_penPut, ev_mStr1, ev_thenS, ev_bindM, ev_retM, ev_optM, ev_mVar, ev_nextS, frzS, ev_yesM, List.append_nil, List.cons_append, List.nil_append, List.length_cons, List.length_nil, Nat.zero_add, Nat.reduceAdd, reduceIte, addD, subD, ltD, gtD, geD, leD, negD, DL.intD, absD, lenD, truD, DL.isNon, truB, strCD, extS, apS, DL.setAll, DL.assignT, List.getElem?_cons_succ, List.getElem?_cons_zero, List.set_cons_succ, List.set_cons_zero, if_true, Bool.false_eq_true, if_false, Bool.not_true, Bool.not_false]; rfl) (by decide)) (fun r env p' => ∃ k x2 x3 x5 x6 x8, k + r.length = 4 ∧ env = [.d c, .d .st, x2, x3, .no, x5, x6, .no, x8, .no, .no, .no, .no, .no] ∧ PenOk (100 + 60 * k) p') ⟨0, _, _, _, _, _, rfl, rfl, h0⟩ ?_ ?_)
  · rintro i r env p' ⟨k, x2, x3, x5, x6, x8, hk, he, hp⟩
    subst he
    simp only [List.length_cons] at hk
    exact ⟨_, rfl, lap_holds hp (by omega) fun y3 y5 y6 y8 p' hp' => ⟨k + 1, _, _, _, _, _, by omega, rfl, hp'⟩⟩
  · rintro env p' ⟨k, x2, x3, x5, x6, x8, hk, he, hp⟩
    subst he
    have hp : PenOk 340 p' := hp.mono (by simp at hk; omega)
    rw [KS_nx]
    clear h0 hk
    obtain ⟨od, q1, f1, om, k1⟩ := pick_lst hp (by decide) (xs := [.non, .int 5, .tup [], .lst [], .str "1", .lst [.int 1, .non], .lst [.int 1, .bl true], .lst [.str "1"], .lst [.int 1, .int 1, .int 1, .int 1, .int 1, .int 1, .int 1, .int 1, .int 1, .int 1, .int 1, .int 1, .int 1, .int 1], .lst [.tup [.int 1, .int 1]]]) (by simp) (by decide)
    obtain ⟨la, q2, f2, lm, k2⟩ := pick_lst k1 (by decide) (xs := [.non, .str "Line", .str "circle", .int 3, .tup [.str "line"], .str ""]) (by simp) (by decide)
    obtain ⟨wr, q3, f3, wm, k3⟩ := pick_lst k2 (by decide) (xs := [.non, .int 3, .str "x", .tup [.int 1, .int 1]]) (by simp) (by decide)
    have ho : Odd od := odd_of (by
      simp only [List.mem_cons, List.not_mem_nil, or_false] at om
      rcases om with rfl | rfl | rfl | rfl | rfl | rfl | rfl | rfl | rfl | rfl <;> decide +kernel)
    have hl : NoLand la := by
      simp only [List.mem_cons, List.not_mem_nil, or_false] at lm
      rcases lm with rfl | rfl | rfl | rfl | rfl | rfl <;> first | exact ⟨.inl rfl, by decide +kernel⟩ | exact ⟨.inr ⟨rfl, by kernel_rfl⟩, by decide +kernel⟩
    have hw : NoPoly wr := by
      simp only [List.mem_cons, List.not_mem_nil, or_false] at wm
      rcases wm with rfl | rfl | rfl | rfl <;> exact ⟨rfl, by decide +kernel⟩
    obtain ⟨yo, so, to⟩ := shw ho.s
    obtain ⟨yl, sl, tl⟩ := shw hl.s
    obtain ⟨yw, sw, tw⟩ := shw hw.s
    have p1 := neD_self (Pl.same (Pl.strs2 (lit_ok "row") to) [.tup [.str "row", .str yo], .tup [.str "row", .str yo], .tup [.str "row", .str yo], .tup [.str "row", .str yo], .tup [.str "row", .str yo], .tup [.str "row", .str yo]] (by simp)) (by decide)
    have p2 := neD_self (Pl.strs2 (lit_ok "land") tl) (by decide)
    have p3 := eqD_self (Pl.same (Pl.strs2 (lit_ok "item") tw) [.tup [.str "item", .str yw], .tup [.str "item", .str yw], .tup [.str "item", .str yw], .tup [.str "item", .str yw]] (by simp)) (by decide)
    refine DL.W.step (by simp only [ev_m1, ev_m2, ev_consM, ev_callM, ev_callF, ev_truM, ev_andT, ev_orT, ev_notT, ev_andV, ev_orV, ev_notV, ev_ifM, ev_tupM, ev_lstM, ev_partM, ev_parS, ev_par3S, ev_parOS, ev_asgS, ev_setS, ev_retS, ev_exprS, ev_ifS, ev_ownS, ev_raiseS, ev_makeF, ev_methF, ev_chT, ev_itM, ev_itA, ev_sliceM, ev_selfS, ev_penGet, ev_penPut, ev_mStr1, ev_thenS, ev_bindM, ev_retM, ev_optM, ev_mVar, ev_nextS, frzS, ev_yesM, List.append_nil, List.cons_append, List.nil_append, List.length_cons, List.length_nil, Nat.zero_add, Nat.reduceAdd, reduceIte, addD, subD, ltD, gtD, geD, leD, negD, DL.intD, absD, lenD, truD, DL.isNon, truB, strCD, extS, apS, DL.setAll, DL.assignT, List.getElem?_cons_succ, List.getElem?_cons_zero, List.set_cons_succ, List.set_cons_zero, if_true, Bool.false_eq_true, if_false, Bool.not_true, Bool.not_false, W_ok, W_exc, KS_nx, KS_rt, Bool.true_and, Bool.and_true, Bool.false_or, Bool.or_false, Bool.and_false, Bool.or_true, Bool.false_and, Bool.true_or, tupD, lstD, Nat.reduceLeDiff, rep1, x_pick, f1] <;> rfl) ?_
    refine DL.W.step (by simp only [ev_m1, ev_m2, ev_consM, ev_callM, ev_callF, ev_truM, ev_andT, ev_orT, ev_notT, ev_andV, ev_orV, ev_notV, ev_ifM, ev_tupM, ev_lstM, ev_partM, ev_parS, ev_par3S, ev_parOS, ev_asgS, ev_setS, ev_retS, ev_exprS, ev_ifS, ev_ownS, ev_raiseS, ev_makeF, ev_methF, ev_chT, ev_itM, ev_itA, ev_sliceM, ev_selfS, ev_penGet, ev_penPut, ev_mStr1, ev_thenS, ev_bindM, ev_retM, ev_optM, ev_mVar, ev_nextS, frzS, ev_yesM, List.append_nil, List.cons_append, List.nil_append, List.length_cons, List.length_nil, Nat.zero_add, Nat.reduceAdd, reduceIte, addD, subD, ltD, gtD, geD, leD, negD, DL.intD, absD, lenD, truD, DL.isNon, truB, strCD, extS, apS, DL.setAll, DL.assignT, List.getElem?_cons_succ, List.getElem?_cons_zero, List.set_cons_succ, List.set_cons_zero, if_true, Bool.false_eq_true, if_false, Bool.not_true, Bool.not_false, W_ok, W_exc, KS_nx, KS_rt, Bool.true_and, Bool.and_true, Bool.false_or, Bool.or_false, Bool.and_false, Bool.or_true, Bool.false_and, Bool.true_or, tupD, Nat.reduceLeDiff, one_v] <;> rfl) ?_
    refine DL.W.step (by simp only [ev_m1, ev_m2, ev_consM, ev_callM, ev_callF, ev_truM, ev_andT, ev_orT, ev_notT, ev_andV, ev_orV, ev_notV, ev_ifM, ev_tupM, ev_lstM, ev_partM, ev_parS, ev_par3S, ev_parOS, ev_asgS, ev_setS, ev_retS, ev_exprS, ev_ifS, ev_ownS, ev_raiseS, ev_makeF, ev_methF, ev_chT, ev_itM, ev_itA, ev_sliceM, ev_selfS, ev_penGet, ev_penPut, ev_mStr1, ev_thenS, ev_bindM, ev_retM, ev_optM, ev_mVar, ev_nextS, frzS, ev_yesM, List.append_nil, List.cons_append, List.nil_append, List.length_cons, List.length_nil, Nat.zero_add, Nat.reduceAdd, reduceIte, addD, subD, ltD, gtD, geD, leD, negD, DL.intD, absD, lenD, truD, DL.isNon, truB, strCD, extS, apS, DL.setAll, DL.assignT, List.getElem?_cons_succ, List.getElem?_cons_zero, List.set_cons_succ, List.set_cons_zero, if_true, Bool.false_eq_true, if_false, Bool.not_true, Bool.not_false, W_ok, W_exc, KS_nx, KS_rt, Bool.true_and, Bool.and_true, Bool.false_or, Bool.or_false, Bool.and_false, Bool.or_true, Bool.false_and, Bool.true_or, q_settle _ ho so, Nat.reduceLeDiff] <;> rfl) ?_
    refine DL.W.step (by simp only [ev_m1, ev_m2, ev_consM, ev_callM, ev_callF, ev_truM, ev_andT, ev_orT, ev_notT, ev_andV, ev_orV, ev_notV, ev_ifM, ev_tupM, ev_lstM, ev_partM, ev_parS, ev_par3S, ev_parOS, ev_asgS, ev_setS, ev_retS, ev_exprS, ev_ifS, ev_ownS, ev_raiseS, ev_makeF, ev_methF, ev_chT, ev_itM, ev_itA, ev_sliceM, ev_selfS, ev_penGet, ev_penPut, ev_mStr1, ev_thenS, ev_bindM, ev_retM, ev_optM, ev_mVar, ev_nextS, frzS, ev_yesM, List.append_nil, List.cons_append, List.nil_append, List.length_cons, List.length_nil, Nat.zero_add, Nat.reduceAdd, reduceIte, addD, subD, ltD, gtD, geD, leD, negD, DL.intD, absD, lenD, truD, DL.isNon, truB, strCD, extS, apS, DL.setAll, DL.assignT, List.getElem?_cons_succ, List.getElem?_cons_zero, List.set_cons_succ, List.set_cons_zero, if_true, Bool.false_eq_true, if_false, Bool.not_true, Bool.not_false, W_ok, W_exc, KS_nx, KS_rt, Bool.true_and, Bool.and_true, Bool.false_or, Bool.or_false, Bool.and_false, Bool.or_true, Bool.false_and, Bool.true_or, q_fault _ ho so, Nat.reduceLeDiff, Nat.reduceLT, List.length_append] <;> rfl) ?_
    refine DL.W.step (by simp only [ev_m1, ev_m2, ev_consM, ev_callM, ev_callF, ev_truM, ev_andT, ev_orT, ev_notT, ev_andV, ev_orV, ev_notV, ev_ifM, ev_tupM, ev_lstM, ev_partM, ev_parS, ev_par3S, ev_parOS, ev_asgS, ev_setS, ev_retS, ev_exprS, ev_ifS, ev_ownS, ev_raiseS, ev_makeF, ev_methF, ev_chT, ev_itM, ev_itA, ev_sliceM, ev_selfS, ev_penGet, ev_penPut, ev_mStr1, ev_thenS, ev_bindM, ev_retM, ev_optM, ev_mVar, ev_nextS, frzS, ev_yesM, List.append_nil, List.cons_append, List.nil_append, List.length_cons, List.length_nil, Nat.zero_add, Nat.reduceAdd, reduceIte, addD, subD, ltD, gtD, geD, leD, negD, DL.intD, absD, lenD, truD, DL.isNon, truB, strCD, extS, apS, DL.setAll, DL.assignT, List.getElem?_cons_succ, List.getElem?_cons_zero, List.set_cons_succ, List.set_cons_zero, if_true, Bool.false_eq_true, if_false, Bool.not_true, Bool.not_false, W_ok, W_exc, KS_nx, KS_rt, Bool.true_and, Bool.and_true, Bool.false_or, Bool.or_false, Bool.and_false, Bool.or_true, Bool.false_and, Bool.true_or, q_total _ ho so, Nat.reduceLeDiff, Nat.reduceLT, List.length_append] <;> rfl) ?_
    refine DL.W.step (by simp only [ev_m1, ev_m2, ev_consM, ev_callM, ev_callF, ev_truM, ev_andT, ev_orT, ev_notT, ev_andV, ev_orV, ev_notV, ev_ifM, ev_tupM, ev_lstM, ev_partM, ev_parS, ev_par3S, ev_parOS, ev_asgS, ev_setS, ev_retS, ev_exprS, ev_ifS, ev_ownS, ev_raiseS, ev_makeF, ev_methF, ev_chT, ev_itM, ev_itA, ev_sliceM, ev_selfS, ev_penGet, ev_penPut, ev_mStr1, ev_thenS, ev_bindM, ev_retM, ev_optM, ev_mVar, ev_nextS, frzS, ev_yesM, List.append_nil, List.cons_append, List.nil_append, List.length_cons, List.length_nil, Nat.zero_add, Nat.reduceAdd, reduceIte, addD, subD, ltD, gtD, geD, leD, negD, DL.intD, absD, lenD, truD, DL.isNon, truB, strCD, extS, apS, DL.setAll, DL.assignT, List.getElem?_cons_succ, List.getElem?_cons_zero, List.set_cons_succ, List.set_cons_zero, if_true, Bool.false_eq_true, if_false, Bool.not_true, Bool.not_false, W_ok, W_exc, KS_nx, KS_rt, Bool.true_and, Bool.and_true, Bool.false_or, Bool.or_false, Bool.and_false, Bool.or_true, Bool.false_and, Bool.true_or, q_table _ ho so, Nat.reduceLeDiff, Nat.reduceLT, List.length_append] <;> rfl) ?_
    refine DL.W.step (by simp only [ev_m1, ev_m2, ev_consM, ev_callM, ev_callF, ev_truM, ev_andT, ev_orT, ev_notT, ev_andV, ev_orV, ev_notV, ev_ifM, ev_tupM, ev_lstM, ev_partM, ev_parS, ev_par3S, ev_parOS, ev_asgS, ev_setS, ev_retS, ev_exprS, ev_ifS, ev_ownS, ev_raiseS, ev_makeF, ev_methF, ev_chT, ev_itM, ev_itA, ev_sliceM, ev_selfS, ev_penGet, ev_penPut, ev_mStr1, ev_thenS, ev_bindM, ev_retM, ev_optM, ev_mVar, ev_nextS, frzS, ev_yesM, List.append_nil, List.cons_append, List.nil_append, List.length_cons, List.length_nil, Nat.zero_add, Nat.reduceAdd, reduceIte, addD, subD, ltD, gtD, geD, leD, negD, DL.intD, absD, lenD, truD, DL.isNon, truB, strCD, extS, apS, DL.setAll, DL.assignT, List.getElem?_cons_succ, List.getElem?_cons_zero, List.set_cons_succ, List.set_cons_zero, if_true, Bool.false_eq_true, if_false, Bool.not_true, Bool.not_false, W_ok, W_exc, KS_nx, KS_rt, Bool.true_and, Bool.and_true, Bool.false_or, Bool.or_false, Bool.and_false, Bool.or_true, Bool.false_and, Bool.true_or, q_minors _ ho so, Nat.reduceLeDiff, Nat.reduceLT, List.length_append] <;> rfl) ?_
    refine DL.W.step (by simp only [ev_m1, ev_m2, ev_consM, ev_callM, ev_callF, ev_truM, ev_andT, ev_orT, ev_notT, ev_andV, ev_orV, ev_notV, ev_ifM, ev_tupM, ev_lstM, ev_partM, ev_parS, ev_par3S, ev_parOS, ev_asgS, ev_setS, ev_retS, ev_exprS, ev_ifS, ev_ownS, ev_raiseS, ev_makeF, ev_methF, ev_chT, ev_itM, ev_itA, ev_sliceM, ev_selfS, ev_penGet, ev_penPut, ev_mStr1, ev_thenS, ev_bindM, ev_retM, ev_optM, ev_mVar, ev_nextS, frzS, ev_yesM, List.append_nil, List.cons_append, List.nil_append, List.length_cons, List.length_nil, Nat.zero_add, Nat.reduceAdd, reduceIte, addD, subD, ltD, gtD, geD, leD, negD, DL.intD, absD, lenD, truD, DL.isNon, truB, strCD, extS, apS, DL.setAll, DL.assignT, List.getElem?_cons_succ, List.getElem?_cons_zero, List.set_cons_succ, List.set_cons_zero, if_true, Bool.false_eq_true, if_false, Bool.not_true, Bool.not_false, W_ok, W_exc, KS_nx, KS_rt, Bool.true_and, Bool.and_true, Bool.false_or, Bool.or_false, Bool.and_false, Bool.or_true, Bool.false_and, Bool.true_or, q_split _ ho so, Nat.reduceLeDiff, Nat.reduceLT, List.length_append] <;> rfl) ?_
    refine DL.W.step (by simp only [ev_m1, ev_m2, ev_consM, ev_callM, ev_callF, ev_truM, ev_andT, ev_orT, ev_notT, ev_andV, ev_orV, ev_notV, ev_ifM, ev_tupM, ev_lstM, ev_partM, ev_parS, ev_par3S, ev_parOS, ev_asgS, ev_setS, ev_retS, ev_exprS, ev_ifS, ev_ownS, ev_raiseS, ev_makeF, ev_methF, ev_chT, ev_itM, ev_itA, ev_sliceM, ev_selfS, ev_penGet, ev_penPut, ev_mStr1, ev_thenS, ev_bindM, ev_retM, ev_optM, ev_mVar, ev_nextS, frzS, ev_yesM, List.append_nil, List.cons_append, List.nil_append, List.length_cons, List.length_nil, Nat.zero_add, Nat.reduceAdd, reduceIte, addD, subD, ltD, gtD, geD, leD, negD, DL.intD, absD, lenD, truD, DL.isNon, truB, strCD, extS, apS, DL.setAll, DL.assignT, List.getElem?_cons_succ, List.getElem?_cons_zero, List.set_cons_succ, List.set_cons_zero, if_true, Bool.false_eq_true, if_false, Bool.not_true, Bool.not_false, W_ok, W_exc, KS_nx, KS_rt, Bool.true_and, Bool.and_true, Bool.false_or, Bool.or_false, Bool.and_false, Bool.or_true, Bool.false_and, Bool.true_or] <;> rfl) ?_
    refine DL.W.step (by simp only [ev_m1, ev_m2, ev_consM, ev_callM, ev_callF, ev_truM, ev_andT, ev_orT, ev_notT, ev_andV, ev_orV, ev_notV, ev_ifM, ev_tupM, ev_lstM, ev_partM, ev_parS, ev_par3S, ev_parOS, ev_asgS, ev_setS, ev_retS, ev_exprS, ev_ifS, ev_ownS, ev_raiseS, ev_makeF, ev_methF, ev_chT, ev_itM, ev_itA, ev_sliceM, ev_selfS, ev_penGet, ev_penPut, ev_mStr1, ev_thenS, ev_bindM, ev_retM, ev_optM, ev_mVar, ev_nextS, frzS, ev_yesM, List.append_nil, List.cons_append, List.nil_append, List.length_cons, List.length_nil, Nat.zero_add, Nat.reduceAdd, reduceIte, addD, subD, ltD, gtD, geD, leD, negD, DL.intD, absD, lenD, truD, DL.isNon, truB, strCD, extS, apS, DL.setAll, DL.assignT, List.getElem?_cons_succ, List.getElem?_cons_zero, List.set_cons_succ, List.set_cons_zero, if_true, Bool.false_eq_true, if_false, Bool.not_true, Bool.not_false, W_ok, W_exc, KS_nx, KS_rt, Bool.true_and, Bool.and_true, Bool.false_or, Bool.or_false, Bool.and_false, Bool.or_true, Bool.false_and, Bool.true_or, so, tupD, lstD, Nat.reduceLeDiff, rep6, p1] <;> rfl) ?_
    refine DL.W.step (by simp only [ev_m1, ev_m2, ev_consM, ev_callM, ev_callF, ev_truM, ev_andT, ev_orT, ev_notT, ev_andV, ev_orV, ev_notV, ev_ifM, ev_tupM, ev_lstM, ev_partM, ev_parS, ev_par3S, ev_parOS, ev_asgS, ev_setS, ev_retS, ev_exprS, ev_ifS, ev_ownS, ev_raiseS, ev_makeF, ev_methF, ev_chT, ev_itM, ev_itA, ev_sliceM, ev_selfS, ev_penGet, ev_penPut, ev_mStr1, ev_thenS, ev_bindM, ev_retM, ev_optM, ev_mVar, ev_nextS, frzS, ev_yesM, List.append_nil, List.cons_append, List.nil_append, List.length_cons, List.length_nil, Nat.zero_add, Nat.reduceAdd, reduceIte, addD, subD, ltD, gtD, geD, leD, negD, DL.intD, absD, lenD, truD, DL.isNon, truB, strCD, extS, apS, DL.setAll, DL.assignT, List.getElem?_cons_succ, List.getElem?_cons_zero, List.set_cons_succ, List.set_cons_zero, if_true, Bool.false_eq_true, if_false, Bool.not_true, Bool.not_false, W_ok, W_exc, KS_nx, KS_rt, Bool.true_and, Bool.and_true, Bool.false_or, Bool.or_false, Bool.and_false, Bool.or_true, Bool.false_and, Bool.true_or, tupD, lstD, Nat.reduceLeDiff, x_pick, f2] <;> rfl) ?_
    refine DL.W.step (by simp only [ev_m1, ev_m2, ev_consM, ev_callM, ev_callF, ev_truM, ev_andT, ev_orT, ev_notT, ev_andV, ev_orV, ev_notV, ev_ifM, ev_tupM, ev_lstM, ev_partM, ev_parS, ev_par3S, ev_parOS, ev_asgS, ev_setS, ev_retS, ev_exprS, ev_ifS, ev_ownS, ev_raiseS, ev_makeF, ev_methF, ev_chT, ev_itM, ev_itA, ev_sliceM, ev_selfS, ev_penGet, ev_penPut, ev_mStr1, ev_thenS, ev_bindM, ev_retM, ev_optM, ev_mVar, ev_nextS, frzS, ev_yesM, List.append_nil, List.cons_append, List.nil_append, List.length_cons, List.length_nil, Nat.zero_add, Nat.reduceAdd, reduceIte, addD, subD, ltD, gtD, geD, leD, negD, DL.intD, absD, lenD, truD, DL.isNon, truB, strCD, extS, apS, DL.setAll, DL.assignT, List.getElem?_cons_succ, List.getElem?_cons_zero, List.set_cons_succ, List.set_cons_zero, if_true, Bool.false_eq_true, if_false, Bool.not_true, Bool.not_false, W_ok, W_exc, KS_nx, KS_rt, Bool.true_and, Bool.and_true, Bool.false_or, Bool.or_false, Bool.and_false, Bool.or_true, Bool.false_and, Bool.true_or, v_settle _ hl sl, sl, tupD, Nat.reduceLeDiff, p2] <;> rfl) ?_
    refine DL.W.step (by simp only [ev_m1, ev_m2, ev_consM, ev_callM, ev_callF, ev_truM, ev_andT, ev_orT, ev_notT, ev_andV, ev_orV, ev_notV, ev_ifM, ev_tupM, ev_lstM, ev_partM, ev_parS, ev_par3S, ev_parOS, ev_asgS, ev_setS, ev_retS, ev_exprS, ev_ifS, ev_ownS, ev_raiseS, ev_makeF, ev_methF, ev_chT, ev_itM, ev_itA, ev_sliceM, ev_selfS, ev_penGet, ev_penPut, ev_mStr1, ev_thenS, ev_bindM, ev_retM, ev_optM, ev_mVar, ev_nextS, frzS, ev_yesM, List.append_nil, List.cons_append, List.nil_append, List.length_cons, List.length_nil, Nat.zero_add, Nat.reduceAdd, reduceIte, addD, subD, ltD, gtD, geD, leD, negD, DL.intD, absD, lenD, truD, DL.isNon, truB, strCD, extS, apS, DL.setAll, DL.assignT, List.getElem?_cons_succ, List.getElem?_cons_zero, List.set_cons_succ, List.set_cons_zero, if_true, Bool.false_eq_true, if_false, Bool.not_true, Bool.not_false, W_ok, W_exc, KS_nx, KS_rt, Bool.true_and, Bool.and_true, Bool.false_or, Bool.or_false, Bool.and_false, Bool.or_true, Bool.false_and, Bool.true_or, v_fault _ hl sl, sl, tupD, Nat.reduceLeDiff, p2] <;> rfl) ?_
    refine DL.W.step (by simp only [ev_m1, ev_m2, ev_consM, ev_callM, ev_callF, ev_truM, ev_andT, ev_orT, ev_notT, ev_andV, ev_orV, ev_notV, ev_ifM, ev_tupM, ev_lstM, ev_partM, ev_parS, ev_par3S, ev_parOS, ev_asgS, ev_setS, ev_retS, ev_exprS, ev_ifS, ev_ownS, ev_raiseS, ev_makeF, ev_methF, ev_chT, ev_itM, ev_itA, ev_sliceM, ev_selfS, ev_penGet, ev_penPut, ev_mStr1, ev_thenS, ev_bindM, ev_retM, ev_optM, ev_mVar, ev_nextS, frzS, ev_yesM, List.append_nil, List.cons_append, List.nil_append, List.length_cons, List.length_nil, Nat.zero_add, Nat.reduceAdd, reduceIte, addD, subD, ltD, gtD, geD, leD, negD, DL.intD, absD, lenD, truD, DL.isNon, truB, strCD, extS, apS, DL.setAll, DL.assignT, List.getElem?_cons_succ, List.getElem?_cons_zero, List.set_cons_succ, List.set_cons_zero, if_true, Bool.false_eq_true, if_false, Bool.not_true, Bool.not_false, W_ok, W_exc, KS_nx, KS_rt, Bool.true_and, Bool.and_true, Bool.false_or, Bool.or_false, Bool.and_false, Bool.or_true, Bool.false_and, Bool.true_or, tupD, lstD, Nat.reduceLeDiff, x_pick, f3] <;> rfl) ?_
    refine DL.W.step (by simp only [ev_m1, ev_m2, ev_consM, ev_callM, ev_callF, ev_truM, ev_andT, ev_orT, ev_notT, ev_andV, ev_orV, ev_notV, ev_ifM, ev_tupM, ev_lstM, ev_partM, ev_parS, ev_par3S, ev_parOS, ev_asgS, ev_setS, ev_retS, ev_exprS, ev_ifS, ev_ownS, ev_raiseS, ev_makeF, ev_methF, ev_chT, ev_itM, ev_itA, ev_sliceM, ev_selfS, ev_penGet, ev_penPut, ev_mStr1, ev_thenS, ev_bindM, ev_retM, ev_optM, ev_mVar, ev_nextS, frzS, ev_yesM, List.append_nil, List.cons_append, List.nil_append, List.length_cons, List.length_nil, Nat.zero_add, Nat.reduceAdd, reduceIte, addD, subD, ltD, gtD, geD, leD, negD, DL.intD, absD, lenD, truD, DL.isNon, truB, strCD, extS, apS, DL.setAll, DL.assignT, List.getElem?_cons_succ, List.getElem?_cons_zero, List.set_cons_succ, List.set_cons_zero, if_true, Bool.false_eq_true, if_false, Bool.not_true, Bool.not_false, W_ok, W_exc, KS_nx, KS_rt, Bool.true_and, Bool.and_true, Bool.false_or, Bool.or_false, Bool.and_false, Bool.or_true, Bool.false_and, Bool.true_or, u_total _ hw sw, Nat.reduceLeDiff] <;> rfl) ?_
    refine DL.W.step (by simp only [ev_m1, ev_m2, ev_consM, ev_callM, ev_callF, ev_truM, ev_andT, ev_orT, ev_notT, ev_andV, ev_orV, ev_notV, ev_ifM, ev_tupM, ev_lstM, ev_partM, ev_parS, ev_par3S, ev_parOS, ev_asgS, ev_setS, ev_retS, ev_exprS, ev_ifS, ev_ownS, ev_raiseS, ev_makeF, ev_methF, ev_chT, ev_itM, ev_itA, ev_sliceM, ev_selfS, ev_penGet, ev_penPut, ev_mStr1, ev_thenS, ev_bindM, ev_retM, ev_optM, ev_mVar, ev_nextS, frzS, ev_yesM, List.append_nil, List.cons_append, List.nil_append, List.length_cons, List.length_nil, Nat.zero_add, Nat.reduceAdd, reduceIte, addD, subD, ltD, gtD, geD, leD, negD, DL.intD, absD, lenD, truD, DL.isNon, truB, strCD, extS, apS, DL.setAll, DL.assignT, List.getElem?_cons_succ, List.getElem?_cons_zero, List.set_cons_succ, List.set_cons_zero, if_true, Bool.false_eq_true, if_false, Bool.not_true, Bool.not_false, W_ok, W_exc, KS_nx, KS_rt, Bool.true_and, Bool.and_true, Bool.false_or, Bool.or_false, Bool.and_false, Bool.or_true, Bool.false_and, Bool.true_or, u_table _ hw sw, Nat.reduceLeDiff, Nat.reduceLT, List.length_append] <;> rfl) ?_
    refine DL.W.step (by simp only [ev_m1, ev_m2, ev_consM, ev_callM, ev_callF, ev_truM, ev_andT, ev_orT, ev_notT, ev_andV, ev_orV, ev_notV, ev_ifM, ev_tupM, ev_lstM, ev_partM, ev_parS, ev_par3S, ev_parOS, ev_asgS, ev_setS, ev_retS, ev_exprS, ev_ifS, ev_ownS, ev_raiseS, ev_makeF, ev_methF, ev_chT, ev_itM, ev_itA, ev_sliceM, ev_selfS, ev_penGet, ev_penPut, ev_mStr1, ev_thenS, ev_bindM, ev_retM, ev_optM, ev_mVar, ev_nextS, frzS, ev_yesM, List.append_nil, List.cons_append, List.nil_append, List.length_cons, List.length_nil, Nat.zero_add, Nat.reduceAdd, reduceIte, addD, subD, ltD, gtD, geD, leD, negD, DL.intD, absD, lenD, truD, DL.isNon, truB, strCD, extS, apS, DL.setAll, DL.assignT, List.getElem?_cons_succ, List.getElem?_cons_zero, List.set_cons_succ, List.set_cons_zero, if_true, Bool.false_eq_true, if_false, Bool.not_true, Bool.not_false, W_ok, W_exc, KS_nx, KS_rt, Bool.true_and, Bool.and_true, Bool.false_or, Bool.or_false, Bool.and_false, Bool.or_true, Bool.false_and, Bool.true_or, u_minors _ hw sw, Nat.reduceLeDiff, Nat.reduceLT, List.length_append] <;> rfl) ?_
    refine DL.W.step (by simp only [ev_m1, ev_m2, ev_consM, ev_callM, ev_callF, ev_truM, ev_andT, ev_orT, ev_notT, ev_andV, ev_orV, ev_notV, ev_ifM, ev_tupM, ev_lstM, ev_partM, ev_parS, ev_par3S, ev_parOS, ev_asgS, ev_setS, ev_retS, ev_exprS, ev_ifS, ev_ownS, ev_raiseS, ev_makeF, ev_methF, ev_chT, ev_itM, ev_itA, ev_sliceM, ev_selfS, ev_penGet, ev_penPut, ev_mStr1, ev_thenS, ev_bindM, ev_retM, ev_optM, ev_mVar, ev_nextS, frzS, ev_yesM, List.append_nil, List.cons_append, List.nil_append, List.length_cons, List.length_nil, Nat.zero_add, Nat.reduceAdd, reduceIte, addD, subD, ltD, gtD, geD, leD, negD, DL.intD, absD, lenD, truD, DL.isNon, truB, strCD, extS, apS, DL.setAll, DL.assignT, List.getElem?_cons_succ, List.getElem?_cons_zero, List.set_cons_succ, List.set_cons_zero, if_true, Bool.false_eq_true, if_false, Bool.not_true, Bool.not_false, W_ok, W_exc, KS_nx, KS_rt, Bool.true_and, Bool.and_true, Bool.false_or, Bool.or_false, Bool.and_false, Bool.or_true, Bool.false_and, Bool.true_or, u_split _ hw sw, Nat.reduceLeDiff, Nat.reduceLT, List.length_append] <;> rfl) ?_
    refine DL.W.step (by simp only [ev_m1, ev_m2, ev_consM, ev_callM, ev_callF, ev_truM, ev_andT, ev_orT, ev_notT, ev_andV, ev_orV, ev_notV, ev_ifM, ev_tupM, ev_lstM, ev_partM, ev_parS, ev_par3S, ev_parOS, ev_asgS, ev_setS, ev_retS, ev_exprS, ev_ifS, ev_ownS, ev_raiseS, ev_makeF, ev_methF, ev_chT, ev_itM, ev_itA, ev_sliceM, ev_selfS, ev_penGet, ev_penPut, ev_mStr1, ev_thenS, ev_bindM, ev_retM, ev_optM, ev_mVar, ev_nextS, frzS, ev_yesM, List.append_nil, List.cons_append, List.nil_append, List.length_cons, List.length_nil, Nat.zero_add, Nat.reduceAdd, reduceIte, addD, subD, ltD, gtD, geD, leD, negD, DL.intD, absD, lenD, truD, DL.isNon, truB, strCD, extS, apS, DL.setAll, DL.assignT, List.getElem?_cons_succ, List.getElem?_cons_zero, List.set_cons_succ, List.set_cons_zero, if_true, Bool.false_eq_true, if_false, Bool.not_true, Bool.not_false, W_ok, W_exc, KS_nx, KS_rt, Bool.true_and, Bool.and_true, Bool.false_or, Bool.or_false, Bool.and_false, Bool.or_true, Bool.false_and, Bool.true_or] <;> rfl) ?_
    simp only [ev_m1, ev_m2, ev_consM, ev_callM, ev_callF, ev_truM, ev_andT, ev_orT, ev_notT, ev_andV, ev_orV, ev_notV, ev_ifM, ev_tupM, ev_lstM, ev_partM, ev_parS, ev_par3S, ev_parOS, ev_asgS, ev_setS, ev_retS, ev_exprS, ev_ifS, ev_ownS, ev_raiseS, ev_makeF, ev_methF, ev_chT, ev_itM, ev_itA, ev_sliceM, ev_selfS, ev_penGet, ev_penPut, ev_mStr1, ev_thenS, ev_bindM, ev_retM, ev_optM, ev_mVar, ev_nextS, frzS, ev_yesM, List.append_nil, List.cons_append, List.nil_append, List.length_cons, List.length_nil, Nat.zero_add, Nat.reduceAdd, reduceIte, addD, subD, ltD, gtD, geD, leD, negD, DL.intD, absD, lenD, truD, DL.isNon, truB, strCD, extS, apS, DL.setAll, DL.assignT, List.getElem?_cons_succ, List.getElem?_cons_zero, List.set_cons_succ, List.set_cons_zero, if_true, Bool.false_eq_true, if_false, Bool.not_true, Bool.not_false, W_ok, W_exc, KS_nx, KS_rt, Bool.true_and, Bool.and_true, Bool.false_or, Bool.or_false, Bool.and_false, Bool.or_true, Bool.false_and, Bool.true_or, sw, tupD, lstD, Nat.reduceLeDiff, rep4, p3]
    exact ⟨_, rfl⟩
end K22
set_option Elab.async false
set_option linter.all false
set_option maxRecDepth 100000
set_option maxHeartbeats 0
open PySem PySem.W PySem.Calls PyProof.Rows
theorem PySem.Challenge.cw_leverheaps_k22_rows_that_are_none_holds : PySem.Challenge.rw_leverheaps_k22_rows_that_are_none.Holds := by
  w_on; o_law
  refine HandSHeadRun.head_imp (r := OpenLaw.row PySem.Challenge.rw_leverheaps_k22_rows_that_are_none) (q := K22.hView) (H := K22.hook) (ob := K22.ob) (M := 9000) (loose := K22.names) (d := HandSHeadRun.topDef (OpenLaw.row PySem.Challenge.rw_leverheaps_k22_rows_that_are_none).prog 134) (kwd := []) (fun s => DL.obsX_eq (HandSHeadRun.getT_eq s)) K22.run (by kernel_rfl) (by kernel_rfl) (by kernel_rfl) (by rfl) (by first | assumption | decide +kernel) (by decide +kernel) ⟨rfl, rfl, rfl, rfl, rfl, by decide +kernel⟩ ?hw ?hc
  case hw => w_witness2
  case hc =>
    have hn : (HandSHeadRun.topDef (OpenLaw.row PySem.Challenge.rw_leverheaps_k22_rows_that_are_none).prog 134).name = ("law" : PySem.Str) := by kernel_rfl
    refine DL.walk_lawY (l := PySem.Challenge.rw_leverheaps_k22_rows_that_are_none) (n := 63) (k := 11) (x := "script") (good := K22.good) rfl (by decide) (by kernel_rfl) ⟨rfl, by decide, by decide⟩ K22.good_of ?F
    intro w mg fa h Y G hmg
    obtain ⟨K, c⟩ := Y
    exact ⟨K, c.kin, K22.law_mkY K22.law_good c G (hn ▸ hmg)⟩
